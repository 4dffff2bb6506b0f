import PyProof.Rows.All
import HandS.ForMost
import HandS.TupAny
import HandS.Wide
import HandS.WideBits
import HandS.Deep
import HandS.IsInst
import HandS.Style
import HandS.Conv
import HandS.Flow
import HandS.RaiseMore
import HandS.Defaults
import HandS.Gcd
import HandS.NoneIn
import KE.SortData
import HandS.Lambda
import HandS.TupMul
import KE.GoesEnum
import HandS.Zip
import HandS.Comp
import OpenK.KMore
import HandS.SetBool
import HandS.Strs
import KE.SortKeyHeap
import HandS.Iter
import HandS.Ends
import HandS.Head0
import HandS.Head1
import HandS.Head2
import HandS.HeadEnd
import HandS.HeadHook1
import HandS.HeadHook2
import KE.KNestM
import PyProof.Rows.StrJoinMade
import PySem.Challenge.RW_treeposts_k41_whole_least_costs_that_pro
import HandS.Head3
set_option Elab.async false
set_option linter.all false
set_option maxRecDepth 100000
/-! Iv1: data by value, the small language, what its words mean. Plain Lean, no heap. -/
namespace Iv
open PySem PySem.Spec L2

/-- a value with all that it holds -/
inductive D where
  | non | bl (b : Bool) | int (i : Int) | str (x : Str)
  | tup (xs : List D) | lst (xs : List D)
  /-- a dict without entries -/
  | emp

mutual
def D.p : D → PyData
  | .non => .none
  | .bl b => .bool b
  | .int i => .int i
  | .str x => .str x
  | .tup xs => .tuple (D.pAll xs)
  | .lst xs => .list (D.pAll xs)
  | .emp => .dict []
def D.pAll : List D → List PyData
  | [] => []
  | x :: xs => x.p :: D.pAll xs
end
theorem D.pAll_map : ∀ xs : List D, D.pAll xs = xs.map D.p
  | [] => by simp [D.pAll]
  | x :: xs => by simp [D.pAll, D.pAll_map xs]

/-- what a slot of a def holds: data, or a list that the def itself may change -/
inductive Slot where
  | none | dat (d : D) | own (xs : List D)
abbrev Env := List Slot

inductive R (α : Type) where
  | ok (a : α) (ρ : Env)
  | exc (c : Str) (p : List (Str × D)) (ρ : Env)
  | stuck
def R.bind {α β : Type} (r : R α) (k : α → Env → R β) : R β := match r with
  | .ok a ρ => k a ρ
  | .exc c p ρ => .exc c p ρ
  | .stuck => .stuck
def R.ofO {α : Type} (o : Option α) (ρ : Env) : R α := match o with
  | some a => .ok a ρ
  | Option.none => .stuck

/-- a call's end: the value, what its own lists hold behind it -/
inductive FR where
  | ok (d : D) (os : List (List D))
  | exc (c : Str) (p : List (Str × D)) (os : List (List D))
  | stuck

/-! ### operations on data -/
inductive Prim where
  | add | sub | mul | fdiv | mod | pow
  | eq | ne | lt | le | gt | ge | isin | notin | isN | notN
  | neg
  | idx | slc (lo hi : Bool) | rev
  | len | abs | max | min | sum | all | any | tuple | list | int1 | str1 | repr | divmod | isinst (Ts : List String)
  | index | gcd | sorted
  deriving DecidableEq

def D.ty : D → String
  | .non => "NoneType"
  | .bl _ => "bool"
  | .int _ => "int"
  | .str _ => "str"
  | .tup _ => "tuple"
  | .lst _ => "list"
  | .emp => "dict"
def D.isA (d : D) (T : String) : Bool := match d with
  | .bl _ => T == "bool" || T == "int"
  | .non => T == "NoneType"
  | .int _ => T == "int"
  | .str _ => T == "str"
  | .tup _ => T == "tuple"
  | .lst _ => T == "list"
  | .emp => T == "dict"

def line : Nat := 16777216
def shOk (d : D) : Bool := SeqAt.shaped d.p
def eqD (d e : D) : Option D := if shOk d && shOk e then some (.bl (PyData.eqv d.p e.p)) else none
def neD (d e : D) : Option D := if shOk d && shOk e then some (.bl (!PyData.eqv d.p e.p)) else none
def mulOk (i j : Int) : Bool := decide (i.natAbs < 2 ^ 64) || (decide (j.natAbs < 2 ^ 64) || decide (i.natAbs.log2 + j.natAbs.log2 < 1000000))
def addD : D → D → Option D
  | .int i, .int j => some (.int (i + j))
  | .str x, .str y => if x.length + y.length ≤ line then some (.str (x ++ y)) else none
  | .tup xs, .tup ys => if xs.length + ys.length ≤ line then some (.tup (xs ++ ys)) else none
  | .lst xs, .lst ys => if xs.length + ys.length ≤ line then some (.lst (xs ++ ys)) else none
  | _, _ => none
def subD : D → D → Option D
  | .int i, .int j => some (.int (i - j))
  | _, _ => none
def mulD : D → D → Option D
  | .int i, .int j => if mulOk i j then some (.int (i * j)) else none
  | .tup xs, .int k => if !xs.isEmpty && (decide (-1000 ≤ k) && (decide (k ≤ 1000) && decide (xs.length ≤ 1000))) then some (.tup (List.replicate k.toNat xs).flatten) else none
  | _, _ => none
def fdivD : D → D → Option D
  | .int i, .int j => if decide (0 < j) && decide (j.natAbs.log2 < 9000) then some (.int (i / j)) else none
  | _, _ => none
def modD : D → D → Option D
  | .int i, .int j => if 0 < j then some (.int (i % j)) else none
  | _, _ => none
def powD : D → D → Option D
  | .int i, .int j => if decide (0 ≤ j) && (decide (j ≤ 1000000) && decide (i.natAbs < 2 ^ 64)) then some (.int (i ^ j.toNat)) else none
  | _, _ => none
def negD : D → Option D
  | .int i => some (.int (-i))
  | _ => none
def ltD : D → D → Option D
  | .int i, .int j => some (.bl (decide (i < j)))
  | _, _ => none
def leD : D → D → Option D
  | .int i, .int j => some (.bl (decide (i ≤ j)))
  | _, _ => none
def inD (d : D) : D → Option Bool
  | .lst xs => if shOk d && shOk (.lst xs) then some (xs.any fun z => PyData.eqv z.p d.p) else none
  | .tup xs => if shOk d && shOk (.tup xs) then some (xs.any fun z => PyData.eqv z.p d.p) else none
  | _ => none
def D.isNon : D → Bool
  | .non => true
  | _ => false
def idxD : D → D → Option D
  | .lst xs, .int i => atI xs i
  | .tup xs, .int i => atI xs i
  | .str z, .int i => if z.length ≤ line then (atI z.cps.toList i).map fun c => .str ⟨#[c]⟩ else none
  | _, _ => none
def cutL {α : Type} (xs : List α) (lo hi : Option Int) : List α := (xs.drop (HT.sIx xs.length 0 lo)).take (HT.sIx xs.length xs.length hi - HT.sIx xs.length 0 lo)
def cutD (d : D) (lo hi : Option Int) : Option D := match d with
  | .lst xs => some (.lst (cutL xs lo hi))
  | .tup xs => some (.tup (cutL xs lo hi))
  | _ => none
def slcD (lo hi : Bool) : List D → Option D
  | [d] => if !lo && !hi then cutD d none none else none
  | [d, .int i] => if lo && !hi then cutD d (some i) none else if !lo && hi then cutD d none (some i) else none
  | [d, .int i, .int j] => if lo && hi then cutD d (some i) (some j) else none
  | _ => none
def revD : D → Option D
  | .lst xs => some (.lst xs.reverse)
  | .tup xs => some (.tup xs.reverse)
  | _ => none
def lenD : D → Option D
  | .lst xs => some (.int xs.length)
  | .tup xs => some (.int xs.length)
  | .str x => if x.length ≤ line then some (.int x.length) else none
  | _ => none
def absD : D → Option D
  | .int i => some (.int (if i < 0 then -i else i))
  | _ => none
def intsOf : List D → Option (List Int)
  | [] => some []
  | .int i :: r => (intsOf r).map (i :: ·)
  | _ :: _ => none
def boolsOf : List D → Option (List Bool)
  | [] => some []
  | .bl b :: r => (boolsOf r).map (b :: ·)
  | _ :: _ => none
def maxI : Int → List Int → Int
  | m, [] => m
  | m, x :: r => maxI (if x > m then x else m) r
def minI : Int → List Int → Int
  | m, [] => m
  | m, x :: r => minI (if x < m then x else m) r
def maxD : List D → Option D
  | [.int i, .int j] => some (.int (if j > i then j else i))
  | [.lst xs] => match intsOf xs with
    | some (x :: r) => some (.int (maxI x r))
    | _ => none
  | _ => none
def minD : List D → Option D
  | [.int i, .int j] => some (.int (if j < i then j else i))
  | [.lst xs] => match intsOf xs with
    | some (x :: r) => some (.int (minI x r))
    | _ => none
  | _ => none
def sumD : D → Option D
  | .lst xs => (intsOf xs).map fun ns => .int ns.sum
  | _ => none
def allD : D → Option D
  | .lst xs => (boolsOf xs).map fun bs => .bl (bs.all id)
  | _ => none
def anyD : D → Option D
  | .lst xs => (boolsOf xs).map fun bs => .bl (bs.any id)
  | _ => none
def tupleD : D → Option D
  | .lst xs => some (.tup xs)
  | .tup xs => some (.tup xs)
  | _ => none
def listD : D → Option D
  | .lst xs => some (.lst xs)
  | .tup xs => some (.lst xs)
  | _ => none
def int1D : D → Option D
  | .int i => some (.int i)
  | .bl b => some (.int (if b then 1 else 0))
  | _ => none
def str1D : D → Option D
  | .int i => if i.natAbs.log2 < 1920 then some (.str (toString i)) else none
  | .str x => some (.str x)
  | _ => none
def reprOk (d : D) : Bool := d.p.showable && (decide (d.p.depth ≤ 60) && decide (d.p.shown.length ≤ line))
def reprD (d : D) : Option D := if reprOk d then some (.str d.p.shown) else none
def divmodD : D → D → Option D
  | .int i, .int j => if decide (0 < j) && !Builtin.divisionGoesByPylong i j then some (.tup [.int (i / j), .int (i % j)]) else none
  | _, _ => none
def indexD (d : D) : D → Option D
  | .lst xs => if shOk d && (shOk (.lst xs) && xs.any fun z => PyData.eqv z.p d.p) then some (.int (xs.findIdx fun z => PyData.eqv z.p d.p : Nat)) else none
  | _ => none

def gcdD : D → D → Option D
  | .int i, .int j => some (.int ((Nat.gcd i.natAbs j.natAbs : Nat) : Int))
  | _, _ => none
def tupN : PyData → Bool
  | .tuple (_ :: _) => true
  | _ => false
def notT : PyData → Bool
  | .none => false
  | .tuple _ => false
  | _ => true
/-- of one shape, place by place; all are tuples with an item at least, or none is a tuple or None -/
def sortOk (xs : List D) : Bool := (xs.all fun a => xs.all fun b => PySem.W.alike a.p b.p) && ((xs.all fun a => tupN a.p) || (xs.all fun a => notT a.p)) && (xs.all shOk) && decide (xs.length ≤ line)
/-- Python's <= of data of one shape -/
def leP (a b : D) : Bool := PySem.W.dataLe false D.p a b
def sortedD : D → Option D
  | .lst xs => if sortOk xs then some (.lst (xs.mergeSort leP)) else none
  | _ => none
def prim : Prim → List D → Option D
  | .add, [a, b] => addD a b
  | .sub, [a, b] => subD a b
  | .mul, [a, b] => mulD a b
  | .fdiv, [a, b] => fdivD a b
  | .mod, [a, b] => modD a b
  | .pow, [a, b] => powD a b
  | .eq, [a, b] => eqD a b
  | .ne, [a, b] => neD a b
  | .lt, [a, b] => ltD a b
  | .le, [a, b] => leD a b
  | .gt, [a, b] => ltD b a
  | .ge, [a, b] => leD b a
  | .isin, [a, b] => (inD a b).map .bl
  | .notin, [a, b] => (inD a b).map fun c => .bl (!c)
  | .isN, [a, .non] => some (.bl a.isNon)
  | .notN, [a, .non] => some (.bl (!a.isNon))
  | .neg, [a] => negD a
  | .idx, [a, b] => idxD a b
  | .slc lo hi, ds => slcD lo hi ds
  | .rev, [a] => revD a
  | .len, [a] => lenD a
  | .abs, [a] => absD a
  | .max, ds => maxD ds
  | .min, ds => minD ds
  | .sum, [a] => sumD a
  | .all, [a] => allD a
  | .any, [a] => anyD a
  | .tuple, [a] => tupleD a
  | .list, [a] => listD a
  | .int1, [a] => int1D a
  | .str1, [a] => str1D a
  | .repr, [a] => reprD a
  | .divmod, [a, b] => divmodD a b
  | .isinst Ts, [a] => some (.bl (Ts.any a.isA))
  | .index, [xs, a] => indexD a xs
  | .gcd, [a, b] => gcdD a b
  | .sorted, [a] => sortedD a
  | _, _ => none
/-- a list that it gives is a new one -/
def Prim.fresh : Prim → Bool
  | .add | .slc .. | .rev | .list | .sorted => true
  | _ => false

/-! ### the language -/
mutual
inductive E where
  | var (i : Nat)
  | cst (d : D)
  | glb (x : Str) (d : D)
  | prim (p : Prim) (os : List O)
  | chain (p q : Prim) (a b c : E)
  | and (a b : E)
  | or (a b : E)
  | not (a : E)
  | ite (c a b : E)
  | tup (es : List E)
  | call (f : Str) (as : List A) (ks : List Nat)
  | meth (p : Prim) (o : O) (os : List O)
  | cut (a : O) (b c : E)
  | ofL (l : LE)
inductive LE where
  | disp (es : List E)
  | prim (p : Prim) (os : List O)
  | comp (ow : List Nat) (t : T) (it : It) (ifs : Option E) (e : E)
  | call (f : Str) (as : List A) (ks : List Nat)
  /-- sorted({e for t in it for t1 in it1}), e an int -/
  | sset (ow vs1 : List Nat) (t : T) (it : It) (t1 : T) (it1 : It) (e : E)
  /-- list(range(e)) -/
  | lrng (e : E)
  /-- sorted(l, key=lambda x: k), the lambda's parameter in slot i -/
  | skey (i : Nat) (l : LE) (k : E)
  /-- [d] * e -/
  | rep (d : D) (e : E)
inductive O where
  | ex (e : E) | sl (i : Nat)
inductive A where
  | ex (e : E) | io (i : Nat) | fr (l : LE)
inductive It where
  | seq (e : E) | rng (e : E) | rng2 (a b : E) | enum (e : E) | zip (a b : E)
  /-- range(a, b, -1) -/
  | rngd (a b : E)
inductive T where
  | nm (i : Nat) | tup (ts : List T) | sub (i : Nat) (k : E)
end

inductive Mt where
  | append | pop
  deriving DecidableEq

inductive S where
  | asg (t : T) (e : E)
  | asgo (i : Nat) (l : LE)
  | par (i j : Nat) (a b : A)
  /-- names = a, b, ..: a tuple is made and taken apart -/
  | asgm (is : List Nat) (as : List A)
  /-- name op= e; list[k] op= e -/
  | aug (p : Prim) (i : Nat) (e : E)
  | augs (p : Prim) (i : Nat) (k e : E)
  | frz (i : Nat)
  | expr (e : E)
  | mt (m : Mt) (i : Nat) (es : List E)
  | ext (i : Nat) (l : LE)
  | ifs (c : E) (a b : List S)
  | whl (c : E) (b : List S)
  | forr (t : T) (it : It) (b : List S)
  | ret (o : O)
  | brk | cont | pass
  | never

/-! ### its meaning -/
abbrev Phi := Str → List Slot → FR
/-- what stands behind an operand: a value, or a slot's list, read at the end -/
def resO (ρ : Env) : Sum D Nat → Option D
  | .inl d => some d
  | .inr i => match ρ[i]? with
    | some (.own xs) => some (.lst xs)
    | _ => none
def resOs (ρ : Env) : List (Sum D Nat) → Option (List D)
  | [] => some []
  | x :: r => match resO ρ x, resOs ρ r with
    | some d, some ds => some (d :: ds)
    | _, _ => none
/-- of the kind that has the method -/
def recvOk (p : Prim) : Sum D Nat → Bool
  | .inl (.lst _) => p == .index
  | .inl _ => false
  | .inr _ => p == .index
/-- an argument: data, a slot's list (by reference), a new list -/
inductive AV where
  | dat (d : D) | io (i : Nat) | tmp (xs : List D)
def slotA (ρ : Env) : AV → Option Slot
  | .dat d => some (.dat d)
  | .io i => match ρ[i]? with
    | some (.own xs) => some (.own xs)
    | _ => none
  | .tmp xs => some (.own xs)
def slotAs (ρ : Env) : List AV → Option (List Slot)
  | [] => some []
  | x :: r => match slotA ρ x, slotAs ρ r with
    | some d, some ds => some (d :: ds)
    | _, _ => none
def setOwn (ρ : Env) : List AV → List (List D) → Option Env
  | [], [] => some ρ
  | .dat _ :: r, os => setOwn ρ r os
  | .io i :: r, o :: os => setOwn (ρ.set i (.own o)) r os
  | .tmp _ :: r, _ :: os => setOwn ρ r os
  | _, _ => none
/-- the arguments in the parameters' order: the written ones, then by ks the places of those given by name -/
def permL {α : Type} (vs : List α) (ks : List Nat) : List α := if ks.isEmpty then vs else ks.filterMap fun k => vs[k]?
def ioIx : List AV → List Nat
  | [] => []
  | .io i :: r => i :: ioIx r
  | _ :: r => ioIx r
def callD (Φ : Phi) (f : Str) (vs : List AV) (ks : List Nat) (ρ : Env) : R D := if ks.Nodup ∧ (ioIx vs).Nodup ∧ (slotAs ρ vs).isSome = true then (match slotAs ρ (permL vs ks) with
  | none => .stuck
  | some as => match Φ f as with
    | .ok d os => (match setOwn ρ (permL vs ks) os with | some ρ' => .ok d ρ' | none => .stuck)
    | .exc c p os => (match setOwn ρ (permL vs ks) os with | some ρ' => .exc c p ρ' | none => .stuck)
    | .stuck => .stuck) else .stuck
def wipeE (ρ : Env) : List Nat → Env
  | [] => ρ
  | i :: r => (wipeE ρ r).set i .none
def noOwn (ρ : Env) (ow : List Nat) : Bool := ow.all fun i => match ρ[i]? with
  | some (.own _) => false
  | some _ => true
  | none => false
/-- slots of a comprehension's own names get back what they held -/
def backE (ρ0 ρ : Env) : List Nat → Env
  | [] => ρ
  | i :: r => (backE ρ0 ρ r).set i (ρ0.getD i .none)
def truth : D → Option Bool
  | .non => some false
  | .bl b => some b
  | .int i => some (i != 0)
  | .str x => if x.length ≤ line then some ((x.length : Int) != 0) else none
  | .tup xs => some (!xs.isEmpty)
  | .lst xs => some (!xs.isEmpty)
  | .emp => none
def itemsD : D → Option (List D)
  | .lst xs => some xs
  | .tup xs => some xs
  | _ => none
def itemsI : D → Option (List D)
  | .lst xs => some xs
  | .tup xs => some xs
  | .str x => some (x.cps.toList.map fun c => .str ⟨#[c]⟩)
  | _ => none
def rngD (a b : Int) : List D := (List.range (b - a).toNat).map fun (i : Nat) => D.int (a + (i : Int))
def rngOk (a b : Int) : Bool := decide (-(2 ^ 62) ≤ a) && (decide (a < 2 ^ 62) && (decide (-(2 ^ 62) ≤ b) && decide (b < 2 ^ 62)))
def enumD (xs : List D) : List D := xs.zipIdx.map fun x => D.tup [.int x.2, x.1]
def zipD (xs ys : List D) : List D := (xs.zip ys).map fun p => D.tup [p.1, p.2]
/-- a comprehension's loop: g stores the item, c is the test, e the element -/
def compL (g : D → Env → R Unit) (c : Env → R Bool) (e : Env → R D) (ow : List Nat) : List D → List D → Env → R (List D)
  | [], acc, ρ => if noOwn ρ ow then .ok acc (wipeE ρ ow) else .stuck
  | x :: r, acc, ρ => if noOwn ρ ow then (g x (wipeE ρ ow)).bind fun _ ρ1 => (c ρ1).bind fun b ρ2 =>
    if b then (e ρ2).bind fun d ρ3 => if acc.length < line then compL g c e ow r (acc ++ [d]) ρ3 else .stuck
    else compL g c e ow r acc ρ2
    else .stuck
/-- a set's members, in the sequence they came -/
def addI (acc : List Int) (k : Int) : List Int := if k ∈ acc then acc else acc ++ [k]
def insI (k : Int) : List Int → List Int
  | [] => [k]
  | x :: r => if k < x then k :: x :: r else if k = x then x :: r else x :: insI k r
/-- rising, each once -/
def srtI (acc : List Int) : List Int := acc.foldr insI []
/-- a set comprehension of ints, the loop of its second clause: g stores the item, e the element -/
def sinL (g : D → Env → R Unit) (e : Env → R D) (vs1 : List Nat) : List D → List Int → Env → R (List Int)
  | [], acc, ρ => if noOwn ρ vs1 then .ok acc (wipeE ρ vs1) else .stuck
  | x :: r, acc, ρ => if noOwn ρ vs1 then (g x (wipeE ρ vs1)).bind fun _ ρ1 => (e ρ1).bind fun d ρ2 => (match d with
    | .int k => if acc.length < 60 then sinL g e vs1 r (addI acc k) ρ2 else .stuck
    | _ => .stuck) else .stuck
/-- that of the first -/
def soutL (g : D → Env → R Unit) (i : Env → R (List D)) (b : List D → List Int → Env → R (List Int)) (ow : List Nat) : List D → List Int → Env → R (List Int)
  | [], acc, ρ => if noOwn ρ ow then .ok acc (wipeE ρ ow) else .stuck
  | x :: r, acc, ρ => if noOwn ρ ow then (g x (wipeE ρ ow)).bind fun _ ρ1 => (i ρ1).bind fun ys ρ2 => (b ys acc ρ2).bind fun acc' ρ3 => soutL g i b ow r acc' ρ3 else .stuck
/-- the keys of a list's items, e at the item in slot i -/
def keyL (e : Env → R D) (i : Nat) : List D → Env → R (List D)
  | [], ρ => .ok [] ρ
  | x :: r, ρ => (match ρ[i]? with
    | some .none => (e (ρ.set i (.dat x))).bind fun d ρ1 => (match ρ1[i]? with
      | some (.dat _) => (keyL e i r (ρ1.set i .none)).bind fun ds ρ2 => .ok (d :: ds) ρ2
      | _ => .stuck)
    | _ => .stuck)
def leK (a b : D × D) : Bool := PySem.W.dataLe false (fun p : D × D => p.2.p) a b
def keySort (xs ks : List D) : List D := ((xs.zip ks).mergeSort leK).map (·.1)
def rngdD (a b : Int) : List D := (List.range (a - b).toNat).map fun (i : Nat) => D.int (a - (i : Int))
/-- within a comprehension nothing is raised -/
def noExc {α : Type} : R α → R α
  | .exc .. => .stuck
  | r => r
def boolD : D → Env → R Bool := fun d ρ => R.ofO (truth d) ρ
def setAt (xs : List D) (k : D) (v : D) : Option (List D) := match k with
  | .int i => (ixN xs.length i).map fun j => xs.set j v
  | _ => none

mutual
def evE (Φ : Phi) : E → Env → R D
  | .var i, ρ => match ρ[i]? with
    | some (.dat d) => .ok d ρ
    | _ => .stuck
  | .cst d, ρ => .ok d ρ
  | .glb _ d, ρ => .ok d ρ
  | .prim p os, ρ => (evOs Φ os ρ).bind fun vs ρ1 => match resOs ρ1 vs with
    | some ds => R.ofO (prim p ds) ρ1
    | none => .stuck
  | .chain p q a b c, ρ => (evE Φ a ρ).bind fun x ρ1 => (evE Φ b ρ1).bind fun y ρ2 => match prim p [x, y] with
    | some (.bl true) => (evE Φ c ρ2).bind fun z ρ3 => R.ofO (prim q [y, z]) ρ3
    | some (.bl false) => .ok (.bl false) ρ2
    | _ => .stuck
  | .and a b, ρ => (evE Φ a ρ).bind fun x ρ1 => match truth x with
    | some true => evE Φ b ρ1
    | some false => .ok x ρ1
    | none => .stuck
  | .or a b, ρ => (evE Φ a ρ).bind fun x ρ1 => match truth x with
    | some true => .ok x ρ1
    | some false => evE Φ b ρ1
    | none => .stuck
  | .not a, ρ => (evE Φ a ρ).bind fun x ρ1 => match truth x with
    | some c => .ok (.bl (!c)) ρ1
    | none => .stuck
  | .meth p o os, ρ => (evO Φ o ρ).bind fun x ρ1 => if recvOk p x then (evOs Φ os ρ1).bind fun vs ρ2 => match resOs ρ2 (x :: vs) with
    | some ds => R.ofO (prim p ds) ρ2
    | none => .stuck
    else .stuck
  | .ite c a b, ρ => (evC Φ c ρ).bind fun k ρ1 => if k then evE Φ a ρ1 else evE Φ b ρ1
  | .tup es, ρ => (evEs Φ es ρ).bind fun ds ρ1 => .ok (.tup ds) ρ1
  | .call f as ks, ρ => (evAs Φ as ρ).bind fun vs ρ1 => callD Φ f vs ks ρ1
  | .cut a b c, ρ => (evO Φ a ρ).bind fun x ρ1 => (evE Φ b ρ1).bind fun y ρ2 => match y with
    | .int i => (evE Φ c ρ2).bind fun z ρ3 => match z, resO ρ3 x with
      | .int j, some d => R.ofO (cutD d (some i) (some j)) ρ3
      | _, _ => .stuck
    | _ => .stuck
  | .ofL l, ρ => (evL Φ l ρ).bind fun ds ρ1 => .ok (.lst ds) ρ1
/-- as a test -/
def evC (Φ : Phi) : E → Env → R Bool
  | .and a b, ρ => (evC Φ a ρ).bind fun x ρ1 => if x then evC Φ b ρ1 else .ok false ρ1
  | .or a b, ρ => (evC Φ a ρ).bind fun x ρ1 => if x then .ok true ρ1 else evC Φ b ρ1
  | .not a, ρ => (evC Φ a ρ).bind fun x ρ1 => .ok (!x) ρ1
  | .var i, ρ => (evE Φ (.var i) ρ).bind boolD
  | .cst d, ρ => boolD d ρ
  | .glb x d, ρ => boolD d ρ
  | .prim p os, ρ => (evOs Φ os ρ).bind fun vs ρ1 => match resOs ρ1 vs with
    | some ds => (R.ofO (prim p ds) ρ1).bind boolD
    | none => .stuck
  | .chain p q a b c, ρ => (evE Φ a ρ).bind fun x ρ1 => (evE Φ b ρ1).bind fun y ρ2 => match prim p [x, y] with
    | some (.bl true) => (evE Φ c ρ2).bind fun z ρ3 => (R.ofO (prim q [y, z]) ρ3).bind boolD
    | some (.bl false) => .ok false ρ2
    | _ => .stuck
  | .ite c a b, ρ => (evC Φ c ρ).bind fun k ρ1 => if k then evC Φ a ρ1 else evC Φ b ρ1
  | .tup es, ρ => (evEs Φ es ρ).bind fun ds ρ1 => boolD (.tup ds) ρ1
  | .call f as ks, ρ => ((evAs Φ as ρ).bind fun vs ρ1 => callD Φ f vs ks ρ1).bind boolD
  | .meth p o os, ρ => ((evO Φ o ρ).bind fun x ρ1 => if recvOk p x then (evOs Φ os ρ1).bind fun vs ρ2 => match resOs ρ2 (x :: vs) with
    | some ds => R.ofO (prim p ds) ρ2
    | none => .stuck
    else .stuck).bind boolD
  | .cut a b c, ρ => ((evO Φ a ρ).bind fun x ρ1 => (evE Φ b ρ1).bind fun y ρ2 => match y with
    | .int i => (evE Φ c ρ2).bind fun z ρ3 => match z, resO ρ3 x with
      | .int j, some d => R.ofO (cutD d (some i) (some j)) ρ3
      | _, _ => .stuck
    | _ => .stuck).bind boolD
  | .ofL l, ρ => (evL Φ l ρ).bind fun ds ρ1 => boolD (.lst ds) ρ1
def evEs (Φ : Phi) : List E → Env → R (List D)
  | [], ρ => .ok [] ρ
  | e :: es, ρ => (evE Φ e ρ).bind fun d ρ1 => (evEs Φ es ρ1).bind fun ds ρ2 => .ok (d :: ds) ρ2
def evO (Φ : Phi) : O → Env → R (Sum D Nat)
  | .ex e, ρ => (evE Φ e ρ).bind fun d ρ1 => .ok (.inl d) ρ1
  | .sl i, ρ => match ρ[i]? with
    | some (.own _) => .ok (.inr i) ρ
    | _ => .stuck
def evOs (Φ : Phi) : List O → Env → R (List (Sum D Nat))
  | [], ρ => .ok [] ρ
  | e :: es, ρ => (evO Φ e ρ).bind fun d ρ1 => (evOs Φ es ρ1).bind fun ds ρ2 => .ok (d :: ds) ρ2
def evA (Φ : Phi) : A → Env → R AV
  | .ex e, ρ => (evE Φ e ρ).bind fun d ρ1 => .ok (.dat d) ρ1
  | .io i, ρ => match ρ[i]? with
    | some (.own _) => .ok (.io i) ρ
    | _ => .stuck
  | .fr l, ρ => (evL Φ l ρ).bind fun ds ρ1 => .ok (.tmp ds) ρ1
def evAs (Φ : Phi) : List A → Env → R (List AV)
  | [], ρ => .ok [] ρ
  | e :: es, ρ => (evA Φ e ρ).bind fun d ρ1 => (evAs Φ es ρ1).bind fun ds ρ2 => .ok (d :: ds) ρ2
def evL (Φ : Phi) : LE → Env → R (List D)
  | .disp es, ρ => evEs Φ es ρ
  | .prim p os, ρ => (evOs Φ os ρ).bind fun vs ρ1 => match resOs ρ1 vs with
    | some ds => (match prim p ds with
      | some (.lst xs) => .ok xs ρ1
      | _ => .stuck)
    | none => .stuck
  | .comp ow t it ifs e, ρ => (evI Φ it ρ).bind fun xs ρ1 =>
    noExc ((compL (evT Φ t) (evIf Φ ifs) (evE Φ e) ow xs [] ρ1).bind fun ys ρ2 => .ok ys (backE ρ1 ρ2 ow))
  | .call f as ks, ρ => (evAs Φ as ρ).bind fun vs ρ1 => match callD Φ f vs ks ρ1 with
    | .ok (.lst xs) ρ2 => .ok xs ρ2
    | .exc c p ρ2 => .exc c p ρ2
    | _ => .stuck
  | .sset ow vs1 t it t1 it1 e, ρ => (evI Φ it ρ).bind fun xs ρ1 =>
    noExc ((soutL (evT Φ t) (evI Φ it1) (sinL (evT Φ t1) (evE Φ e) vs1) ow xs [] ρ1).bind fun ns ρ2 => .ok ((srtI ns).map D.int) (backE ρ1 ρ2 ow))
  | .lrng e, ρ => (evE Φ e ρ).bind fun d ρ1 => match d with
    | .int n => if decide (-1000000 ≤ n) && decide (n ≤ 1000000) then .ok (rngD 0 n) ρ1 else .stuck
    | _ => .stuck
  | .skey i l k, ρ => (evL Φ l ρ).bind fun xs ρ1 => noExc ((keyL (evE Φ k) i xs ρ1).bind fun ks ρ2 => if sortOk ks then .ok (keySort xs ks) ρ2 else .stuck)
  | .rep x e, ρ => (evE Φ e ρ).bind fun d ρ1 => match d with
    | .int n => if decide (-1000000 ≤ n) && decide (n ≤ 1000000) then .ok (List.replicate n.toNat x) ρ1 else .stuck
    | _ => .stuck
def evIf (Φ : Phi) : Option E → Env → R Bool
  | none, ρ => .ok true ρ
  | some c, ρ => evC Φ c ρ
def evI (Φ : Phi) : It → Env → R (List D)
  | .seq e, ρ => (evE Φ e ρ).bind fun d ρ1 => R.ofO (itemsI d) ρ1
  | .rng e, ρ => (evE Φ e ρ).bind fun d ρ1 => match d with
    | .int n => if rngOk 0 n then .ok (rngD 0 n) ρ1 else .stuck
    | _ => .stuck
  | .rng2 a b, ρ => (evE Φ a ρ).bind fun d ρ1 => (evE Φ b ρ1).bind fun e ρ2 => match d, e with
    | .int m, .int n => if rngOk m n then .ok (rngD m n) ρ2 else .stuck
    | _, _ => .stuck
  | .rngd a b, ρ => (evE Φ a ρ).bind fun d ρ1 => (evE Φ b ρ1).bind fun e ρ2 => match d, e with
    | .int m, .int n => if rngOk m n then .ok (rngdD m n) ρ2 else .stuck
    | _, _ => .stuck
  | .enum e, ρ => (evE Φ e ρ).bind fun d ρ1 => R.ofO ((itemsD d).map enumD) ρ1
  | .zip a b, ρ => (evE Φ a ρ).bind fun d ρ1 => (evE Φ b ρ1).bind fun e ρ2 => match d, e with
    | .lst xs, .lst ys => .ok (zipD xs ys) ρ2
    | .tup xs, .tup ys => .ok (zipD xs ys) ρ2
    | _, _ => .stuck
def evT (Φ : Phi) : T → D → Env → R Unit
  | .nm i, d, ρ => match ρ[i]? with
    | some _ => .ok () (ρ.set i (.dat d))
    | none => .stuck
  | .tup ts, d, ρ => match d with
    | .tup xs => if xs.length = ts.length then evTs Φ ts xs ρ else .stuck
    | .lst xs => if xs.length = ts.length then evTs Φ ts xs ρ else .stuck
    | _ => .stuck
  | .sub i k, d, ρ => match ρ[i]? with
    | some (.own _) => (evE Φ k ρ).bind fun kv ρ1 => (match ρ1[i]? with
      | some (.own xs) => (match setAt xs kv d with
        | some ys => .ok () (ρ1.set i (.own ys))
        | none => .stuck)
      | _ => .stuck)
    | _ => .stuck
def evTs (Φ : Phi) : List T → List D → Env → R Unit
  | [], [], ρ => .ok () ρ
  | t :: ts, d :: ds, ρ => (evT Φ t d ρ).bind fun _ ρ1 => evTs Φ ts ds ρ1
  | _, _, _ => .stuck
end

/-- a statement's end -/
inductive SR where
  | nx (ρ : Env)
  | rt (d : D) (ρ : Env)
  | bk (ρ : Env)
  | ct (ρ : Env)
  | exc (c : Str) (p : List (Str × D)) (ρ : Env)
  | stuck
def R.seq {α : Type} (r : R α) (k : α → Env → SR) : SR := match r with
  | .ok a ρ => k a ρ
  | .exc c p ρ => .exc c p ρ
  | .stuck => .stuck
def SR.seq (r : SR) (k : Env → SR) : SR := match r with
  | .nx ρ => k ρ
  | r => r
def forL (g : D → Env → R Unit) (b : Env → SR) : List D → Env → SR
  | [], ρ => .nx ρ
  | x :: r, ρ => (g x ρ).seq fun _ ρ1 => match b ρ1 with
    | .nx ρ2 => forL g b r ρ2
    | .ct ρ2 => forL g b r ρ2
    | .bk ρ2 => .nx ρ2
    | z => z
/-- n turns at most; none: not through -/
def whlN (c : Env → R Bool) (b : Env → SR) : Nat → Env → Option SR
  | 0, _ => none
  | n + 1, ρ => match c ρ with
    | .ok true ρ1 => (match b ρ1 with
      | .nx ρ2 => whlN c b n ρ2
      | .ct ρ2 => whlN c b n ρ2
      | .bk ρ2 => some (.nx ρ2)
      | z => some z)
    | .ok false ρ1 => some (.nx ρ1)
    | .exc x p ρ1 => some (.exc x p ρ1)
    | .stuck => some .stuck
open Classical in
noncomputable def whlF (c : Env → R Bool) (b : Env → SR) (ρ : Env) : SR :=
  if h : ∃ n r, whlN c b n ρ = some r then h.choose_spec.choose else .stuck
/-- an argument's value comes into a slot -/
def putA (ρ : Env) (i : Nat) : AV → Option Env
  | .dat d => if i < ρ.length then some (ρ.set i (.dat d)) else none
  | .tmp xs => if i < ρ.length then some (ρ.set i (.own xs)) else none
  | .io _ => none
def putAs (ρ : Env) : List Nat → List AV → Option Env
  | [], [] => some ρ
  | i :: is, a :: as => (match putA ρ i a with
    | some ρ1 => putAs ρ1 is as
    | none => none)
  | _, _ => none
/-- ints, in place -/
def augD (p : Prim) : D → D → Option D
  | .int i, .int j => (match p with
    | .add => some (.int (i + j))
    | .sub => some (.int (i - j))
    | _ => none)
  | _, _ => none
def mtD : Mt → List D → List D → Option (List D)
  | .append, xs, [d] => if xs.length < line then some (xs ++ [d]) else none
  | .pop, xs, [] => if xs.isEmpty then none else some xs.dropLast
  | _, _, _ => none
def frzE (ρ : Env) (i : Nat) : Env := match ρ[i]? with
  | some (.own xs) => ρ.set i (.dat (.lst xs))
  | _ => ρ
noncomputable def evS (Φ : Phi) : S → Env → SR := fun s ρ => match s with
  | .asg t e => (evE Φ e ρ).seq fun d ρ1 => (evT Φ t d ρ1).seq fun _ ρ2 => .nx ρ2
  | .asgo i l => (evL Φ l ρ).seq fun ds ρ1 => if i < ρ1.length then .nx (ρ1.set i (.own ds)) else .stuck
  | .par i j a b => (evA Φ a ρ).seq fun x ρ1 => (evA Φ b ρ1).seq fun y ρ2 => match putA ρ2 i x with
    | some ρ3 => (match putA ρ3 j y with
      | some ρ4 => .nx ρ4
      | none => .stuck)
    | none => .stuck
  | .asgm is as => (evAs Φ as ρ).seq fun vs ρ1 => (match putAs ρ1 is vs with
    | some ρ2 => .nx ρ2
    | none => .stuck)
  | .aug p i e => (match ρ[i]? with
    | some (.dat x) => (evE Φ e ρ).seq fun d ρ1 => (match augD p x d with
      | some z => if i < ρ1.length then .nx (ρ1.set i (.dat z)) else .stuck
      | none => .stuck)
    | _ => .stuck)
  | .augs p i k e => (match ρ[i]? with
    | some (.own _) => (evE Φ k ρ).seq fun kv ρ1 => (match ρ1[i]? with
      | some (.own xs) => (match idxD (.lst xs) kv with
        | some old => (evE Φ e ρ1).seq fun d ρ2 => (match ρ2[i]? with
          | some (.own ys) => (match augD p old d with
            | some z => (match setAt ys kv z with
              | some zs => .nx (ρ2.set i (.own zs))
              | none => .stuck)
            | none => .stuck)
          | _ => .stuck)
        | none => .stuck)
      | _ => .stuck)
    | _ => .stuck)
  | .frz i => .nx (frzE ρ i)
  | .expr e => (evE Φ e ρ).seq fun _ ρ1 => .nx ρ1
  | .mt m i es => (match ρ[i]? with
    | some (.own _) => (evEs Φ es ρ).seq fun ds ρ1 => (match ρ1[i]? with
      | some (.own xs) => (match mtD m xs ds with
        | some ys => .nx (ρ1.set i (.own ys))
        | none => .stuck)
      | _ => .stuck)
    | _ => .stuck)
  | .ext i l => (match ρ[i]? with
    | some (.own _) => (evL Φ l ρ).seq fun ys ρ1 => (match ρ1[i]? with
      | some (.own xs) => if xs.length + ys.length ≤ line then .nx (ρ1.set i (.own (xs ++ ys))) else .stuck
      | _ => .stuck)
    | _ => .stuck)
  | .ifs c a b => (evC Φ c ρ).seq fun k ρ1 => if k then go a ρ1 else go b ρ1
  | .whl c b => whlF (evC Φ c) (go b) ρ
  | .forr t it b => (evI Φ it ρ).seq fun xs ρ1 => forL (evT Φ t) (go b) xs ρ1
  | .ret o => (match o with
    | .ex e => (evE Φ e ρ).seq fun d ρ1 => .rt d ρ1
    | .sl i => match ρ[i]? with
      | some (.own xs) => .rt (.lst xs) ρ
      | _ => .stuck)
  | .brk => .bk ρ
  | .cont => .ct ρ
  | .pass => .nx ρ
  | .never => .stuck
where
  go : List S → Env → SR
  | [], ρ => .nx ρ
  | s :: ss, ρ => (evS Φ s ρ).seq fun ρ1 => go ss ρ1

/-! ### a def -/
structure Df where
  name : Str
  ps : List Str
  N : List Str
  fr : Bool
  body : List S
def ownIx : Nat → List Slot → List Nat
  | _, [] => []
  | n, .own _ :: r => n :: ownIx (n + 1) r
  | n, _ :: r => ownIx (n + 1) r
def outs (ρ : Env) : List Nat → Option (List (List D))
  | [] => some []
  | i :: r => match ρ[i]?, outs ρ r with
    | some (.own xs), some os => some (xs :: os)
    | _, _ => none
def noneAt : List Slot → Bool
  | [] => false
  | .none :: _ => true
  | _ :: r => noneAt r
def endF (fr : Bool) (ix : List Nat) : SR → FR
  | .nx ρ => if fr then .stuck else (match outs ρ ix with | some os => .ok .non os | none => .stuck)
  | .rt d ρ => (match outs ρ ix with | some os => .ok d os | none => .stuck)
  | .exc c p ρ => (match outs ρ ix with | some os => .exc c p os | none => .stuck)
  | _ => .stuck
/-- io: the places of the lists that it may change -/
noncomputable def runF (Φ : Phi) (F : Df) (io : List Nat) (as : List Slot) : FR :=
  if as.length = F.ps.length ∧ F.ps.length ≤ F.N.length ∧ ownIx 0 as = io ∧ noneAt as = false then endF F.fr io (evS.go Φ F.body (as ++ List.replicate (F.N.length - as.length) .none)) else .stuck
end Iv
set_option Elab.async false
set_option linter.all false
set_option maxRecDepth 100000
/-! Iv2: how data stand in the tracked heap. -/
namespace Iv
open PySem PySem.Spec PyProof.Rows L2

/-- no code object's table -/
def Nt (o : HO) : Prop := ∀ ps, o ≠ .tbl ps
theorem nt_lst (vs : List V) : Nt (.lst vs) := fun _ z => nomatch z
theorem nt_tup (vs : List V) : Nt (.tup vs) := fun _ z => nomatch z
theorem nt_dK (vs : List (Key × V)) : Nt (.dK vs) := fun _ z => nomatch z
theorem nt_frz (o : Obj) (u : HO) : Nt (.frz o u) := fun _ z => nomatch z
def Kl (K : PySem.W.Frag) (a : Addr) (vs : List V) : Prop := ∃ (o : Obj) (its : Array Value) (n : Nat), K.lookup a = some o ∧ o.cls = .type "list" ∧ o.dict = none ∧ o.data = .seq its n ∧ its.size ≤ sizeLine ∧ Vals vs its.toList
def Kt (K : PySem.W.Frag) (a : Addr) (vs : List V) : Prop := ∃ (o : Obj) (its : Array Value) (n : Nat), K.lookup a = some o ∧ o.cls = .type "tuple" ∧ o.data = .seq its n ∧ its.size ≤ sizeLine ∧ Vals vs its.toList

mutual
/-- v stands for d in H; none of its tracked lists and tuples lies in B -/
inductive Rp (K : PySem.W.Frag) (H : Hp) (B : Addr → Prop) : V → D → Prop
  | non : Rp K H B .non .non
  | bl (b : Bool) : Rp K H B (.bl b) (.bl b)
  | int (i : Int) : Rp K H B (.int i) (.int i)
  | str (x : Str) : Rp K H B (.str x) (.str x)
  | lst {a : Addr} {vs : List V} {ds : List D} : ((Rd H a (.lst vs) ∧ ¬ B a) ∨ Kl K a vs) → RpL K H B vs ds → Rp K H B (.ref a) (.lst ds)
  | tup {a : Addr} {vs : List V} {ds : List D} : ((Rd H a (.tup vs) ∧ ¬ B a) ∨ Kt K a vs) → RpL K H B vs ds → Rp K H B (.ref a) (.tup ds)
  | emp {a : Addr} : H a = some (.dK []) → ¬ B a → Rp K H B (.ref a) .emp
inductive RpL (K : PySem.W.Frag) (H : Hp) (B : Addr → Prop) : List V → List D → Prop
  | nil : RpL K H B [] []
  | cons {v : V} {vs : List V} {d : D} {ds : List D} : Rp K H B v d → RpL K H B vs ds → RpL K H B (v :: vs) (d :: ds)
end

section
variable {K : PySem.W.Frag} {H H' : Hp} {B B' : Addr → Prop}
mutual
theorem Rp.keep (h : ∀ b o, H b = some o → Nt o → ¬ B b → H' b = some o ∧ ¬ B' b) : ∀ {d : D} {v : V}, Rp K H B v d → Rp K H' B' v d
  | .non, _, .non => .non
  | .bl b, _, .bl _ => .bl b
  | .int i, _, .int _ => .int i
  | .str x, _, .str _ => .str x
  | .lst ds, _, .lst h1 h2 => .lst (h1.imp (fun ⟨r, n⟩ => by
      rcases r with r | ⟨o, r⟩
      · exact ⟨.inl (h _ _ r (nt_lst _) n).1, (h _ _ r (nt_lst _) n).2⟩
      · exact ⟨.inr ⟨o, (h _ _ r (nt_frz _ _) n).1⟩, (h _ _ r (nt_frz _ _) n).2⟩) id) (RpL.keep h h2)
  | .tup ds, _, .tup h1 h2 => .tup (h1.imp (fun ⟨r, n⟩ => by
      rcases r with r | ⟨o, r⟩
      · exact ⟨.inl (h _ _ r (nt_tup _) n).1, (h _ _ r (nt_tup _) n).2⟩
      · exact ⟨.inr ⟨o, (h _ _ r (nt_frz _ _) n).1⟩, (h _ _ r (nt_frz _ _) n).2⟩) id) (RpL.keep h h2)
  | .emp, _, .emp e n => .emp (h _ _ e (nt_dK _) n).1 (h _ _ e (nt_dK _) n).2
theorem RpL.keep (h : ∀ b o, H b = some o → Nt o → ¬ B b → H' b = some o ∧ ¬ B' b) : ∀ {ds : List D} {vs : List V}, RpL K H B vs ds → RpL K H' B' vs ds
  | [], _, .nil => .nil
  | _ :: _, _, .cons a b => .cons (Rp.keep h a) (RpL.keep h b)
end
mutual
theorem Rp.dp : ∀ {d : D} {v : V}, d.p.hasDict = false → Rp K H B v d → Dp K H v d.p
  | .non, _, _, .non => by simp only [D.p]; exact .non
  | .bl b, _, _, .bl _ => by simp only [D.p]; exact .bl b
  | .int i, _, _, .int _ => by simp only [D.p]; exact .int i
  | .str x, _, _, .str _ => by simp only [D.p]; exact .str x
  | .lst ds, _, n, .lst h1 h2 => by
    simp only [D.p, PyData.hasDict] at n
    simp only [D.p]
    exact .lst (h1.imp (fun h => h.1) id) (RpL.dp n h2)
  | .tup ds, _, n, .tup h1 h2 => by
    simp only [D.p, PyData.hasDict] at n
    simp only [D.p]
    exact .tup (h1.imp (fun h => h.1) id) (RpL.dp n h2)
  | .emp, _, n, _ => by simp [D.p, PyData.hasDict] at n
theorem RpL.dp : ∀ {ds : List D} {vs : List V}, PyData.hasDictAll (D.pAll ds) = false → RpL K H B vs ds → DpAll K H vs (D.pAll ds)
  | [], _, _, .nil => by simp only [D.pAll]; exact .nil
  | _ :: _, _, n, .cons a b => by
    simp only [D.pAll, PyData.hasDictAll, Bool.or_eq_false_iff] at n
    simp only [D.pAll]
    exact .cons (Rp.dp n.1 a) (RpL.dp n.2 b)
end
theorem RpL.length : ∀ {ds : List D} {vs : List V}, RpL K H B vs ds → vs.length = ds.length
  | [], _, .nil => rfl
  | _ :: _, _, .cons _ b => congrArg Nat.succ (RpL.length b)
theorem RpL.get : ∀ {ds : List D} {vs : List V} {i : Nat} {d : D}, RpL K H B vs ds → ds[i]? = some d → ∃ v, vs[i]? = some v ∧ Rp K H B v d
  | _ :: _, _, 0, _, .cons a _, e => by
    simp at e
    subst e
    exact ⟨_, rfl, a⟩
  | _ :: _, _, i + 1, d, .cons _ b, e => by
    obtain ⟨v, h1, h2⟩ := RpL.get (i := i) (d := d) b (by simpa using e)
    exact ⟨v, by simpa using h1, h2⟩
theorem RpL.getV : ∀ {ds : List D} {vs : List V} {i : Nat} {v : V}, RpL K H B vs ds → vs[i]? = some v → ∃ d, ds[i]? = some d ∧ Rp K H B v d
  | _ :: _, _, 0, _, .cons a _, e => by
    simp at e
    subst e
    exact ⟨_, rfl, a⟩
  | _ :: _, _, i + 1, d, .cons _ b, e => by
    obtain ⟨v, h1, h2⟩ := RpL.getV (i := i) (v := d) b (by simpa using e)
    exact ⟨v, by simpa using h1, h2⟩
  | [], _, _, _, .nil, e => by simp at e
theorem RpL.append : ∀ {ds es : List D} {vs us : List V}, RpL K H B vs ds → RpL K H B us es → RpL K H B (vs ++ us) (ds ++ es)
  | [], _, _, _, .nil, s => s
  | _ :: _, _, _, _, .cons a b, s => .cons a (RpL.append b s)
theorem RpL.one {v : V} {d : D} (h : Rp K H B v d) : RpL K H B [v] [d] := .cons h .nil
theorem RpL.take : ∀ {ds : List D} {vs : List V} (n : Nat), RpL K H B vs ds → RpL K H B (vs.take n) (ds.take n)
  | _, _, 0, _ => .nil
  | [], _, _ + 1, .nil => .nil
  | _ :: _, _, n + 1, .cons a b => .cons a (RpL.take n b)
theorem RpL.drop : ∀ {ds : List D} {vs : List V} (n : Nat), RpL K H B vs ds → RpL K H B (vs.drop n) (ds.drop n)
  | _, _, 0, h => h
  | [], _, _ + 1, .nil => .nil
  | _ :: _, _, n + 1, .cons _ b => RpL.drop n b
theorem RpL.reverse : ∀ {ds : List D} {vs : List V}, RpL K H B vs ds → RpL K H B vs.reverse ds.reverse
  | [], _, .nil => .nil
  | _ :: _, _, .cons a b => by
    rw [List.reverse_cons, List.reverse_cons]
    exact (RpL.reverse b).append (.one a)
theorem RpL.dropLast {ds : List D} {vs : List V} (h : RpL K H B vs ds) : RpL K H B vs.dropLast ds.dropLast := by
  rw [List.dropLast_eq_take, List.dropLast_eq_take, h.length]
  exact h.take _
theorem RpL.set : ∀ {ds : List D} {vs : List V} {v : V} {d : D} (i : Nat), RpL K H B vs ds → Rp K H B v d → RpL K H B (vs.set i v) (ds.set i d)
  | [], _, _, _, _, .nil, _ => .nil
  | _ :: _, _, _, _, 0, .cons _ b, h => .cons h b
  | _ :: _, _, _, _, i + 1, .cons a b, h => .cons a (RpL.set i b h)
theorem RpL.cut {ds : List D} {vs : List V} (h : RpL K H B vs ds) (lo hi : Option Int) : RpL K H B (cutV vs lo hi) (cutL ds lo hi) := by
  unfold cutV cutL
  rw [h.length]
  exact (h.drop _).take _
theorem RpL.atI {ds : List D} {vs : List V} {i : Int} {d : D} (h : RpL K H B vs ds) (e : L2.atI ds i = some d) : ∃ v, L2.atI vs i = some v ∧ Rp K H B v d := by
  unfold L2.atI at e ⊢
  rw [h.length]
  cases q : ixN ds.length i with
  | none => rw [q] at e; cases e
  | some j =>
    rw [q] at e
    exact h.get (by simpa using e)
theorem RpL.ints : ∀ {ds : List D} {vs : List V} {ns : List Int}, RpL K H B vs ds → intsOf ds = some ns → vs = ns.map V.int
  | [], _, _, .nil, e => by
    simp [intsOf] at e
    subst e
    rfl
  | _ :: _, _, ns, .cons a b, e => by
    cases a <;> simp [intsOf] at e
    obtain ⟨r, e1, e2⟩ := e
    subst e2
    rw [RpL.ints b e1]
    rfl
theorem RpL.bools : ∀ {ds : List D} {vs : List V} {ns : List Bool}, RpL K H B vs ds → boolsOf ds = some ns → vs = ns.map V.bl
  | [], _, _, .nil, e => by
    simp [boolsOf] at e
    subst e
    rfl
  | _ :: _, _, ns, .cons a b, e => by
    cases a <;> simp [boolsOf] at e
    obtain ⟨r, e1, e2⟩ := e
    subst e2
    rw [RpL.bools b e1]
    rfl

/-- the same, but the outermost list itself may lie in B (a list that a def may change) -/
def Rw (K : PySem.W.Frag) (H : Hp) (B : Addr → Prop) (v : V) : D → Prop
  | .lst ds => ∃ a vs, v = .ref a ∧ (Rd H a (.lst vs) ∨ Kl K a vs) ∧ RpL K H B vs ds
  | d => Rp K H B v d
theorem Rp.rw {d : D} {v : V} (h : Rp K H B v d) : Rw K H B v d := by
  cases h with
  | lst h1 h2 => exact ⟨_, _, rfl, h1.imp (fun h => h.1) id, h2⟩
  | non => exact .non
  | bl b => exact .bl b
  | int i => exact .int i
  | str x => exact .str x
  | tup h1 h2 => exact .tup h1 h2
  | emp h1 h2 => exact .emp h1 h2
inductive RwL (K : PySem.W.Frag) (H : Hp) (B : Addr → Prop) : List V → List D → Prop
  | nil : RwL K H B [] []
  | cons {v : V} {vs : List V} {d : D} {ds : List D} : Rw K H B v d → RwL K H B vs ds → RwL K H B (v :: vs) (d :: ds)
theorem Rw.lst {v : V} {ds : List D} (h : Rw K H B v (.lst ds)) : ∃ a vs, v = .ref a ∧ SqL K H a vs ∧ RpL K H B vs ds := by
  obtain ⟨a, vs, e, h1, h2⟩ := h
  exact ⟨a, vs, e, h1, h2⟩
theorem Rw.tup {v : V} {ds : List D} (h : Rw K H B v (.tup ds)) : ∃ a vs, v = .ref a ∧ SqT K H a vs ∧ ((Rd H a (.tup vs) ∧ ¬ B a) ∨ Kt K a vs) ∧ RpL K H B vs ds := by
  have h : Rp K H B v (.tup ds) := h
  cases h with
  | tup h1 h2 => exact ⟨_, _, rfl, h1.imp (fun h => h.1) id, h1, h2⟩
theorem Rw.int {v : V} {i : Int} (h : Rw K H B v (.int i)) : v = .int i := by
  have h : Rp K H B v (.int i) := h
  cases h
  rfl
theorem Rw.bl {v : V} {i : Bool} (h : Rw K H B v (.bl i)) : v = .bl i := by
  have h : Rp K H B v (.bl i) := h
  cases h
  rfl
theorem Rw.str {v : V} {i : Str} (h : Rw K H B v (.str i)) : v = .str i := by
  have h : Rp K H B v (.str i) := h
  cases h
  rfl
theorem Rw.non {v : V} (h : Rw K H B v .non) : v = .non := by
  have h : Rp K H B v .non := h
  cases h
  rfl
theorem Rw.dp {d : D} {v : V} (n : d.p.hasDict = false) (h : Rw K H B v d) : Dp K H v d.p := by
  cases d with
  | lst ds =>
    obtain ⟨a, vs, rfl, h1, h2⟩ := h.lst
    simp only [D.p, PyData.hasDict] at n
    simp only [D.p]
    exact .lst h1 (h2.dp n)
  | non => exact Rp.dp n h
  | bl b => exact Rp.dp n h
  | int i => exact Rp.dp n h
  | str x => exact Rp.dp n h
  | tup xs => exact Rp.dp n h
  | emp => exact Rp.dp n h
/-- ban nothing -/
theorem Rw.free {d : D} {v : V} (h : Rw K H B v d) : Rp K H (fun _ => False) v d := by
  cases d with
  | lst ds =>
    obtain ⟨a, vs, rfl, h1, h2⟩ := h.lst
    exact .lst (h1.imp (fun h => ⟨h, fun z => z⟩) id) (h2.keep fun b o e _ n => ⟨e, fun z => z⟩)
  | non => exact Rp.keep (B := B) (fun b o e _ n => ⟨e, fun z => z⟩) h
  | bl b => exact Rp.keep (B := B) (fun b o e _ n => ⟨e, fun z => z⟩) h
  | int i => exact Rp.keep (B := B) (fun b o e _ n => ⟨e, fun z => z⟩) h
  | str x => exact Rp.keep (B := B) (fun b o e _ n => ⟨e, fun z => z⟩) h
  | tup xs => exact Rp.keep (B := B) (fun b o e _ n => ⟨e, fun z => z⟩) h
  | emp => exact Rp.keep (B := B) (fun b o e _ n => ⟨e, fun z => z⟩) h
/-- where the heap only grows -/
theorem Rp.same {d : D} {v : V} (h : Rp K H B v d) (s : Same H H') : Rp K H' B v d := h.keep fun b o e _ n => ⟨s b o e, n⟩
theorem RpL.same {ds : List D} {vs : List V} (h : RpL K H B vs ds) (s : Same H H') : RpL K H' B vs ds := h.keep fun b o e _ n => ⟨s b o e, n⟩
theorem Rp.weak {d : D} {v : V} (h : Rp K H B v d) (w : ∀ b, B' b → B b) : Rp K H B' v d := h.keep fun b o e _ n => ⟨e, fun q => n (w b q)⟩
theorem RpL.weak {ds : List D} {vs : List V} (h : RpL K H B vs ds) (w : ∀ b, B' b → B b) : RpL K H B' vs ds := h.keep fun b o e _ n => ⟨e, fun q => n (w b q)⟩
theorem same_upd {p : Addr} {o : HO} (h : H p = none) : Same H (upd H p o) := fun b x e => by
  rw [upd_ne (ne_of_none e h)]
  exact e
end
end Iv
set_option Elab.async false
set_option linter.all false
set_option maxRecDepth 100000
set_option maxHeartbeats 2000000
/-! Iu3: what repr shows of data, with dicts without entries in them. -/
namespace Iv
open PySem PySem.Spec PyProof.Rows L2
section
variable {X : Cx} {pins : List (Addr × Obj)} {σ : L2.St} {H : Hp} {B : Addr → Prop} {s : Shared}
theorem emp_at (I : Inv X pins σ H s) {a : Addr} (e : H a = some (.dK [])) : ∃ o n, s.heap.get? a = some o ∧ o.cls = .type "dict" ∧ o.dict = none ∧ o.data = .dict #[] n ∧ (a == sysModules) = false := by
  obtain ⟨_, hs, vs, kv, o, es, ep, ho, hx, hd, _, hp, _⟩ := I.hok a _ e
  cases kv
  have : es = #[] := by
    apply Array.ext'
    generalize es.toList = l at hp
    cases hp
    rfl
  subst this
  exact ⟨o, ep, ho, hx.1, hx.2.1, hd, hs⟩
mutual
theorem Rp.reads (I : Inv X pins σ H s) : ∀ {d : D} {v : V} {u : Value}, Rp X.K H B v d → RelV v u → ∃ as, Reads s.heap u d.p as
  | .non, _, _, .non, r => by
    cases r
    simp only [D.p]
    exact ⟨_, Reads.none⟩
  | .bl b, _, _, .bl _, r => by
    cases r
    simp only [D.p]
    exact ⟨_, Reads.bool b⟩
  | .int i, _, _, .int _, r => by
    obtain ⟨t, rfl⟩ := r
    simp only [D.p]
    exact ⟨_, Reads.int i t⟩
  | .str x, _, _, .str _, r => by
    obtain ⟨t, rfl⟩ := r
    simp only [D.p]
    exact ⟨_, Reads.str x t⟩
  | .lst ds, _, _, .lst hs ha, r => by
    cases r
    obtain ⟨its, rv, ⟨o, n, ho, hc, _, hd⟩, _⟩ := I.list (hs.imp (fun h => h.1) id)
    obtain ⟨as, hr⟩ := RpL.reads I ha rv
    simp only [D.p]
    exact ⟨_, Reads.list ho hc hd hr⟩
  | .tup ds, _, _, .tup hs ha, r => by
    cases r
    obtain ⟨its, rv, ⟨o, ho, hc, n, hd⟩, _⟩ := I.tuple (hs.imp (fun h => h.1) id)
    obtain ⟨as, hr⟩ := RpL.reads I ha rv
    simp only [D.p]
    exact ⟨_, Reads.tuple ho hc hd hr⟩
  | .emp, _, _, .emp e _, r => by
    cases r
    obtain ⟨o, n, ho, hc, _, hd, _⟩ := emp_at I e
    simp only [D.p]
    exact ⟨_, Reads.dict ho hc hd .nil .nil⟩
theorem RpL.reads (I : Inv X pins σ H s) : ∀ {ds : List D} {vs : List V} {us : List Value}, RpL X.K H B vs ds → Vals vs us → ∃ as, ReadsAll s.heap us (D.pAll ds) as
  | [], _, _, .nil, r => by
    cases r
    simp only [D.pAll]
    exact ⟨_, ReadsAll.nil⟩
  | d :: ds, _, _, .cons h1 h2, r => by
    cases r with
    | cons r1 r2 =>
      obtain ⟨as, q1⟩ := Rp.reads I h1 r1
      obtain ⟨bs, q2⟩ := RpL.reads I h2 r2
      simp only [D.pAll]
      exact ⟨_, ReadsAll.cons q1 q2⟩
end
theorem nil_at {es : List DictEntry} : ReprEntriesK X.prog X.w [] s.heap 0 [] [] := .nil
mutual
theorem Rp.reprK (I : Inv X pins σ H s) : ∀ {d : D} {v : V} {u : Value}, Rp X.K H B v d → RelV v u → d.p.showable = true → d.p.shown.length ≤ sizeLine → ∃ bs, ReadAtMost s.heap d.p.depth bs ∧ ReprK X.prog X.w bs s.heap d.p.depth u d.p.shown
  | .non, _, _, .non, r, hs, hz => by
    cases r
    simp only [D.p] at hs hz ⊢
    exact ReprK.of_reads Reads.none hs (fun z => by simp [PyData.hasDict] at z) hz
  | .bl b, _, _, .bl _, r, hs, hz => by
    cases r
    simp only [D.p] at hs hz ⊢
    exact ReprK.of_reads (Reads.bool b) hs (fun z => by simp [PyData.hasDict] at z) hz
  | .int i, _, _, .int _, r, hs, hz => by
    obtain ⟨t, rfl⟩ := r
    simp only [D.p] at hs hz ⊢
    exact ReprK.of_reads (Reads.int i t) hs (fun z => by simp [PyData.hasDict] at z) hz
  | .str x, _, _, .str _, r, hs, hz => by
    obtain ⟨t, rfl⟩ := r
    simp only [D.p] at hs hz ⊢
    exact ReprK.of_reads (Reads.str x t) hs (fun z => by simp [PyData.hasDict] at z) hz
  | .lst ds, _, _, .lst hs ha, r, hsh, hz => by
    cases r
    obtain ⟨its, rv, ⟨o, n, h1, h2, _, h3⟩, _⟩ := I.list (hs.imp (fun h => h.1) id)
    obtain ⟨as, h4⟩ := RpL.reads I ha rv
    simp only [D.p] at hsh hz ⊢
    have hz' : (listText (PyData.shownAll (D.pAll ds))).length ≤ sizeLine := by simpa only [PyData.shown] using hz
    obtain ⟨bs, hb, hk⟩ := RpL.reprK I ha rv (by simpa [PyData.showable] using hsh) (fun t ht => Nat.le_trans (listText_mem_le ht) hz')
    have rd : Reads s.heap (.ref _) (.list (D.pAll ds)) _ := .list h1 h2 h3 h4
    have hna := not_mem_of_deeper rd (by simp only [PyData.depth]; omega) hb
    refine ⟨_ :: bs, ReadAtMost.cons rd (by simp only [PyData.depth]; omega) hb, ?_⟩
    simp only [PyData.depth, PyData.shown]
    cases its with
    | nil =>
      have h4' : ReadsAll s.heap [] (D.pAll ds) _ := h4
      generalize D.pAll ds = es at h4' 
      cases h4'
      simp only [PyData.shownAll, listText_nil]
      exact ReprK.listEmpty h1 h2 h3
    | cons x l => exact ReprK.list h1 h2 h3 hna (by simpa using hk.length_eq) (fun i y e => hk.item i y (by simpa using e))
  | .tup ds, _, _, .tup hs ha, r, hsh, hz => by
    cases r
    obtain ⟨its, rv, ⟨o, h1, h2, n, h3⟩, _⟩ := I.tuple (hs.imp (fun h => h.1) id)
    obtain ⟨as, h4⟩ := RpL.reads I ha rv
    simp only [D.p] at hsh hz ⊢
    have hz' : (tupleText (PyData.shownAll (D.pAll ds))).length ≤ sizeLine := by simpa only [PyData.shown] using hz
    obtain ⟨bs, hb, hk⟩ := RpL.reprK I ha rv (by simpa [PyData.showable] using hsh) (fun t ht => Nat.le_trans (tupleText_mem_le ht) hz')
    have rd : Reads s.heap (.ref _) (.tuple (D.pAll ds)) _ := .tuple h1 h2 h3 h4
    have hna := not_mem_of_deeper rd (by simp only [PyData.depth]; omega) hb
    refine ⟨_ :: bs, ReadAtMost.cons rd (by simp only [PyData.depth]; omega) hb, ?_⟩
    simp only [PyData.depth, PyData.shown]
    exact ReprK.tuple h1 h2 h3 hna hk
  | .emp, _, _, .emp e _, r, hsh, hz => by
    cases r
    obtain ⟨o, n, h1, h2, _, h3, hsys⟩ := emp_at I e
    simp only [D.p] at hsh hz ⊢
    have rd : Reads s.heap (.ref _) (.dict []) _ := .dict h1 h2 h3 .nil .nil
    refine ⟨[_], ReadAtMost.cons rd (Nat.le_refl _) (fun _ h => nomatch h), ?_⟩
    simp only [PyData.depth, PyData.shown, PyData.shownKv_eq]
    exact ReprK.dict h1 h2 h3 hsys (by simp) (ReprEntriesK.of_two [] [] [] .nil .nil)
theorem RpL.reprK (I : Inv X pins σ H s) : ∀ {ds : List D} {vs : List V} {us : List Value}, RpL X.K H B vs ds → Vals vs us → PyData.showableAll (D.pAll ds) = true → (∀ t ∈ PyData.shownAll (D.pAll ds), t.length ≤ sizeLine) →
    ∃ bs, ReadAtMost s.heap (PyData.depthAll (D.pAll ds)) bs ∧ ReprAllK X.prog X.w bs s.heap (PyData.depthAll (D.pAll ds)) us (PyData.shownAll (D.pAll ds))
  | [], _, _, .nil, r, _, _ => by
    cases r
    simp only [D.pAll, PyData.shownAll]
    exact ⟨[], (fun _ h => nomatch h), .nil⟩
  | d :: ds, _, _, .cons h1 h2, r, hs, hz => by
    cases r with
    | cons r1 r2 =>
      simp only [D.pAll] at hs hz ⊢
      have hs' : d.p.showable = true ∧ PyData.showableAll (D.pAll ds) = true := by simpa [PyData.showableAll] using hs
      obtain ⟨b1, hb1, k1⟩ := Rp.reprK I h1 r1 hs'.1 (hz _ (by simp only [PyData.shownAll]; exact List.mem_cons_self ..))
      obtain ⟨b2, hb2, k2⟩ := RpL.reprK I h2 r2 hs'.2 (fun t ht => hz t (by simp only [PyData.shownAll]; exact List.mem_cons_of_mem _ ht))
      refine ⟨b1 ++ b2, ?_, ?_⟩
      · intro b hm
        simp only [PyData.depthAll]
        rcases List.mem_append.mp hm with hm | hm
        · obtain ⟨d', as', r', hd'⟩ := hb1 b hm
          exact ⟨d', as', r', Nat.le_trans hd' (Nat.le_max_left _ _)⟩
        · obtain ⟨d', as', r', hd'⟩ := hb2 b hm
          exact ⟨d', as', r', Nat.le_trans hd' (Nat.le_max_right _ _)⟩
      · simp only [PyData.depthAll, PyData.shownAll]
        exact .cons ((k1.more fun b hb => List.mem_append_left _ hb).level_le (Nat.le_max_left _ _)) (k2.more_le (fun b hb => List.mem_append_right _ hb) (Nat.le_max_right _ _))
end
/-- repr of what lies in the heap -/
theorem shows_of (I : Inv X pins σ H s) {d : D} {a : Addr} (h : Rp X.K H B (.ref a) d) (hs : d.p.showable = true) (hz : d.p.shown.length ≤ sizeLine) : ∃ T idr, ShowsBy X.prog X.w s.heap a d.p T idr := by
  cases h with
  | lst hl ha =>
    rename_i vs ds
    obtain ⟨its, rv, ⟨o, n, h1, h2, _, h3⟩, _⟩ := I.list (hl.imp (fun h => h.1) id)
    obtain ⟨as, h4⟩ := RpL.reads I ha rv
    simp only [D.p] at hs hz ⊢
    have hz' : (listText (PyData.shownAll (D.pAll ds))).length ≤ sizeLine := by simpa only [PyData.shown] using hz
    obtain ⟨bs, hb, hk⟩ := RpL.reprK I ha rv (by simpa [PyData.showable] using hs) (fun t ht => Nat.le_trans (listText_mem_le ht) hz')
    have rd : Reads s.heap (.ref a) (.list (D.pAll ds)) _ := .list h1 h2 h3 h4
    have hna := not_mem_of_deeper rd (by simp only [PyData.depth]; omega) hb
    refine ⟨"list", "list.__repr__", F.slot_list_repr.toG, F.slot_list_str, F.slot_list_format, fun s hk0 => ⟨o, hk0 _ _ h1, h2⟩, fun A E s' Q hg hu hk0 hQ => ?_⟩
    simp only [PyData.depth] at hu
    simp only [PyData.shown] at hQ
    cases its with
    | nil =>
      have h4' : ReadsAll s.heap [] (D.pAll ds) _ := h4
      generalize D.pAll ds = es at h4' hQ
      cases h4'
      simp only [PyData.shownAll, listText_nil] at hQ
      exact call_list_repr_empty ⟨o, hk0 _ _ h1, h2⟩ (hk0 _ _ h1) h3 (hQ s'.heap _ _ fun _ _ e => e)
    | cons x l =>
      exact call_list_reprK h1 h2 h3 hna (by simpa using hk.length_eq) (fun i y e => hk.item i y (by simpa using e)) hg (fun b _ => Clear.nil b) hu hk0 hQ hz'
  | tup hl ha =>
    rename_i vs ds
    obtain ⟨its, rv, ⟨o, h1, h2, n, h3⟩, _⟩ := I.tuple (hl.imp (fun h => h.1) id)
    obtain ⟨as, h4⟩ := RpL.reads I ha rv
    simp only [D.p] at hs hz ⊢
    have hz' : (tupleText (PyData.shownAll (D.pAll ds))).length ≤ sizeLine := by simpa only [PyData.shown] using hz
    obtain ⟨bs, hb, hk⟩ := RpL.reprK I ha rv (by simpa [PyData.showable] using hs) (fun t ht => Nat.le_trans (tupleText_mem_le ht) hz')
    have rd : Reads s.heap (.ref a) (.tuple (D.pAll ds)) _ := .tuple h1 h2 h3 h4
    have hna := not_mem_of_deeper rd (by simp only [PyData.depth]; omega) hb
    refine ⟨"tuple", "tuple.__repr__", F.slot_tuple_repr, F.slot_tuple_str, F.slot_tuple_format, fun s hk0 => ⟨o, hk0 _ _ h1, h2⟩, fun A E s' Q hg hu hk0 hQ => ?_⟩
    simp only [PyData.depth] at hu
    simp only [PyData.shown] at hQ
    exact call_tuple_reprK h1 h2 h3 hna hk hg (fun b _ => Clear.nil b) hu hk0 hQ hz'
  | emp e n =>
    obtain ⟨o, n, h1, h2, _, h3, hsys⟩ := emp_at I e
    simp only [D.p] at hs hz ⊢
    have hz' : (dictText (PyData.shownKv [])).length ≤ sizeLine := by simpa only [PyData.shown] using hz
    refine ⟨"dict", "dict.__repr__", F.slot_dict_repr, F.slot_dict_str, F.slot_dict_format, fun s hk0 => ⟨o, hk0 _ _ h1, h2⟩, fun A E s' Q hg hu hk0 hQ => ?_⟩
    simp only [PyData.depth] at hu
    simp only [PyData.shown, PyData.shownKv_eq] at hQ
    exact call_dict_reprK (as := []) h1 h2 h3 hsys (fun h => nomatch h) (ReprEntriesK.of_two [] [] [] .nil .nil) hg (fun b _ => Clear.nil b) hu hk0 hQ hz'
theorem repr_of (I : Inv X pins σ H s) {d : D} {a : Addr} {A : Around} {E : Value → Shared → Prop} {Q : Value → Shared → Prop} (h : Rp X.K H B (.ref a) d) (hs : d.p.showable = true) (hg : A.guards = some []) (hu : A.units + (d.p.depth + 1) < cLine)
    (hQ : ∀ h' u tk, (∀ b o, s.heap.get? b = some o → h'.get? b = some o) → Q (.str d.p.shown u) { s with heap := h', toks := tk }) (hz : d.p.shown.length ≤ sizeLine) : wpAny (model X.prog X.w) A (call (.builtin "repr") [.ref a]) Q E s := by
  obtain ⟨T, idr, S⟩ := shows_of I h hs hz
  exact call_repr_slot (by omega) (S.typeIs s fun _ _ e => e) S.slotRepr (S.call A.in1 E s _ hg (by show A.units + 1 + d.p.depth < cLine; omega) (fun _ _ e => e) fun h' u tk hk => ⟨_, _, rfl, hQ h' u tk hk⟩)
end
end Iv
set_option Elab.async false
set_option linter.all false
set_option maxRecDepth 100000
set_option maxHeartbeats 4000000
/-! Iu6: a tuple some times. -/
namespace Iv
open PySem PySem.Spec PyProof.Rows L2
theorem tuple_mulOne (l : Addr) (items : Array Value) (n : Nat) (dd : Option Addr) (sl : Array (Option Value)) (u : Tok) :
    Meets (Builtin.«tuple.__mul__» ⟨[.ref l, .int 1 u], []⟩) (fun _ R s => s.heap.get? l = some { cls := .type "tuple", dict := dd, data := .seq items n, slots := sl } ∧ R (.ok (.ret (Value.ref l))) s) :=
  .of_wp fun prog w A R s h => by
    obtain ⟨hp, g, d, tk, os⟩ := s
    obtain ⟨hl, h⟩ := h
    have f1 := AutoSeq1.idx_int
    have c0 : (decide ((1 : Int) < -(2 ^ 63)) || decide ((1 : Int) ≥ 2 ^ 63)) = false := by decide
    have c1 : (items.isEmpty || (1 : Int) == 1) = true := by simp
    wp_walk using wpAny_loadPart' hl
    repeat (first
      | (refine wpAny_ite_false (decide_eq_false (by rw [c0]; exact Bool.false_ne_true)) ?_; wp_walk using wpAny_loadPart' hl)
      | (refine wpAny_ite_true (decide_eq_true (by rw [c1])) ?_; wp_walk using wpAny_loadPart' hl))
    exact ⟨_, rfl, h⟩
theorem tuple_mulNo (l : Addr) (items : Array Value) (n : Nat) (dd : Option Addr) (sl : Array (Option Value)) (x : Int) (u : Tok) (c0 : (decide (x < -(2 ^ 63)) || decide (x ≥ 2 ^ 63)) = false) (c1 : (items.isEmpty || x == 1) = false) (c2 : (decide (x ≤ 0) || items.isEmpty) = true) :
    Meets (Builtin.«tuple.__mul__» ⟨[.ref l, .int x u], []⟩) (fun _ R s => s.heap.get? l = some { cls := .type "tuple", dict := dd, data := .seq items n, slots := sl } ∧
      R (.ok (.ret (Value.ref s.heap.objs.size))) { s with heap := s.heap.push { cls := Value.type "tuple", data := Data.seq #[] }, toks := s.toks }) :=
  .of_wp fun prog w A R s h => by
    obtain ⟨hp, g, d, tk, os⟩ := s
    obtain ⟨hl, h⟩ := h
    have f1 := AutoSeq1.idx_int
    wp_walk using wpAny_loadPart' hl
    repeat (first
      | (refine wpAny_ite_false (decide_eq_false (by rw [c0]; exact Bool.false_ne_true)) ?_; wp_walk using wpAny_loadPart' hl)
      | (refine wpAny_ite_false (decide_eq_false (by rw [c1]; exact Bool.false_ne_true)) ?_; wp_walk using wpAny_loadPart' hl)
      | (refine wpAny_ite_true (decide_eq_true (by rw [c2])) ?_; wp_walk using wpAny_loadPart' hl))
    exact ⟨_, rfl, h⟩
def rRepTT (K : PySem.W.Frag) : R2 := fun x y H Q => ∃ l k xs, x = .ref l ∧ y = .int k ∧ SqT K H l xs ∧ xs ≠ [] ∧ -1000 ≤ k ∧ k ≤ 1000 ∧ xs.length ≤ 1000 ∧ (k = 1 → Q (.ref l) H) ∧
  (k ≠ 1 → ∀ p, H p = none → Q (.ref p) (upd H p (.tup (List.replicate k.toNat xs).flatten)))
section
variable {X : Cx}
theorem op_repTT : OpR X (binaryOp .Mult) (rRepTT X.K) := by
  intro pins s σ H x y v u Q I rx ry h
  obtain ⟨l, k, xs, rfl, rfl, hT, hne, h1, h2, hz, q1, q2⟩ := h
  by_cases hk : 2 ≤ k
  · exact op_repT pins s σ H _ _ v u Q I rx ry ⟨l, k, xs, rfl, rfl, hT, hne, hk, h2, hz, q2 (by omega)⟩
  · cases rx
    obtain ⟨t, rfl⟩ := ry
    obtain ⟨its, r, ⟨⟨cls, dd, data, sl⟩, ho, hc, n, hd⟩, hs⟩ := I.tuple hT
    simp only at hc hd
    subst hc hd
    have hle : its.length = xs.length := r.length.symm
    have hn : its ≠ [] := fun e => hne (by
      rw [e] at hle
      exact List.eq_nil_of_length_eq_zero hle.symm)
    have hi : its.toArray.isEmpty = false := by
      cases its with
      | nil => exact absurd rfl hn
      | cons a b => rfl
    refine wpAny_binaryOp_repeat_ref (T := "tuple") (U := "int") (by decide) ⟨_, ho, rfl⟩ (fun s' => typeIs_int s' k t) noFill_tuple_mul F.fills_int_mul F.slot_int_rmul repeat_tuple F.slot_int_index.lookup
      (call_meets F.slot_int_rmul (typeIs_int s k t) F.entry_int_rmul (F.args_int_rmul_2 _ _) (int_rmul_tuple k t l its.toArray n dd sl)
        ⟨ho, rfl, ⟨_, ho, rfl⟩, ?_⟩)
    by_cases h : k = 1
    · subst h
      exact call_meets F.slot_tuple_mul ⟨_, ho, rfl⟩ F.entry_tuple_mul (F.args_tuple_mul_2 _ _) (tuple_mulOne l its.toArray n dd sl t) ⟨ho, .ref l, H, I, rfl, q1 rfl⟩
    · have c0 : (decide (k < -(2 ^ 63)) || decide (k ≥ 2 ^ 63)) = false := by
        rw [decide_eq_false (by omega), decide_eq_false (by omega)] <;> rfl
      have c1 : (its.toArray.isEmpty || k == 1) = false := by
        rw [hi, Bool.false_or]
        exact beq_eq_false_iff_ne.mpr h
      have c2 : (decide (k ≤ 0) || its.toArray.isEmpty) = true := by
        rw [decide_eq_true (by omega), Bool.true_or]
      have e0 : k.toNat = 0 := by omega
      have q2 := q2 h
      rw [e0] at q2
      refine call_meets F.slot_tuple_mul ⟨_, ho, rfl⟩ F.entry_tuple_mul (F.args_tuple_mul_2 _ _) (tuple_mulNo l its.toArray n dd sl k t c0 c1 c2) ⟨ho, ?_⟩
      refine ⟨.ref s.heap.objs.size, _, I.laid (t' := s.toks) (o := .tup []) (fun b ob q => Heap.get?_push_of_some _ q) (Nat.le_refl _) ?_, rfl, q2 _ (I.hok.fresh (Nat.le_refl _))⟩
      exact ⟨Nat.zero_le _, [], .nil, IsTup.new _ _⟩
theorem RpL.times {K : PySem.W.Frag} {H : Hp} {B : Addr → Prop} {vs : List V} {ds : List D} (h : RpL K H B vs ds) : ∀ n : Nat, RpL K H B (List.replicate n vs).flatten (List.replicate n ds).flatten
  | 0 => .nil
  | n + 1 => by
    rw [List.replicate_succ, List.replicate_succ, List.flatten_cons, List.flatten_cons]
    exact h.append (RpL.times h n)
end
end Iv
set_option Elab.async false
set_option linter.all false
set_option maxRecDepth 100000
set_option maxHeartbeats 1000000
/-! Iv3: each operation on data is what the machine does. -/
namespace Iv
open PySem PySem.Spec PyProof.Rows L2

theorem line_eq : line = sizeLine := sizeLine_eq.symm

/-- what an operation gives: the heap only grows; a fresh list is a new one -/
structure Out (K : PySem.W.Frag) (H H' : Hp) (B : Addr → Prop) (fr : Bool) (v : V) (d : D) : Prop where
  same : Same H H'
  rp : Rp K H' B v d
  new : fr = true → ∀ ds, d = .lst ds → ∃ p vs, v = .ref p ∧ H p = none ∧ H' p = some (.lst vs) ∧ RpL K H' (fun b => B b ∨ b = p) vs ds
/-- what is banned is there -/
def There (H : Hp) (B : Addr → Prop) : Prop := ∀ b, B b → ∃ o, H b = some o
section
variable {K : PySem.W.Frag} {H H' : Hp} {B : Addr → Prop} {fr : Bool}
theorem There.ne (t : There H B) {p : Addr} (h : H p = none) : ¬ B p := fun q => by
  obtain ⟨o, e⟩ := t p q
  rw [h] at e
  cases e
theorem Out.here {v : V} {d : D} (h : Rp K H B v d) (n : ∀ ds, d ≠ .lst ds) : Out K H H B fr v d := ⟨Same.refl H, h, fun _ ds e => absurd e (n ds)⟩
theorem Out.int (i : Int) : Out K H H B fr (.int i) (.int i) := .here (.int i) fun _ e => nomatch e
theorem Out.bl (i : Bool) : Out K H H B fr (.bl i) (.bl i) := .here (.bl i) fun _ e => nomatch e
theorem Out.str (i : Str) : Out K H H B fr (.str i) (.str i) := .here (.str i) fun _ e => nomatch e
theorem Out.keep {v : V} {d : D} (h : Rp K H B v d) (hf : fr = false) : Out K H H B fr v d := ⟨Same.refl H, h, fun z => by rw [hf] at z; cases z⟩
theorem RpL.new {vs : List V} {ds : List D} {p : Addr} {o : HO} (r : RpL K H B vs ds) (h : H p = none) : RpL K (upd H p o) (fun b => B b ∨ b = p) vs ds :=
  r.keep fun b x e _ n => ⟨same_upd h b x e, fun z => z.elim n (ne_of_none e h)⟩
theorem Rp.new {v : V} {d : D} {p : Addr} {o : HO} (r : Rp K H B v d) (h : H p = none) : Rp K (upd H p o) (fun b => B b ∨ b = p) v d :=
  r.keep fun b x e _ n => ⟨same_upd h b x e, fun z => z.elim n (ne_of_none e h)⟩
theorem Out.lst {vs : List V} {ds : List D} {p : Addr} (t : There H B) (r : RpL K H B vs ds) (h : H p = none) : Out K H (upd H p (.lst vs)) B fr (.ref p) (.lst ds) :=
  ⟨same_upd h, .lst (.inl ⟨.inl upd_same, t.ne h⟩) (r.same (same_upd h)), fun _ es e => by
    cases e
    exact ⟨p, vs, rfl, h, upd_same, r.new h⟩⟩
theorem Out.tup {vs : List V} {ds : List D} {p : Addr} (t : There H B) (r : RpL K H B vs ds) (h : H p = none) : Out K H (upd H p (.tup vs)) B fr (.ref p) (.tup ds) :=
  ⟨same_upd h, .tup (.inl ⟨.inl upd_same, t.ne h⟩) (r.same (same_upd h)), fun _ es e => nomatch e⟩
end

/-- the operation as a reading of values -/
def rP (K : PySem.W.Frag) (p : Prim) (vs : List V) (H : Hp) (Q : VK) : Prop :=
  ∃ B ds r, There H B ∧ RwL K H B vs ds ∧ prim p ds = some r ∧ ∀ v H', Out K H H' B p.fresh v r → Q v H'
def rP2 (K : PySem.W.Frag) (p : Prim) : R2 := fun x y H Q => rP K p [x, y] H Q
def rP1 (K : PySem.W.Frag) (p : Prim) : V → Hp → VK → Prop := fun x H Q => rP K p [x] H Q
section
variable {K : PySem.W.Frag} {H : Hp} {B : Addr → Prop}
theorem RwL.two {x y : V} {ds : List D} (h : RwL K H B [x, y] ds) : ∃ d e, ds = [d, e] ∧ Rw K H B x d ∧ Rw K H B y e := by
  cases h with
  | cons a b =>
    cases b with
    | cons c d =>
      cases d
      exact ⟨_, _, rfl, a, c⟩
theorem RwL.one {x : V} {ds : List D} (h : RwL K H B [x] ds) : ∃ d, ds = [d] ∧ Rw K H B x d := by
  cases h with
  | cons a b =>
    cases b
    exact ⟨_, rfl, a⟩
theorem rP2.get {p : Prim} {x y : V} {Q : VK} (h : rP2 K p x y H Q) : ∃ B d e r, There H B ∧ Rw K H B x d ∧ Rw K H B y e ∧ prim p [d, e] = some r ∧ ∀ v H', Out K H H' B p.fresh v r → Q v H' := by
  obtain ⟨B, ds, r, t, hw, hp, q⟩ := h
  obtain ⟨d, e, rfl, h1, h2⟩ := hw.two
  exact ⟨B, d, e, r, t, h1, h2, hp, q⟩
theorem rP.get1 {p : Prim} {vs : List V} {Q : VK} (h : rP K p vs H Q) {x : V} (e : vs = [x]) : ∃ B d r, There H B ∧ Rw K H B x d ∧ prim p [d] = some r ∧ ∀ v H', Out K H H' B p.fresh v r → Q v H' := by
  subst e
  obtain ⟨B, ds, r, t, hw, hp, q⟩ := h
  obtain ⟨d, rfl, h1⟩ := hw.one
  exact ⟨B, d, r, t, h1, hp, q⟩
end

section
variable {X : Cx}
theorem OpR.weak {f : Value → Value → Sem Value} {r r' : R2} (h : OpR X f r) (w : ∀ x y H Q, r' x y H Q → r x y H Q) : OpR X f r' := fun pins s σ H x y v u Q I a b q => h pins s σ H x y v u Q I a b (w _ _ _ _ q)
theorem CallR.weak {f : Value} {r r' : List V → Hp → VK → Prop} (h : CallR X f r) (w : ∀ x H Q, r' x H Q → r x H Q) : CallR X f r' := fun pins s σ H xs us Q I a q => h pins s σ H xs us Q I a (w _ _ _ q)
/-- l + m, lists wherever they stand -/
def rCatL (K : PySem.W.Frag) : R2 := fun x y H Q => ∃ l b xs zs, x = .ref l ∧ y = .ref b ∧ SqL K H l xs ∧ SqL K H b zs ∧ xs.length + zs.length ≤ sizeLine ∧ ∀ p, H p = none → Q (.ref p) (upd H p (.lst (xs ++ zs)))
theorem o_catL : OpR X (binaryOp .Add) (rCatL X.K) := by
  intro pins s σ H x y v u Q I rx ry h
  obtain ⟨l, b, xs, zs, rfl, rfl, h1, h2, hz, q⟩ := h
  cases rx
  cases ry
  obtain ⟨i1, r1, p1, _⟩ := I.list h1
  obtain ⟨i2, r2, p2, _⟩ := I.list h2
  obtain ⟨⟨c1, d1, t1, s1⟩, n1, e1, ec1, ed1, et1⟩ := p1
  obtain ⟨⟨c2, d2, t2, s2⟩, n2, e2, ec2, ed2, et2⟩ := p2
  simp only at ec1 ed1 et1 ec2 ed2 et2
  subst ec1 ed1 et1 ec2 ed2 et2
  refine PySem.concat_meets ⟨_, e1, rfl⟩ ⟨_, e2, rfl⟩ noFill_list_add seq_list_add F.slot_list_add F.entry_list_add (F.args_list_add_2 _ _)
    (list_addW l b i1.toArray i2.toArray n1 n2 none none s1 s2 (by simp only [List.size_toArray, ← r1.length, ← r2.length]; exact hz)) ⟨e1, e2, ?_⟩
  · rw [show i1.toArray ++ i2.toArray = (i1 ++ i2).toArray by simp]
    exact ⟨.ref _, _, I.lnew (t' := s.toks) (r1.append r2) (by rw [List.length_append]; exact hz), rfl, q _ I.fresh⟩

/-! ### two-place operators -/
theorem scal_ne {P : Prop} (h : none = some P) : False := nomatch h
theorem o_add : OpR X (binaryOp .Add) (rP2 X.K .add) := by
  intro pins s σ H x y v u Q I rx ry h
  obtain ⟨B, d, e, r, t, h1, h2, hp, q⟩ := h.get
  have hp : addD d e = some r := hp
  cases d with
  | int i =>
    cases e with
    | int j =>
      obtain rfl := h1.int
      obtain rfl := h2.int
      cases hp
      exact op_add pins s σ H _ _ v u Q I rx ry ⟨i, j, rfl, rfl, q _ _ (.int _)⟩
    | _ => cases hp
  | str i =>
    cases e with
    | str j =>
      obtain rfl := h1.str
      obtain rfl := h2.str
      simp only [addD] at hp
      split at hp
      · rename_i hz
        cases hp
        exact op_add_str pins s σ H _ _ v u Q I rx ry ⟨i, j, rfl, rfl, line_eq ▸ hz, q _ _ (.str _)⟩
      · cases hp
    | _ => cases hp
  | tup i =>
    cases e with
    | tup j =>
      obtain ⟨a, vs, rfl, s1, k1, l1⟩ := h1.tup
      obtain ⟨b, us, rfl, s2, k2, l2⟩ := h2.tup
      simp only [addD] at hp
      split at hp
      · rename_i hz
        cases hp
        have ln : vs.length + us.length ≤ sizeLine := by rw [l1.length, l2.length]; exact line_eq ▸ hz
        refine op_catA pins s σ H _ _ v u Q I rx ry ⟨a, b, vs, us, rfl, rfl, s1, s2, ln, fun z => ?_, fun _ z => ?_, fun _ _ p hn => ?_⟩
        · subst z
          cases l1
          exact q _ _ ⟨Same.refl H, .tup k2 l2, fun _ ds e => nomatch e⟩
        · subst z
          cases l2
          rw [List.append_nil] at q
          exact q _ _ ⟨Same.refl H, .tup k1 l1, fun _ ds e => nomatch e⟩
        · exact q _ _ (.tup t (l1.append l2) hn)
      · cases hp
    | _ => cases hp
  | lst i =>
    cases e with
    | lst j =>
      obtain ⟨a, vs, rfl, s1, l1⟩ := h1.lst
      obtain ⟨b, us, rfl, s2, l2⟩ := h2.lst
      simp only [addD] at hp
      split at hp
      · rename_i hz
        cases hp
        have ln : vs.length + us.length ≤ sizeLine := by rw [l1.length, l2.length]; exact line_eq ▸ hz
        exact o_catL pins s σ H _ _ v u Q I rx ry ⟨a, b, vs, us, rfl, rfl, s1, s2, ln, fun p hn => q _ _ (.lst t (l1.append l2) hn)⟩
      · cases hp
    | _ => cases hp
  | _ => cases hp
/-- an operator on ints alone -/
theorem o_ints {f : Value → Value → Sem Value} {p : Prim} {g : D → D → Option D} {C : Int → Int → Prop} {k : Int → Int → V} (ho : OpR X f (rI C k)) (hg : ∀ d e, prim p [d, e] = g d e)
    (hi : ∀ d e r, g d e = some r → ∃ i j, d = .int i ∧ e = .int j ∧ C i j ∧ ∀ K H B, Out K H H B p.fresh (k i j) r) : OpR X f (rP2 X.K p) := by
  intro pins s σ H x y v u Q I rx ry h
  obtain ⟨B, d, e, r, t, h1, h2, hp, q⟩ := h.get
  rw [hg] at hp
  obtain ⟨i, j, rfl, rfl, hc, ho'⟩ := hi d e r hp
  obtain rfl := h1.int
  obtain rfl := h2.int
  exact ho pins s σ H _ _ v u Q I rx ry ⟨i, j, rfl, rfl, hc, q _ _ (ho' _ _ _)⟩
theorem rI_of {f : Value → Value → Sem Value} {k : Int → Int → V} (h : OpR X f (rI0 k)) : OpR X f (rI (fun _ _ => True) k) := OpR.weak h fun x y H Q ⟨i, j, e1, e2, _, q⟩ => ⟨i, j, e1, e2, q⟩
theorem o_sub : OpR X (binaryOp .Sub) (rP2 X.K .sub) := o_ints (g := subD) (rI_of op_sub) (fun _ _ => rfl) fun d e r h => by
  cases d with
  | int i =>
    cases e with
    | int j => cases h; exact ⟨i, j, rfl, rfl, trivial, fun _ _ _ => .int _⟩
    | _ => cases h
  | _ => cases h
theorem o_mul0 : OpR X (binaryOp .Mult) (rI (fun i j => mulOk i j = true) fun i j => .int (i * j)) := opI fun i j _ _ _ _ _ hc q => mul_int q (by
  have hc : mulOk i j = true := hc
  unfold mulOk at hc
  simp only [Bool.or_eq_true, decide_eq_true_eq] at hc
  rcases hc with h | h | h
  · exact CMul.ok (.inl (by omega))
  · exact CMul.ok (.inr (by omega))
  · exact CMulW.ok h)
theorem o_mul : OpR X (binaryOp .Mult) (rP2 X.K .mul) := by
  intro pins s σ H x y v u Q I rx ry h
  obtain ⟨B, d, e, r, t, h1, h2, hp, q⟩ := h.get
  have hp : mulD d e = some r := hp
  cases d with
  | int i =>
    cases e with
    | int j =>
      obtain rfl := h1.int
      obtain rfl := h2.int
      simp only [mulD] at hp
      split at hp
      · rename_i hz
        cases hp
        exact o_mul0 pins s σ H _ _ v u Q I rx ry ⟨i, j, rfl, rfl, hz, q _ _ (.int _)⟩
      · cases hp
    | _ => cases hp
  | tup xs =>
    cases e with
    | int k =>
      simp only [mulD] at hp
      split at hp
      · rename_i hz
        cases hp
        simp only [Bool.and_eq_true, decide_eq_true_eq, Bool.not_eq_true', List.isEmpty_eq_false_iff] at hz
        obtain ⟨z1, z2, z3, z4⟩ := hz
        obtain ⟨a, vs, rfl, s1, k1, l1⟩ := h1.tup
        obtain rfl := h2.int
        refine op_repTT pins s σ H _ _ v u Q I rx ry ⟨a, k, vs, rfl, rfl, s1, fun z => ?_, z2, z3, by rw [l1.length]; exact z4, fun e => ?_, fun _ p hn => q _ _ (.tup t (l1.times _) hn)⟩
        · subst z
          cases l1
          exact z1 rfl
        · subst e
          have e1 : (List.replicate (1 : Int).toNat xs).flatten = xs := by
            show (List.replicate 1 xs).flatten = xs
            simp
          rw [e1] at q
          exact q _ _ ⟨Same.refl H, .tup k1 l1, fun _ ds e => nomatch e⟩
      · cases hp
    | _ => cases hp
  | _ => cases hp
theorem o_fdiv : OpR X (binaryOp .FloorDiv) (rP2 X.K .fdiv) := o_ints (g := fdivD) op_fdivW (fun _ _ => rfl) fun d e r h => by
  cases d with
  | int i =>
    cases e with
    | int j =>
      simp only [fdivD] at h
      split at h
      · rename_i hz
        cases h
        simp only [Bool.and_eq_true, decide_eq_true_eq] at hz
        exact ⟨i, j, rfl, rfl, hz, fun _ _ _ => .int _⟩
      · cases h
    | _ => cases h
  | _ => cases h
theorem o_mod : OpR X (binaryOp .Mod) (rP2 X.K .mod) := o_ints (g := modD) op_mod (fun _ _ => rfl) fun d e r h => by
  cases d with
  | int i =>
    cases e with
    | int j =>
      simp only [modD] at h
      split at h
      · rename_i hz
        cases h
        exact ⟨i, j, rfl, rfl, hz, fun _ _ _ => .int _⟩
      · cases h
    | _ => cases h
  | _ => cases h
theorem o_pow : OpR X (binaryOp .Pow) (rP2 X.K .pow) := o_ints (g := powD) op_pow (fun _ _ => rfl) fun d e r h => by
  cases d with
  | int i =>
    cases e with
    | int j =>
      simp only [powD] at h
      split at h
      · rename_i hz
        cases h
        simp only [Bool.and_eq_true, decide_eq_true_eq] at hz
        exact ⟨i, j, rfl, rfl, hz, fun _ _ _ => .int _⟩
      · cases h
    | _ => cases h
  | _ => cases h
/-! ### comparisons -/
theorem o_lt : OpR X (compareOp .Lt) (rP2 X.K .lt) := o_ints (g := ltD) (rI_of op_lt) (fun _ _ => rfl) fun d e r h => by
  cases d with
  | int i =>
    cases e with
    | int j => cases h; exact ⟨i, j, rfl, rfl, trivial, fun _ _ _ => .bl _⟩
    | _ => cases h
  | _ => cases h
theorem o_le : OpR X (compareOp .LtE) (rP2 X.K .le) := o_ints (g := leD) (rI_of op_le) (fun _ _ => rfl) fun d e r h => by
  cases d with
  | int i =>
    cases e with
    | int j => cases h; exact ⟨i, j, rfl, rfl, trivial, fun _ _ _ => .bl _⟩
    | _ => cases h
  | _ => cases h
theorem o_gt : OpR X (compareOp .Gt) (rP2 X.K .gt) := o_ints (g := fun d e => ltD e d) (rI_of op_gt) (fun _ _ => rfl) fun d e r h => by
  cases d with
  | int i =>
    cases e with
    | int j => cases h; exact ⟨i, j, rfl, rfl, trivial, fun _ _ _ => .bl _⟩
    | _ => cases h
  | _ => cases e <;> cases h
theorem o_ge : OpR X (compareOp .GtE) (rP2 X.K .ge) := o_ints (g := fun d e => leD e d) (rI_of op_ge) (fun _ _ => rfl) fun d e r h => by
  cases d with
  | int i =>
    cases e with
    | int j => cases h; exact ⟨i, j, rfl, rfl, trivial, fun _ _ _ => .bl _⟩
    | _ => cases h
  | _ => cases e <;> cases h
theorem sh_noD {d : D} (h : shOk d = true) : d.p.hasDict = false := by
  have h : (d.p.canLay0 && decide (d.p.depth ≤ 64)) = true := h
  exact PyData.hasDict_of_canLay _ (Bool.and_eq_true_iff.mp h).1
theorem o_eq (hu : X.A.units + 64 < cLine) : OpR X (compareOp .Eq) (rP2 X.K .eq) := OpR.weak (op_eqD hu) fun x y H Q h => by
  obtain ⟨B, d, e, r, t, h1, h2, hp, q⟩ := h.get
  have hp : eqD d e = some r := hp
  unfold eqD at hp
  split at hp
  · rename_i hz
    cases hp
    obtain ⟨z1, z2⟩ := Bool.and_eq_true_iff.mp hz
    exact ⟨d.p, e.p, h1.dp (sh_noD z1), h2.dp (sh_noD z2), z1, z2, q _ _ (.bl _)⟩
  · cases hp
theorem o_ne (hu : X.A.units + 64 < cLine) : OpR X (compareOp .NotEq) (rP2 X.K .ne) := OpR.weak (op_neD hu) fun x y H Q h => by
  obtain ⟨B, d, e, r, t, h1, h2, hp, q⟩ := h.get
  have hp : neD d e = some r := hp
  unfold neD at hp
  split at hp
  · rename_i hz
    cases hp
    obtain ⟨z1, z2⟩ := Bool.and_eq_true_iff.mp hz
    exact ⟨d.p, e.p, h1.dp (sh_noD z1), h2.dp (sh_noD z2), z1, z2, q _ _ (.bl _)⟩
  · cases hp
theorem inD_of {d e : D} {b : Bool} (h : inD d e = some b) : (∃ xs, e = .lst xs ∧ shOk d = true ∧ shOk (.lst xs) = true ∧ b = (D.pAll xs).any fun z => PyData.eqv z d.p) ∨ ∃ xs, e = .tup xs ∧ shOk d = true ∧ shOk (.tup xs) = true ∧ b = (D.pAll xs).any fun z => PyData.eqv z d.p := by
  cases e with
  | lst xs =>
    simp only [inD] at h
    split at h
    · rename_i hz
      cases h
      obtain ⟨z1, z2⟩ := Bool.and_eq_true_iff.mp hz
      exact .inl ⟨xs, rfl, z1, z2, by rw [D.pAll_map, List.any_map]; rfl⟩
    · cases h
  | tup xs =>
    simp only [inD] at h
    split at h
    · rename_i hz
      cases h
      obtain ⟨z1, z2⟩ := Bool.and_eq_true_iff.mp hz
      exact .inr ⟨xs, rfl, z1, z2, by rw [D.pAll_map, List.any_map]; rfl⟩
    · cases h
  | _ => cases h
theorem p_lst (xs : List D) : (D.lst xs).p = .list (D.pAll xs) := by simp only [D.p]
theorem p_tup (xs : List D) : (D.tup xs).p = .tuple (D.pAll xs) := by simp only [D.p]
/-- x in a tuple -/
def rInT (K : PySem.W.Frag) (neg : Bool) : R2 := fun x y H Q => ∃ d ds, Dp K H x d ∧ Dp K H y (.tuple ds) ∧ SeqAt.shaped d = true ∧ SeqAt.shaped (.tuple ds) = true ∧ Q (.bl (if neg then !(ds.any fun z => PyData.eqv z d) else ds.any fun z => PyData.eqv z d)) H
theorem op_inT (hu : X.A.units + 65 < cLine) : OpR X (compareOp .In) (rInT X.K false) := by
  intro pins s σ H x y v u Q I rx ry h
  obtain ⟨d, ds, hd, he, sd, se, q⟩ := h
  obtain ⟨as, r1⟩ := Dp.reads I d x v hd rx
  obtain ⟨bs, r2⟩ := Dp.reads I (.tuple ds) y u he ry
  exact SeqAt.in_tuple_reads r2 r1 (SeqAt.canLay_of_shaped se) (SeqAt.canLay_of_shaped sd) (room_in_shaped sd hu) ⟨.bl _, H, I, rfl, q⟩
theorem op_notInT (hu : X.A.units + 65 < cLine) : OpR X (compareOp .NotIn) (rInT X.K true) := by
  intro pins s σ H x y v u Q I rx ry h
  obtain ⟨d, ds, hd, he, sd, se, q⟩ := h
  obtain ⟨as, r1⟩ := Dp.reads I d x v hd rx
  obtain ⟨bs, r2⟩ := Dp.reads I (.tuple ds) y u he ry
  exact SeqAt.notIn_tuple_reads r2 r1 (SeqAt.canLay_of_shaped se) (SeqAt.canLay_of_shaped sd) (room_in_shaped sd hu) ⟨.bl _, H, I, rfl, q⟩
theorem o_in (hu : X.A.units + 65 < cLine) : OpR X (compareOp .In) (rP2 X.K .isin) := by
  intro pins s σ H x y v u Q I rx ry h
  obtain ⟨B, d, e, r, t, h1, h2, hp, q⟩ := h.get
  have hp : (inD d e).map D.bl = some r := hp
  cases hq : inD d e with
  | none => rw [hq] at hp; cases hp
  | some b =>
    rw [hq] at hp
    cases hp
    rcases inD_of hq with ⟨xs, rfl, z1, z2, rfl⟩ | ⟨xs, rfl, z1, z2, rfl⟩
    · exact op_inD hu pins s σ H x y v u Q I rx ry ⟨d.p, _, h1.dp (sh_noD z1), p_lst xs ▸ h2.dp (sh_noD z2), z1, p_lst xs ▸ z2, q _ _ (.bl _)⟩
    · exact op_inT hu pins s σ H x y v u Q I rx ry ⟨d.p, _, h1.dp (sh_noD z1), p_tup xs ▸ h2.dp (sh_noD z2), z1, p_tup xs ▸ z2, q _ _ (.bl _)⟩
theorem o_notin (hu : X.A.units + 65 < cLine) : OpR X (compareOp .NotIn) (rP2 X.K .notin) := by
  intro pins s σ H x y v u Q I rx ry h
  obtain ⟨B, d, e, r, t, h1, h2, hp, q⟩ := h.get
  have hp : ((inD d e).map fun c => D.bl (!c)) = some r := hp
  cases hq : inD d e with
  | none => rw [hq] at hp; cases hp
  | some b =>
    rw [hq] at hp
    cases hp
    rcases inD_of hq with ⟨xs, rfl, z1, z2, rfl⟩ | ⟨xs, rfl, z1, z2, rfl⟩
    · exact op_notInD hu pins s σ H x y v u Q I rx ry ⟨d.p, _, h1.dp (sh_noD z1), p_lst xs ▸ h2.dp (sh_noD z2), z1, p_lst xs ▸ z2, q _ _ (.bl _)⟩
    · exact op_notInT hu pins s σ H x y v u Q I rx ry ⟨d.p, _, h1.dp (sh_noD z1), p_tup xs ▸ h2.dp (sh_noD z2), z1, p_tup xs ▸ z2, q _ _ (.bl _)⟩
theorem isNon_rel {K : PySem.W.Frag} {H : Hp} {B : Addr → Prop} {v : V} {d : D} (h : Rw K H B v d) : decide (v = .non) = d.isNon := by
  cases d with
  | non => rw [h.non]; rfl
  | bl b => rw [h.bl]; rfl
  | int i => rw [h.int]; rfl
  | str x => rw [h.str]; rfl
  | tup xs => obtain ⟨a, vs, rfl, _⟩ := h.tup; rfl
  | lst xs => obtain ⟨a, vs, rfl, _⟩ := h.lst; rfl
  | emp =>
    have h : Rp K H B v .emp := h
    cases h
    rfl
theorem o_is : OpR X (compareOp .Is) (rP2 X.K .isN) := OpR.weak op_isN fun x y H Q h => by
  obtain ⟨B, d, e, r, t, h1, h2, hp, q⟩ := h.get
  cases e with
  | non =>
    cases hp
    exact ⟨h2.non, by rw [isNon_rel h1]; exact q _ _ (.bl _)⟩
  | _ => cases hp
theorem o_isnot : OpR X (compareOp .IsNot) (rP2 X.K .notN) := OpR.weak op_notN fun x y H Q h => by
  obtain ⟨B, d, e, r, t, h1, h2, hp, q⟩ := h.get
  cases e with
  | non =>
    cases hp
    exact ⟨h2.non, by rw [isNon_rel h1]; exact q _ _ (.bl _)⟩
  | _ => cases hp
theorem o_neg : UnR X (unaryOp .USub) (rP1 X.K .neg) := by
  intro pins s σ H x v Q I rx h
  obtain ⟨B, d, r, t, h1, hp, q⟩ := rP.get1 h rfl
  cases d with
  | int i =>
    obtain rfl := h1.int
    cases hp
    exact un_neg pins s σ H _ v Q I rx ⟨i, rfl, q _ _ (.int _)⟩
  | _ => cases hp
/-! ### places, slices -/
theorem o_idx : IxR X (rP2 X.K .idx) := by
  intro value slice pins s σ H x y v u Q I rx ry h hs
  obtain ⟨B, d, e, r, t, h1, h2, hp, q⟩ := h.get
  have hp : idxD d e = some r := hp
  refine ix_seq value slice pins s σ H x y v u Q I rx ry ?_ hs
  cases d with
  | lst xs =>
    cases e with
    | int i =>
      obtain ⟨a, vs, rfl, s1, l1⟩ := h1.lst
      obtain rfl := h2.int
      obtain ⟨z, e1, e2⟩ := l1.atI hp
      exact .inl ⟨a, vs, i, z, rfl, rfl, s1, e1, q _ _ (.keep e2 rfl)⟩
    | _ => cases hp
  | tup xs =>
    cases e with
    | int i =>
      obtain ⟨a, vs, rfl, s1, _, l1⟩ := h1.tup
      obtain rfl := h2.int
      obtain ⟨z, e1, e2⟩ := l1.atI hp
      exact .inr (.inl ⟨a, vs, i, z, rfl, rfl, s1, e1, q _ _ (.keep e2 rfl)⟩)
    | _ => cases hp
  | str z =>
    cases e with
    | int i =>
      obtain rfl := h1.str
      obtain rfl := h2.int
      simp only [idxD] at hp
      split at hp
      · rename_i hz
        cases hc : L2.atI z.cps.toList i with
        | none => rw [hc] at hp; cases hp
        | some c =>
          rw [hc] at hp
          cases hp
          exact .inr (.inr ⟨z, i, c, rfl, rfl, line_eq ▸ hz, hc, q _ _ (.str _)⟩)
      · cases hp
    | _ => cases hp
  | _ => cases hp
def rCut (K : PySem.W.Frag) : V → Option Int → Option Int → Hp → VK → Prop := fun x lo hi H Q => ∃ B d r, There H B ∧ Rw K H B x d ∧ cutD d lo hi = some r ∧ ∀ v H', Out K H H' B true v r → Q v H'
theorem o_cut : SlR X (rCut X.K) := by
  intro pins s σ H x v vl vu lo hi sl Q I rx hs pl pu h
  refine (sl_list.or sl_tupA) pins s σ H x v vl vu lo hi sl Q I rx hs pl pu ?_
  obtain ⟨B, d, r, t, h1, hp, q⟩ := h
  cases d with
  | lst xs =>
    cases hp
    obtain ⟨a, vs, rfl, s1, l1⟩ := h1.lst
    exact .inl ⟨a, vs, rfl, s1, fun p hn => q _ _ (.lst t (l1.cut lo hi) hn)⟩
  | tup xs =>
    cases hp
    obtain ⟨a, vs, rfl, s1, k1, l1⟩ := h1.tup
    refine .inr ⟨a, vs, rfl, s1, fun z => ?_, fun _ p hn => q _ _ (.tup t (l1.cut lo hi) hn)⟩
    have e : cutL xs lo hi = xs := by
      unfold cutL
      rw [l1.length] at z
      rw [z.1, z.2]
      simp
    rw [e] at q
    exact q _ _ ⟨Same.refl H, .tup k1 l1, fun _ ds e => nomatch e⟩
  | _ => cases hp
/-! ### built-in functions -/
theorem c_len : CallR X (.builtin "len") (rP X.K .len) := CallR.weak (call_len_seq.or call_len_str) fun xs H Q h => by
  obtain ⟨B, ds, r, t, hw, hp, q⟩ := h
  cases hw with
  | nil => cases hp
  | cons h1 h2 =>
    cases h2 with
    | cons _ _ => cases hp
    | nil =>
      rename_i d
      have hp : lenD d = some r := hp
      cases d with
      | lst xs =>
        cases hp
        obtain ⟨a, vs, rfl, s1, l1⟩ := h1.lst
        exact .inl ⟨a, vs, rfl, .inl s1, by rw [l1.length]; exact q _ _ (.int _)⟩
      | tup xs =>
        cases hp
        obtain ⟨a, vs, rfl, s1, _, l1⟩ := h1.tup
        exact .inl ⟨a, vs, rfl, .inr s1, by rw [l1.length]; exact q _ _ (.int _)⟩
      | str x =>
        obtain rfl := h1.str
        simp only [lenD] at hp
        split at hp
        · rename_i hz
          cases hp
          exact .inr ⟨x, rfl, line_eq ▸ hz, q _ _ (.int _)⟩
        · cases hp
      | _ => cases hp
/-- one argument: the reading's data -/
theorem rP.one {K : PySem.W.Frag} {p : Prim} {xs : List V} {H : Hp} {Q : VK} (h : rP K p xs H Q) (h0 : ∀ ds r, prim p ds = some r → ds.length = 1) : ∃ B x d r, xs = [x] ∧ There H B ∧ Rw K H B x d ∧ prim p [d] = some r ∧ ∀ v H', Out K H H' B p.fresh v r → Q v H' := by
  obtain ⟨B, ds, r, t, hw, hp, q⟩ := h
  have hl := h0 _ _ hp
  cases hw with
  | nil => cases hl
  | cons h1 h2 =>
    cases h2 with
    | cons _ _ => cases hl
    | nil => exact ⟨B, _, _, r, rfl, t, h1, hp, q⟩
theorem rP.two {K : PySem.W.Frag} {p : Prim} {xs : List V} {H : Hp} {Q : VK} (h : rP K p xs H Q) (h0 : ∀ ds r, prim p ds = some r → ds.length = 2) : ∃ B x y d e r, xs = [x, y] ∧ There H B ∧ Rw K H B x d ∧ Rw K H B y e ∧ prim p [d, e] = some r ∧ ∀ v H', Out K H H' B p.fresh v r → Q v H' := by
  obtain ⟨B, ds, r, t, hw, hp, q⟩ := h
  have hl := h0 _ _ hp
  cases hw with
  | nil => cases hl
  | cons h1 h2 =>
    cases h2 with
    | nil => cases hl
    | cons h3 h4 =>
      cases h4 with
      | cons _ _ => cases hl
      | nil => exact ⟨B, _, _, _, _, r, rfl, t, h1, h3, hp, q⟩
theorem c_abs : CallR X (.builtin "abs") (rP X.K .abs) := CallR.weak call_abs fun xs H Q h => by
  obtain ⟨B, x, d, r, rfl, t, h1, hp, q⟩ := h.one fun ds r e => by
    rcases ds with _ | ⟨a, _ | ⟨b, l⟩⟩ <;> first | rfl | cases e
  cases d with
  | int i =>
    obtain rfl := h1.int
    cases hp
    exact ⟨i, rfl, q _ _ (.int _)⟩
  | _ => cases hp
theorem maxI_spec : ∀ (r : List Int) (m : Int), maxI m r ∈ m :: r ∧ ∀ y ∈ m :: r, y ≤ maxI m r
  | [], m => by simp [maxI]
  | x :: r, m => by
    unfold maxI
    by_cases hx : x > m
    · rw [if_pos hx]
      obtain ⟨h1, h2⟩ := maxI_spec r x
      have a := h2 x (List.mem_cons_self ..)
      refine ⟨List.mem_cons_of_mem _ h1, fun y hy => ?_⟩
      rcases List.mem_cons.mp hy with e | hy
      · subst e
        omega
      · exact h2 y hy
    · rw [if_neg hx]
      obtain ⟨h1, h2⟩ := maxI_spec r m
      have a := h2 m (List.mem_cons_self ..)
      refine ⟨?_, fun y hy => ?_⟩
      · rcases List.mem_cons.mp h1 with e | e
        · rw [e]
          exact List.mem_cons_self ..
        · exact List.mem_cons_of_mem _ (List.mem_cons_of_mem _ e)
      · rcases List.mem_cons.mp hy with e | hy
        · subst e
          exact a
        · rcases List.mem_cons.mp hy with e | hy
          · subst e
            omega
          · exact h2 y (List.mem_cons_of_mem _ hy)
theorem minI_spec : ∀ (r : List Int) (m : Int), minI m r ∈ m :: r ∧ ∀ y ∈ m :: r, minI m r ≤ y
  | [], m => by simp [minI]
  | x :: r, m => by
    unfold minI
    by_cases hx : x < m
    · rw [if_pos hx]
      obtain ⟨h1, h2⟩ := minI_spec r x
      have a := h2 x (List.mem_cons_self ..)
      refine ⟨List.mem_cons_of_mem _ h1, fun y hy => ?_⟩
      rcases List.mem_cons.mp hy with e | hy
      · subst e
        omega
      · exact h2 y hy
    · rw [if_neg hx]
      obtain ⟨h1, h2⟩ := minI_spec r m
      have a := h2 m (List.mem_cons_self ..)
      refine ⟨?_, fun y hy => ?_⟩
      · rcases List.mem_cons.mp h1 with e | e
        · rw [e]
          exact List.mem_cons_self ..
        · exact List.mem_cons_of_mem _ (List.mem_cons_of_mem _ e)
      · rcases List.mem_cons.mp hy with e | hy
        · subst e
          exact a
        · rcases List.mem_cons.mp hy with e | hy
          · subst e
            omega
          · exact h2 y (List.mem_cons_of_mem _ hy)
theorem c_max (hc : X.calm = true) : CallR X (.builtin "max") (rP X.K .max) := CallR.weak ((call_max2 hc).or (cr_max hc)) fun xs H Q h => by
  obtain ⟨B, ds, r, t, hw, hp, q⟩ := h
  have hp : maxD ds = some r := hp
  unfold maxD at hp
  split at hp
  · cases hp
    cases hw with
    | cons a b =>
      cases b with
      | cons c d =>
        cases d
        obtain rfl := a.int
        obtain rfl := c.int
        exact .inl ⟨_, _, rfl, q _ _ (.int _)⟩
  · rename_i ys
    cases hw with
    | cons h1 h2 =>
      cases h2
      split at hp
      · rename_i x0 r0 e
        cases hp
        obtain ⟨a, vs, rfl, s1, l1⟩ := h1.lst
        rw [l1.ints e] at s1
        refine .inr ⟨a, x0 :: r0, rfl, s1, by simp, fun m hm hle => ?_⟩
        obtain ⟨z1, z2⟩ := maxI_spec r0 x0
        rw [show m = maxI x0 r0 from Int.le_antisymm (z2 m hm) (hle _ z1)]
        exact q _ _ (.int _)
      · cases hp
  · cases hp
theorem c_min (hc : X.calm = true) : CallR X (.builtin "min") (rP X.K .min) := CallR.weak ((call_min2 hc).or (cr_min hc)) fun xs H Q h => by
  obtain ⟨B, ds, r, t, hw, hp, q⟩ := h
  have hp : minD ds = some r := hp
  unfold minD at hp
  split at hp
  · cases hp
    cases hw with
    | cons a b =>
      cases b with
      | cons c d =>
        cases d
        obtain rfl := a.int
        obtain rfl := c.int
        exact .inl ⟨_, _, rfl, q _ _ (.int _)⟩
  · rename_i ys
    cases hw with
    | cons h1 h2 =>
      cases h2
      split at hp
      · rename_i x0 r0 e
        cases hp
        obtain ⟨a, vs, rfl, s1, l1⟩ := h1.lst
        rw [l1.ints e] at s1
        refine .inr ⟨a, x0 :: r0, rfl, s1, by simp, fun m hm hle => ?_⟩
        obtain ⟨z1, z2⟩ := minI_spec r0 x0
        rw [show m = minI x0 r0 from Int.le_antisymm (hle _ z1) (z2 m hm)]
        exact q _ _ (.int _)
      · cases hp
  · cases hp
theorem c_sum (hc : X.calm = true) : CallR X (.builtin "sum") (rP X.K .sum) := CallR.weak (cr_sum hc) fun xs H Q h => by
  obtain ⟨B, x, d, r, rfl, t, h1, hp, q⟩ := h.one fun ds r e => by
    rcases ds with _ | ⟨a, _ | ⟨b, l⟩⟩ <;> first | rfl | cases e
  have hp : sumD d = some r := hp
  cases d with
  | lst ys =>
    simp only [sumD] at hp
    cases e : intsOf ys with
    | none => rw [e] at hp; cases hp
    | some ns =>
      rw [e] at hp
      cases hp
      obtain ⟨a, vs, rfl, s1, l1⟩ := h1.lst
      rw [l1.ints e] at s1
      exact ⟨a, ns, rfl, s1, q _ _ (.int _)⟩
  | _ => cases hp
theorem c_all (hc : X.calm = true) : CallR X (.builtin "all") (rP X.K .all) := CallR.weak (cr_all hc) fun xs H Q h => by
  obtain ⟨B, x, d, r, rfl, t, h1, hp, q⟩ := h.one fun ds r e => by
    rcases ds with _ | ⟨a, _ | ⟨b, l⟩⟩ <;> first | rfl | cases e
  have hp : allD d = some r := hp
  cases d with
  | lst ys =>
    simp only [allD] at hp
    cases e : boolsOf ys with
    | none => rw [e] at hp; cases hp
    | some ns =>
      rw [e] at hp
      cases hp
      obtain ⟨a, vs, rfl, s1, l1⟩ := h1.lst
      rw [l1.bools e] at s1
      exact ⟨a, ns, rfl, s1, q _ _ (.bl _)⟩
  | _ => cases hp
theorem c_any (hc : X.calm = true) : CallR X (.builtin "any") (rP X.K .any) := CallR.weak (cr_any hc) fun xs H Q h => by
  obtain ⟨B, x, d, r, rfl, t, h1, hp, q⟩ := h.one fun ds r e => by
    rcases ds with _ | ⟨a, _ | ⟨b, l⟩⟩ <;> first | rfl | cases e
  have hp : anyD d = some r := hp
  cases d with
  | lst ys =>
    simp only [anyD] at hp
    cases e : boolsOf ys with
    | none => rw [e] at hp; cases hp
    | some ns =>
      rw [e] at hp
      cases hp
      obtain ⟨a, vs, rfl, s1, l1⟩ := h1.lst
      rw [l1.bools e] at s1
      exact ⟨a, ns, rfl, s1, q _ _ (.bl _)⟩
  | _ => cases hp
theorem c_tuple : CallR X (.type "tuple") (rP X.K .tuple) := CallR.weak call_tuple_of fun xs H Q h => by
  obtain ⟨B, x, d, r, rfl, t, h1, hp, q⟩ := h.one fun ds r e => by
    rcases ds with _ | ⟨a, _ | ⟨b, l⟩⟩ <;> first | rfl | cases e
  have hp : tupleD d = some r := hp
  cases d with
  | lst ys =>
    cases hp
    obtain ⟨a, vs, rfl, s1, l1⟩ := h1.lst
    exact ⟨a, vs, rfl, .inl ⟨s1, fun p hn => q _ _ (.tup t l1 hn)⟩⟩
  | tup ys =>
    cases hp
    obtain ⟨a, vs, rfl, s1, k1, l1⟩ := h1.tup
    exact ⟨a, vs, rfl, .inr ⟨s1, q _ _ (.keep (.tup k1 l1) rfl)⟩⟩
  | _ => cases hp
theorem c_list : CallR X (.type "list") (rP X.K .list) := CallR.weak call_list_of fun xs H Q h => by
  obtain ⟨B, x, d, r, rfl, t, h1, hp, q⟩ := h.one fun ds r e => by
    rcases ds with _ | ⟨a, _ | ⟨b, l⟩⟩ <;> first | rfl | cases e
  have hp : listD d = some r := hp
  cases d with
  | lst ys =>
    cases hp
    obtain ⟨a, vs, rfl, s1, l1⟩ := h1.lst
    exact ⟨a, vs, rfl, .inl s1, fun p hn => q _ _ (.lst t l1 hn)⟩
  | tup ys =>
    cases hp
    obtain ⟨a, vs, rfl, s1, k1, l1⟩ := h1.tup
    exact ⟨a, vs, rfl, .inr s1, fun p hn => q _ _ (.lst t l1 hn)⟩
  | _ => cases hp
theorem c_int1 : CallR X (.type "int") (rP X.K .int1) := CallR.weak call_int1 fun xs H Q h => by
  obtain ⟨B, x, d, r, rfl, t, h1, hp, q⟩ := h.one fun ds r e => by
    rcases ds with _ | ⟨a, _ | ⟨b, l⟩⟩ <;> first | rfl | cases e
  have hp : int1D d = some r := hp
  cases d with
  | int i =>
    cases hp
    obtain rfl := h1.int
    exact .inl ⟨i, rfl, q _ _ (.int _)⟩
  | bl b =>
    cases hp
    obtain rfl := h1.bl
    exact .inr ⟨b, rfl, q _ _ (.int _)⟩
  | _ => cases hp
theorem c_str1 : CallR X (.type "str") (rP X.K .str1) := CallR.weak (call_str_int.or SkE.call_str_str) fun xs H Q h => by
  obtain ⟨B, x, d, r, rfl, t, h1, hp, q⟩ := h.one fun ds r e => by
    rcases ds with _ | ⟨a, _ | ⟨b, l⟩⟩ <;> first | rfl | cases e
  have hp : str1D d = some r := hp
  cases d with
  | int i =>
    simp only [str1D] at hp
    split at hp
    · rename_i hz
      cases hp
      obtain rfl := h1.int
      exact .inl ⟨i, rfl, hz, q _ _ (.str _)⟩
    · cases hp
  | str z =>
    cases hp
    obtain rfl := h1.str
    exact .inr ⟨z, rfl, q _ _ (.str _)⟩
  | _ => cases hp
theorem c_divmod : CallR X (.builtin "divmod") (rP X.K .divmod) := CallR.weak call_divmodW fun xs H Q h => by
  obtain ⟨B, x, y, d, e, r, rfl, t, h1, h2, hp, q⟩ := h.two fun ds r e => by
    rcases ds with _ | ⟨a, _ | ⟨b, _ | ⟨c, l⟩⟩⟩ <;> first | rfl | cases e
  have hp : divmodD d e = some r := hp
  cases d with
  | int i =>
    cases e with
    | int j =>
      simp only [divmodD] at hp
      split at hp
      · rename_i hz
        cases hp
        simp only [Bool.and_eq_true, decide_eq_true_eq, Bool.not_eq_true'] at hz
        obtain rfl := h1.int
        obtain rfl := h2.int
        exact ⟨i, j, rfl, hz, fun p hn => q _ _ (.tup t (.cons (.int _) (.cons (.int _) .nil)) hn)⟩
      · cases hp
    | _ => cases hp
  | _ => cases hp
theorem c_repr (hg : X.A.guards = some []) (hu : X.A.units + 65 < cLine) : CallR X (.builtin "repr") (rP X.K .repr) := by
  intro pins s σ H xs us Q I r h
  obtain ⟨B, x, d, w, rfl, t, h1, hp, q⟩ := h.one fun ds r e => by
    rcases ds with _ | ⟨a, _ | ⟨b, l⟩⟩ <;> first | rfl | cases e
  have hp : reprD d = some w := hp
  unfold reprD at hp
  split at hp
  · rename_i hz
    cases hp
    unfold reprOk at hz
    simp only [Bool.and_eq_true, decide_eq_true_eq] at hz
    obtain ⟨z1, z2, z3⟩ := hz
    rw [line_eq] at z3
    obtain ⟨u, rfl, ru⟩ := vals1 r
    have fin := q _ _ (.str _)
    cases d with
    | non =>
      obtain rfl := h1.non
      cases ru
      simp only [D.p, PyData.shown] at fin
      exact PySem.P.repr_of_none ⟨.str _, H, I.tok _, ⟨_, rfl⟩, fin⟩
    | bl b =>
      obtain rfl := h1.bl
      cases ru
      simp only [D.p, PyData.shown] at fin
      exact PySem.P.repr_of_bool ⟨.str _, H, I.tok _, ⟨_, rfl⟩, fin⟩
    | int i =>
      obtain rfl := h1.int
      obtain ⟨t', rfl⟩ := ru
      simp only [D.p, PyData.shown] at fin
      exact PySem.P.repr_of_int (by simpa [D.p, PyData.showable] using z1) ⟨.str _, H, I.tok _, ⟨_, rfl⟩, fin⟩
    | str z =>
      obtain rfl := h1.str
      obtain ⟨t', rfl⟩ := ru
      simp only [D.p, PyData.shown] at fin z3
      exact PySem.P.repr_of_str ⟨.str _, H, I.tok _, ⟨_, rfl⟩, fin⟩ z3
    | lst xs =>
      obtain ⟨a, vs, rfl, s1, l1⟩ := h1.lst
      cases ru
      exact repr_of (B := fun _ => False) I (h1.free) z1 hg (by omega) (fun h' u tk k => ⟨.str _, H, I.kept k, ⟨_, rfl⟩, fin⟩) z3
    | tup xs =>
      obtain ⟨a, vs, rfl, s1, _, l1⟩ := h1.tup
      cases ru
      exact repr_of (B := fun _ => False) I (h1.free) z1 hg (by omega) (fun h' u tk k => ⟨.str _, H, I.kept k, ⟨_, rfl⟩, fin⟩) z3
    | emp =>
      have h1' : Rp X.K H B x .emp := h1
      cases h1' with
      | emp e n =>
        cases ru
        exact repr_of (B := fun _ => False) I (h1.free) z1 hg (by omega) (fun h' u tk k => ⟨.str _, H, I.kept k, ⟨_, rfl⟩, fin⟩) z3
  · cases hp
/-- l.index(x) -/
def rIdxOf (K : PySem.W.Frag) : V → List V → Hp → VK → Prop := fun x xs H Q => rP K .index (x :: xs) H Q
theorem m_index (hu : X.A.units + 65 < cLine) : MtR X "list.index" (rIdxOf X.K) := by
  intro pins s σ H x xs v us Q I rx rxs h
  obtain ⟨B, x', y, d, e, r, e1, t, h1, h2, hp, q⟩ := rP.two h fun ds r e => by
    rcases ds with _ | ⟨a, _ | ⟨b, _ | ⟨c, l⟩⟩⟩ <;> first | rfl | cases e
  cases e1
  have hp : indexD e d = some r := hp
  cases d with
  | lst ys =>
    simp only [indexD] at hp
    split at hp
    · rename_i hz
      cases hp
      simp only [Bool.and_eq_true] at hz
      obtain ⟨z1, z2, z3⟩ := hz
      obtain ⟨a, vs, rfl, s1, l1⟩ := h1.lst
      have hj : ys.findIdx (fun z => PyData.eqv z.p e.p) < ys.length := List.findIdx_lt_length.mpr (List.any_eq_true.mp z3)
      refine mt_indexD hu pins s σ H _ _ v us Q I rx rxs ⟨a, y, e.p, D.pAll ys, ys.findIdx (fun z => PyData.eqv z.p e.p), (ys[ys.findIdx (fun z => PyData.eqv z.p e.p)]).p, rfl, rfl, p_lst ys ▸ h1.dp (sh_noD z2), h2.dp (sh_noD z1), p_lst ys ▸ z2, z1, ?_, ?_, ?_, q _ _ (.int _)⟩
      · rw [D.pAll_map, List.getElem?_map, List.getElem?_eq_getElem hj]
        rfl
      · exact List.findIdx_getElem (w := hj)
      · intro m z hm hz'
        rw [D.pAll_map, List.getElem?_map] at hz'
        have hm' : m < ys.length := by omega
        rw [List.getElem?_eq_getElem hm'] at hz'
        cases hz'
        have := List.not_of_lt_findIdx hm
        simpa using this
    · cases hp
  | _ => cases hp
end
end Iv
set_option Elab.async false
set_option linter.all false
set_option maxRecDepth 100000
set_option maxHeartbeats 1000000
/-! Iu2: gcd, sorted. -/
namespace Iv
open PySem PySem.Spec PyProof.Rows L2
section
variable {X : Cx}
theorem c_gcd : CallR X (.builtin "math.gcd") (rP X.K .gcd) := CallR.weak cr_gcd fun xs H Q h => by
  obtain ⟨B, x, y, d, e, r, rfl, t, h1, h2, hp, q⟩ := h.two fun ds r e => by
    rcases ds with _ | ⟨a, _ | ⟨b, _ | ⟨c, l⟩⟩⟩ <;> first | rfl | cases e
  have hp : gcdD d e = some r := hp
  cases d with
  | int i =>
    cases e with
    | int j =>
      cases hp
      obtain rfl := h1.int
      obtain rfl := h2.int
      exact ⟨i, j, rfl, q _ _ (.int _)⟩
    | _ => cases hp
  | _ => cases hp
open PySem.W in
theorem each_zip {h : V → D → Value → Prop} : ∀ {vs : List V} {us : List Value} {ds : List D}, Vals vs us → vs.length = ds.length → (∀ p ∈ (vs.zip ds).zip us, RelV p.1.1 p.2 → h p.1.1 p.1.2 p.2) → EachIs (fun u (b : V × D) => h b.1 b.2 u) us (vs.zip ds)
  | [], _, [], .nil, _, _ => .nil
  | v :: vs, u :: us, d :: ds, .cons r rs, hl, k => .cons (k _ (List.mem_cons_self ..) r) (each_zip rs (by simpa using hl) fun p hp => k p (List.mem_cons_of_mem _ hp))
open PySem.W in
theorem each_vals : ∀ {us : List Value} {bs : List (V × D)}, EachIs (fun u (b : V × D) => RelV b.1 u) us bs → Vals (bs.map (·.1)) us
  | _, _, .nil => .nil
  | _, _, .cons r rs => .cons r (each_vals rs)
theorem RpL.pairs {K : PySem.W.Frag} {H : Hp} {B : Addr → Prop} : ∀ {bs : List (V × D)}, (∀ b ∈ bs, Rp K H B b.1 b.2) → RpL K H B (bs.map (·.1)) (bs.map (·.2))
  | [], _ => .nil
  | b :: bs, h => .cons (h b (List.mem_cons_self ..)) (RpL.pairs fun c hc => h c (List.mem_cons_of_mem _ hc))
theorem RpL.zipM {K : PySem.W.Frag} {H : Hp} {B : Addr → Prop} : ∀ {vs : List V} {ds : List D}, RpL K H B vs ds → ∀ b ∈ vs.zip ds, Rp K H B b.1 b.2
  | _, _, .nil, b, hb => by cases hb
  | _, _, .cons a r, b, hb => by
    rw [List.zip_cons_cons] at hb
    rcases List.mem_cons.mp hb with rfl | hb
    · exact a
    · exact RpL.zipM r b hb
theorem zip_snd {α β γ : Type} (f : β → γ) : ∀ {vs : List α} {ds : List β}, vs.length = ds.length → (vs.zip ds).map (fun b => f b.2) = ds.map f
  | [], [], _ => rfl
  | v :: vs, d :: ds, h => by
    rw [List.zip_cons_cons, List.map_cons, List.map_cons, zip_snd f (by simpa using h)]
theorem tupN_of {p : PyData} (h : tupN p = true) : ∃ x r, p = .tuple (x :: r) := by
  unfold tupN at h
  split at h
  · exact ⟨_, _, rfl⟩
  · cases h
theorem notT_of {p : PyData} (h : notT p = true) : p ≠ .none ∧ ∀ xs, p ≠ .tuple xs := by
  unfold notT at h
  split at h
  · cases h
  · cases h
  · rename_i h1 h2
    exact ⟨h1, h2⟩
theorem shaped_depth {d : PyData} (h : SeqAt.shaped d = true) : d.depth ≤ 64 := by
  simp only [SeqAt.shaped, Bool.and_eq_true, decide_eq_true_eq] at h
  omega
theorem c_sorted (hu : X.A.units + 70 < cLine) : CallR X (.builtin "sorted") (rP X.K .sorted) := by
  intro pins s σ H xs us Q I r h
  obtain ⟨B, x, d, w, rfl, t, h1, hp, q⟩ := h.one fun ds r e => by
    rcases ds with _ | ⟨a, _ | ⟨b, l⟩⟩ <;> first | rfl | cases e
  have hp : sortedD d = some w := hp
  cases d with
  | lst ds =>
    simp only [sortedD] at hp
    split at hp
    · rename_i hz
      cases hp
      simp only [sortOk, Bool.and_eq_true, Bool.or_eq_true, List.all_eq_true, decide_eq_true_eq] at hz
      obtain ⟨⟨⟨z1, z2⟩, z3⟩, z4⟩ := hz
      obtain ⟨a, vs, rfl, s1, l1⟩ := h1.lst
      obtain ⟨its, rv, hl, hzs⟩ := I.list s1
      obtain ⟨u, rfl, ru⟩ := vals1 r
      obtain rfl : u = Value.ref a := ru
      have hlen := l1.length
      have zm := l1.zipM
      have e0 : PySem.W.EachIs (fun u (b : V × D) => RelV b.1 u) its (vs.zip ds) := each_zip (h := fun v _ u => RelV v u) rv hlen fun p _ r => r
      have e1 : PySem.W.EachIs (fun u (b : V × D) => ∃ as, Reads s.heap u b.2.p as) its (vs.zip ds) := each_zip (h := fun _ d u => ∃ as, Reads s.heap u d.p as) rv hlen fun p hp r =>
        Rp.reads I (zm p.1 (List.of_mem_zip hp).1) r
      have em : (vs.zip ds).map (fun b => b.2.p) = ds.map D.p := zip_snd D.p hlen
      have mem : ∀ b ∈ vs.zip ds, b.2 ∈ ds := fun b hb => (List.of_mem_zip (show (b.1, b.2) ∈ vs.zip ds from hb)).2
      refine PySem.W.sorted_data (enc := fun b : V × D => b.2.p) hl.isList e0 e1 ?_ ?_ ?_ ?_ fun out ho eo => ?_
      · rw [em]
        intro d hd d' hd'
        obtain ⟨x, hx, rfl⟩ := List.mem_map.mp hd
        obtain ⟨y, hy, rfl⟩ := List.mem_map.mp hd'
        exact z1 x hx y hy
      · rw [em]
        rcases z2 with z2 | z2
        · refine .inl fun d hd => ?_
          obtain ⟨x, hx, rfl⟩ := List.mem_map.mp hd
          exact tupN_of (z2 x hx)
        · refine .inr fun d hd => ?_
          obtain ⟨x, hx, rfl⟩ := List.mem_map.mp hd
          exact notT_of (z2 x hx)
      · rw [List.length_zip, hlen, Nat.min_self]
        exact line_eq ▸ z4
      · intro b hb
        have := shaped_depth (z3 b.2 (mem b hb))
        omega
      · have es : ((vs.zip ds).mergeSort (PySem.W.dataLe false fun b => b.2.p)).map (·.2) = ds.mergeSort leP := by
          refine (List.map_mergeSort (r := PySem.W.dataLe false fun b : V × D => b.2.p) (s := leP) (f := fun b : V × D => b.2) (fun a _ b _ => rfl)).trans ?_
          rw [zip_snd (fun d : D => d) hlen, List.map_id']
        have hm : ∀ b ∈ (vs.zip ds).mergeSort (PySem.W.dataLe false fun b : V × D => b.2.p), Rp X.K H B b.1 b.2 := fun b hb => zm b ((List.mergeSort_perm _ _).mem_iff.mp hb)
        have rp := RpL.pairs hm
        rw [es] at rp
        obtain ⟨n, hn⟩ := sortedAll_at s.heap its out.toArray
        refine ⟨.ref _, _, I.laid (t' := s.toks) (o := .lst (((vs.zip ds).mergeSort (PySem.W.dataLe false fun b : V × D => b.2.p)).map (·.1))) (fun b o hb => sortedAll_old hb) (Nat.le_succ _) ⟨?_, out, n, each_vals eo, hn⟩, rfl, q _ _ (.lst t rp (I.hok.fresh (Nat.le_succ _)))⟩
        rw [List.length_map, List.length_mergeSort, List.length_zip, hlen, Nat.min_self]
        exact line_eq ▸ z4
    · cases hp
  | _ => cases hp
end
end Iv
set_option Elab.async false
set_option linter.all false
set_option maxRecDepth 100000
set_option maxHeartbeats 1000000
/-! Iv4: slots by data, the readings of expressions. -/
namespace Iv
open PySem PySem.Spec PyProof.Rows L2

theorem tabs_upd {T : List (Addr × Str)} {H : Hp} {p : Addr} {vs : List V} {o : HO} (t : LamX.Tabs T H) (hu : H p = some (.lst vs)) : LamX.Tabs T (upd H p o) := fun q hq => by
  obtain ⟨ps, t1, t2, t3⟩ := t q hq
  have ne : q.1 ≠ p := fun z => by
    rw [z, hu] at t1
    cases t1
  refine ⟨ps, by rw [upd_ne ne]; exact t1, t2, fun pos cv hc => ?_⟩
  obtain ⟨c, k1, k2⟩ := t3 pos cv hc
  refine ⟨c, k1, ?_⟩
  rw [upd_ne (fun z => ?_)]
  · exact k2
  · rw [z, hu] at k2
    unfold LamX.CodeO at k2
    cases k2
/-- a def's run: the written part, the heap at its entry, the lists it was lent (slot, address), what is banned, whether it hands back new lists, its exceptions' classes -/
structure Cc where
  K : PySem.W.Frag
  H0 : Hp
  io : List (Nat × Addr)
  Z0 : Addr → Prop
  cl : Str → Option Value
  fr : Bool
  tb : List (Addr × Str)

def OwnA (σ : L2.St) (ρ : Env) (b : Addr) : Prop := ∃ (i : Nat) (xs : List D), ρ[i]? = some (.own xs) ∧ σ[i]? = some (some (V.ref b))
def Bn (Z : Addr → Prop) (σ : L2.St) (ρ : Env) (b : Addr) : Prop := Z b ∨ OwnA σ ρ b

structure EnvR (C : Cc) (Z : Addr → Prop) (σ : L2.St) (ρ : Env) (H : Hp) : Prop where
  len : σ.length = ρ.length
  dat : ∀ (i : Nat) (d : D), ρ[i]? = some (.dat d) → ∃ v, σ[i]? = some (some v) ∧ Rp C.K H (Bn Z σ ρ) v d
  own : ∀ (i : Nat) (xs : List D), ρ[i]? = some (.own xs) → ∃ a vs, σ[i]? = some (some (V.ref a)) ∧ H a = some (.lst vs) ∧ RpL C.K H (Bn Z σ ρ) vs xs ∧ ¬ Z a
  inj : ∀ (i j : Nat) (a : Addr) (xs ys : List D), ρ[i]? = some (.own xs) → ρ[j]? = some (.own ys) → σ[i]? = some (some (V.ref a)) → σ[j]? = some (some (V.ref a)) → i = j
  zt : There H Z
  z0 : ∀ b, C.Z0 b → Z b
  io : ∀ p ∈ C.io, σ[p.1]? = some (some (V.ref p.2)) ∧ ∃ xs, ρ[p.1]? = some (.own xs)
  keep : ∀ b o, C.H0 b = some o → Nt o → (∀ p ∈ C.io, p.2 ≠ b) → H b = some o
  tr0 : ∀ b o, C.H0 b = some o → ∃ o', H b = some o'
  tab : LamX.Tabs C.tb H
  fresh : ∀ b, OwnA σ ρ b → (∃ p ∈ C.io, p.2 = b) ∨ C.H0 b = none

/-- a step: what is tracked and is no list of the def's own stays so -/
structure Stq (σ : L2.St) (ρ : Env) (H : Hp) (σ' : L2.St) (ρ' : Env) (H' : Hp) : Prop where
  keep : ∀ b o, H b = some o → Nt o → ¬ OwnA σ ρ b → H' b = some o ∧ ¬ OwnA σ' ρ' b
  tr : ∀ b o, H b = some o → ∃ o', H' b = some o'
abbrev Stp (σ : L2.St) (ρ ρ' : Env) (H H' : Hp) : Prop := Stq σ ρ H σ ρ' H'
section
variable {C : Cc} {Z Z' : Addr → Prop} {σ : L2.St} {ρ ρ' ρ'' : Env} {H H' H'' : Hp}
theorem Stq.refl : Stq σ ρ H σ ρ H := ⟨fun _ _ e _ n => ⟨e, n⟩, fun _ _ e => ⟨_, e⟩⟩
theorem Stq.same (s : Same H H') : Stq σ ρ H σ ρ H' := ⟨fun b o e _ n => ⟨s b o e, n⟩, fun b o e => ⟨o, s b o e⟩⟩
theorem Stq.trans {σ1 σ2 : L2.St} (a : Stq σ ρ H σ1 ρ' H') (b : Stq σ1 ρ' H' σ2 ρ'' H'') : Stq σ ρ H σ2 ρ'' H'' :=
  ⟨fun c o e t n => let q := a.keep c o e t n; b.keep c o q.1 t q.2, fun c o e => let ⟨o', q⟩ := a.tr c o e; b.tr c o' q⟩
theorem Stq.bn {σ1 : L2.St} (s : Stq σ ρ H σ1 ρ' H') (b : Addr) (o : HO) (e : H b = some o) (t : Nt o) (n : ¬ Bn Z σ ρ b) : H' b = some o ∧ ¬ Bn Z σ1 ρ' b :=
  let q := s.keep b o e t fun z => n (.inr z)
  ⟨q.1, fun z => z.elim (fun z => n (.inl z)) q.2⟩
theorem Stq.rp {σ1 : L2.St} (s : Stq σ ρ H σ1 ρ' H') {K : PySem.W.Frag} {v : V} {d : D} (h : Rp K H (Bn Z σ ρ) v d) : Rp K H' (Bn Z σ1 ρ') v d := h.keep s.bn
theorem Stq.rpl {σ1 : L2.St} (s : Stq σ ρ H σ1 ρ' H') {K : PySem.W.Frag} {vs : List V} {ds : List D} (h : RpL K H (Bn Z σ ρ) vs ds) : RpL K H' (Bn Z σ1 ρ') vs ds := h.keep s.bn
theorem EnvR.there (e : EnvR C Z σ ρ H) : There H (Bn Z σ ρ) := fun b h => by
  rcases h with h | ⟨i, xs, h1, h2⟩
  · exact e.zt b h
  · obtain ⟨a, vs, g1, g2, _⟩ := e.own i xs h1
    rw [h2] at g1
    cases g1
    exact ⟨_, g2⟩
theorem EnvR.grow (e : EnvR C Z σ ρ H) (s : Same H H') : EnvR C Z σ ρ H' where
  len := e.len
  dat i d h := let ⟨v, h1, h2⟩ := e.dat i d h; ⟨v, h1, h2.same s⟩
  own i xs h := let ⟨a, vs, h1, h2, h3, h4⟩ := e.own i xs h; ⟨a, vs, h1, s _ _ h2, h3.same s, h4⟩
  inj := e.inj
  zt b h := let ⟨o, q⟩ := e.zt b h; ⟨o, s _ _ q⟩
  z0 := e.z0
  io := e.io
  keep b o h t n := s _ _ (e.keep b o h t n)
  tr0 b o h := let ⟨o', q⟩ := e.tr0 b o h; ⟨o', s _ _ q⟩
  tab := e.tab.ext s
  fresh := e.fresh
theorem EnvR.weakZ (e : EnvR C Z' σ ρ H) (w : ∀ b, Z b → Z' b) (z0 : ∀ b, C.Z0 b → Z b) : EnvR C Z σ ρ H where
  len := e.len
  dat i d h := let ⟨v, h1, h2⟩ := e.dat i d h; ⟨v, h1, h2.weak fun b q => q.imp (w b) id⟩
  own i xs h := let ⟨a, vs, h1, h2, h3, h4⟩ := e.own i xs h; ⟨a, vs, h1, h2, h3.weak (fun b q => q.imp (w b) id), fun q => h4 (w _ q)⟩
  inj := e.inj
  zt b h := e.zt b (w b h)
  z0 := z0
  io := e.io
  keep := e.keep
  tr0 := e.tr0
  tab := e.tab
  fresh := e.fresh
theorem EnvR.addZ (e : EnvR C Z σ ρ H) {p : Addr} {o : HO} (h : H p = none) : EnvR C (fun b => Z b ∨ b = p) σ ρ (upd H p o) := by
  have nown : ¬ OwnA σ ρ p := fun q => e.there.ne h (.inr q)
  have s := same_upd (o := o) h
  have up : ∀ b, (Bn Z σ ρ b ∨ b = p) → Bn (fun b => Z b ∨ b = p) σ ρ b := fun b q => by
    rcases q with (q | q) | q
    · exact .inl (.inl q)
    · exact .inr q
    · exact .inl (.inr q)
  have dn : ∀ b, Bn (fun b => Z b ∨ b = p) σ ρ b → (Bn Z σ ρ b ∨ b = p) := fun b q => by
    rcases q with (q | q) | q
    · exact .inl (.inl q)
    · exact .inr q
    · exact .inl (.inr q)
  refine ⟨e.len, fun i d q => ?_, fun i xs q => ?_, e.inj, fun b q => ?_, fun b q => .inl (e.z0 b q), e.io, fun b x q t n => s _ _ (e.keep b x q t n), fun b x q => (let ⟨o', z⟩ := e.tr0 b x q; ⟨o', s _ _ z⟩), e.tab.ext s, e.fresh⟩
  · obtain ⟨v, h1, h2⟩ := e.dat i d q
    exact ⟨v, h1, (h2.new h).weak dn⟩
  · obtain ⟨a, vs, h1, h2, h3, h4⟩ := e.own i xs q
    exact ⟨a, vs, h1, s _ _ h2, (h3.new h).weak dn, fun z => z.elim h4 fun w => by subst w; rw [h] at h2; cases h2⟩
  · rcases q with q | q
    · obtain ⟨x, hx⟩ := e.zt b q
      exact ⟨x, s _ _ hx⟩
    · subst q
      exact ⟨o, upd_same⟩
end

/-- an exception with its fields -/
def ExR (C : Cc) (H : Hp) (B : Addr → Prop) (cls : Value) (dd : Option Addr) (c : Str) (p : List (Str × D)) : Prop :=
  C.cl c = some cls ∧ ∃ d vfs, dd = some d ∧ H d = some (.xd vfs) ∧ Paired (fun (x : Str × V) (y : Str × D) => x.1 = y.1 ∧ Rp C.K H B x.2 y.2) vfs p

def Good {α : Type} (C : Cc) (W : WX) (Z : Addr → Prop) (σ : L2.St) (ρ : Env) (H : Hp) (r : R α) (k : α → Env → Hp → Prop) : Prop := match r with
  | .ok a ρ' => ∀ H', EnvR C Z σ ρ' H' → Stp σ ρ ρ' H H' → k a ρ' H'
  | .exc c p ρ' => ∀ cls dd H', EnvR C Z σ ρ' H' → Stp σ ρ ρ' H H' → ExR C H' (Bn Z σ ρ') cls dd c p → W cls dd σ H'
  | .stuck => False
section
variable {α β : Type} {C : Cc} {W : WX} {Z Z' : Addr → Prop} {σ : L2.St} {ρ ρ' : Env} {H H' : Hp}
theorem Good.bind {r : R α} {f : α → Env → R β} {k : β → Env → Hp → Prop} (h : Good C W Z σ ρ H (r.bind f) k) : Good C W Z σ ρ H r fun a ρ1 H1 => Good C W Z σ ρ1 H1 (f a ρ1) k := by
  cases r with
  | stuck => exact h
  | exc c p ρ1 => exact h
  | ok a ρ1 =>
    intro H1 e1 s1
    have h : Good C W Z σ ρ H (f a ρ1) k := h
    revert h
    cases f a ρ1 with
    | stuck => exact id
    | exc c p ρ2 => exact fun h cls dd H2 e2 s2 x => h cls dd H2 e2 (s1.trans s2) x
    | ok b ρ2 => exact fun h H2 e2 s2 => h H2 e2 (s1.trans s2)
theorem Good.and {r : R α} {k k' : α → Env → Hp → Prop} (h : Good C W Z σ ρ H r k) (f : ∀ a ρ1 H1, EnvR C Z σ ρ1 H1 → Stp σ ρ ρ1 H H1 → k a ρ1 H1 → k' a ρ1 H1) : Good C W Z σ ρ H r k' := by
  cases r with
  | stuck => exact h
  | exc c p ρ1 => exact h
  | ok a ρ1 => exact fun H1 e1 s1 => f a ρ1 H1 e1 s1 (h H1 e1 s1)
theorem Good.upZ {r : R α} {k : α → Env → Hp → Prop} (h : Good C W Z σ ρ H r k) (w : ∀ b, Z b → Z' b) (z0 : ∀ b, C.Z0 b → Z b) : Good C W Z' σ ρ H r k := by
  cases r with
  | stuck => exact h
  | exc c p ρ1 =>
    intro cls dd H1 e1 s1 x
    refine h cls dd H1 (e1.weakZ w z0) s1 ?_
    obtain ⟨x1, d, vfs, x2, x3, x4⟩ := x
    exact ⟨x1, d, vfs, x2, x3, Paired.mapP x4 fun a b q => ⟨q.1, q.2.weak fun b q => q.imp (w b) id⟩⟩
  | ok a ρ1 => exact fun H1 e1 s1 => h H1 (e1.weakZ w z0) s1
theorem Good.now {a : α} {k : α → Env → Hp → Prop} (h : Good C W Z σ ρ H (.ok a ρ) k) (e : EnvR C Z σ ρ H) : k a ρ H := h H e .refl
theorem Good.grown {a : α} {k : α → Env → Hp → Prop} (h : Good C W Z σ ρ H (.ok a ρ) k) (e : EnvR C Z σ ρ H) (s : Same H H') : k a ρ H' := h H' (e.grow s) (.same s)
theorem Good.ofO {o : Option α} {k : α → Env → Hp → Prop} (h : Good C W Z σ ρ H (R.ofO o ρ) k) : ∃ a, o = some a ∧ Good C W Z σ ρ H (.ok a ρ) k := by
  cases o with
  | none => exact h.elim
  | some a => exact ⟨a, rfl, h⟩
end

/-! ### readings -/
def tE (C : Cc) (W : WX) (g : Env → R D) : TE := fun σ H Q => ∃ Z ρ, EnvR C Z σ ρ H ∧ Good C W Z σ ρ H (g ρ) fun d ρ' H' => ∀ v, Rp C.K H' (Bn Z σ ρ') v d → Q v H'
def tT (C : Cc) (W : WX) (g : Env → R Bool) : TT := fun σ H Q => ∃ Z ρ, EnvR C Z σ ρ H ∧ Good C W Z σ ρ H (g ρ) fun d ρ' H' => Q d H'
/-- an operand's value -/
def Pd (C : Cc) (Z : Addr → Prop) (σ : L2.St) (ρ : Env) (H : Hp) (v : V) : Sum D Nat → Prop
  | .inl d => Rp C.K H (Bn Z σ ρ) v d
  | .inr i => σ[i]? = some (some v)
inductive PdL (C : Cc) (Z : Addr → Prop) (σ : L2.St) (ρ : Env) (H : Hp) : List V → List (Sum D Nat) → Prop
  | nil : PdL C Z σ ρ H [] []
  | cons {v : V} {vs : List V} {x : Sum D Nat} {xs : List (Sum D Nat)} : Pd C Z σ ρ H v x → PdL C Z σ ρ H vs xs → PdL C Z σ ρ H (v :: vs) (x :: xs)
def tO (C : Cc) (W : WX) (g : Env → R (Sum D Nat)) : TE := fun σ H Q => ∃ Z ρ, EnvR C Z σ ρ H ∧ Good C W Z σ ρ H (g ρ) fun x ρ' H' => ∀ v, Pd C Z σ ρ' H' v x → Q v H'
def tOs (C : Cc) (W : WX) (g : Env → R (List (Sum D Nat))) : TA := fun σ H Q => ∃ Z ρ, EnvR C Z σ ρ H ∧ Good C W Z σ ρ H (g ρ) fun x ρ' H' => ∀ vs, PdL C Z σ ρ' H' vs x → Q vs H'
def tEs (C : Cc) (W : WX) (g : Env → R (List D)) : TA := fun σ H Q => ∃ Z ρ, EnvR C Z σ ρ H ∧ Good C W Z σ ρ H (g ρ) fun x ρ' H' => ∀ vs, RpL C.K H' (Bn Z σ ρ') vs x → Q vs H'
/-- a new list -/
def tL (C : Cc) (W : WX) (g : Env → R (List D)) : TE := fun σ H Q => ∃ Z ρ, EnvR C Z σ ρ H ∧ Good C W Z σ ρ H (g ρ) fun ds ρ' H' =>
  ∀ p vs, H p = none → EnvR C (fun b => Z b ∨ b = p) σ ρ' H' → H' p = some (.lst vs) → RpL C.K H' (Bn (fun b => Z b ∨ b = p) σ ρ') vs ds → Q (.ref p) H'
section
variable {C : Cc} {W : WX} {Z : Addr → Prop} {σ : L2.St} {ρ ρ' : Env} {H H' : Hp}
theorem Pd.step {v : V} {x : Sum D Nat} (h : Pd C Z σ ρ H v x) (s : Stp σ ρ ρ' H H') : Pd C Z σ ρ' H' v x := by
  cases x with
  | inl d => exact s.rp h
  | inr i => exact h
theorem PdL.step {vs : List V} {xs : List (Sum D Nat)} (h : PdL C Z σ ρ H vs xs) (s : Stp σ ρ ρ' H H') : PdL C Z σ ρ' H' vs xs := by
  induction h with
  | nil => exact .nil
  | cons a _ ih => exact .cons (a.step s) ih
theorem Pd.rw {v : V} {x : Sum D Nat} {d : D} (e : EnvR C Z σ ρ H) (h : Pd C Z σ ρ H v x) (hr : resO ρ x = some d) : Rw C.K H (Bn Z σ ρ) v d := by
  cases x with
  | inl y =>
    have hr : some y = some d := hr
    cases hr
    exact Rp.rw h
  | inr i =>
    simp only [resO] at hr
    split at hr
    · rename_i xs hi
      cases hr
      obtain ⟨a, vs, h1, h2, h3, _⟩ := e.own i xs hi
      have h : σ[i]? = some (some v) := h
      rw [h] at h1
      cases h1
      exact ⟨a, vs, rfl, .inl (.inl h2), h3⟩
    · cases hr
theorem PdL.rw {vs : List V} {xs : List (Sum D Nat)} (e : EnvR C Z σ ρ H) (h : PdL C Z σ ρ H vs xs) : ∀ {ds : List D}, resOs ρ xs = some ds → RwL C.K H (Bn Z σ ρ) vs ds := by
  induction h with
  | nil =>
    intro ds hr
    simp only [resOs] at hr
    cases hr
    exact .nil
  | cons a _ ih =>
    intro ds hr
    simp only [resOs] at hr
    split at hr
    · rename_i d ds' h1 h2
      cases hr
      exact .cons (a.rw e h1) (ih h2)
    · cases hr
/-- an operation at the end of its operands -/
theorem fin_prim {p : Prim} {xs : List (Sum D Nat)} {vs : List V} {Q : VK} (e : EnvR C Z σ ρ H) (pd : PdL C Z σ ρ H vs xs)
    (g : Good C W Z σ ρ H (match resOs ρ xs with | some ds => R.ofO (prim p ds) ρ | none => .stuck) fun d ρ' H' => ∀ v, Rp C.K H' (Bn Z σ ρ') v d → Q v H') : rP C.K p vs H Q := by
  cases hr : resOs ρ xs with
  | none =>
    rw [hr] at g
    exact g.elim
  | some ds =>
    rw [hr] at g
    obtain ⟨r, hp, g⟩ := g.ofO
    exact ⟨_, ds, r, e.there, pd.rw e hr, hp, fun v H' o => g.grown e o.same v o.rp⟩
theorem fin_primL {p : Prim} {xs : List (Sum D Nat)} {vs : List V} {Q : VK} {H0 : Hp} (hf : p.fresh = true) (e : EnvR C Z σ ρ H) (pd : PdL C Z σ ρ H vs xs) (back : ∀ q, H q = none → H0 q = none)
    (g : Good C W Z σ ρ H (match resOs ρ xs with | some ds => (match prim p ds with | some (.lst xs) => .ok xs ρ | _ => .stuck) | none => .stuck) fun ds ρ' H' =>
      ∀ q vs, H0 q = none → EnvR C (fun b => Z b ∨ b = q) σ ρ' H' → H' q = some (.lst vs) → RpL C.K H' (Bn (fun b => Z b ∨ b = q) σ ρ') vs ds → Q (.ref q) H') : rP C.K p vs H Q := by
  cases hr : resOs ρ xs with
  | none =>
    rw [hr] at g
    exact g.elim
  | some ds =>
    rw [hr] at g
    have g := g
    cases hp : prim p ds with
    | none =>
      simp only [hp] at g
      exact g.elim
    | some r =>
      simp only [hp] at g
      cases r with
      | lst ys =>
        refine ⟨_, ds, _, e.there, pd.rw e hr, hp, fun v H' o => ?_⟩
        obtain ⟨q, us, rfl, n, e1, e2⟩ := o.new hf ys rfl
        have e3 : EnvR C (fun b => Z b ∨ b = q) σ ρ H' := by
          have := (e.addZ (o := .lst us) n).grow (H' := H') fun b x hx => by
            by_cases hb : b = q
            · subst hb
              rw [upd_same] at hx
              cases hx
              exact e1
            · rw [upd_ne hb] at hx
              exact o.same b x hx
          exact this
        refine g.grown e o.same q us (back q n) e3 e1 (e2.weak fun b z => ?_)
        rcases z with (z | z) | z
        · exact .inl (.inl z)
        · exact .inr z
        · exact .inl (.inr z)
      | _ => exact g.elim
end

section
variable {X : Cx} {C : Cc} {W : WX}
theorem _root_.L2.PE.imp {e : Expr} {t t' : TE} (h : PE X e t) (f : ∀ σ H Q, t' σ H Q → t σ H Q) : PE X e t' := ⟨fun pins s σ H Q I q => h.run pins s σ H Q I (f _ _ _ q)⟩
theorem _root_.L2.PT.imp {e : Expr} {t t' : TT} (h : PT X e t) (f : ∀ σ H Q, t' σ H Q → t σ H Q) : PT X e t' := ⟨fun pins s σ H Q I q => h.run pins s σ H Q I (f _ _ _ q)⟩
theorem _root_.L2.PA.imp {e : List Expr} {t t' : TA} (h : PA X e t) (f : ∀ σ H Q, t' σ H Q → t σ H Q) : PA X e t' := ⟨fun pos pins s σ H Q I q => h.run pos pins s σ H Q I (f _ _ _ q)⟩
theorem tE_end {g : Env → R D} {σ : L2.St} {H : Hp} {Q : VK} {Z : Addr → Prop} {ρ : Env} {d : D} {v : V} (e : EnvR C Z σ ρ H) (h : Good C W Z σ ρ H (.ok d ρ) fun d ρ' H' => ∀ v, Rp C.K H' (Bn Z σ ρ') v d → Q v H') (r : Rp C.K H (Bn Z σ ρ) v d) : Q v H := h.now e v r

theorem e_var {Φ : Phi} {i : Nat} {x : Str} {pos : Pos} (h : PE X (.Name x pos) (tVar i)) : PE X (.Name x pos) (tE C W (evE Φ (.var i))) := h.imp fun σ H Q ⟨Z, ρ, e, g⟩ => by
  simp only [evE] at g
  split at g
  · rename_i d hi
    obtain ⟨v, h1, h2⟩ := e.dat i d hi
    exact ⟨v, h1, g.now e v h2⟩
  · exact g.elim
theorem e_slot {Φ : Phi} {i : Nat} {x : Str} {pos : Pos} (h : PE X (.Name x pos) (tVar i)) : PE X (.Name x pos) (tO C W (evO Φ (.sl i))) := h.imp fun σ H Q ⟨Z, ρ, e, g⟩ => by
  simp only [evO] at g
  split at g
  · rename_i xs hi
    obtain ⟨a, vs, h1, _⟩ := e.own i xs hi
    exact ⟨_, h1, g.now e _ h1⟩
  · exact g.elim
theorem e_cst {Φ : Phi} {d : D} {v : V} {x : Expr} (h : PE X x (tC v)) (r : ∀ H B, Rp C.K H B v d) : PE X x (tE C W (evE Φ (.cst d))) := h.imp fun σ H Q ⟨Z, ρ, e, g⟩ => by
  simp only [evE] at g
  exact g.now e v (r _ _)
theorem e_glb {Φ : Phi} {d : D} {y : Str} {v : V} {x : Expr} (h : PE X x (tC v)) (r : ∀ H B, Rp C.K H B v d) : PE X x (tE C W (evE Φ (.glb y d))) := h.imp fun σ H Q ⟨Z, ρ, e, g⟩ => by
  simp only [evE] at g
  exact g.now e v (r _ _)
/-- an expression as an operand -/
theorem e_op {Φ : Phi} {a : E} {x : Expr} (h : PE X x (tE C W (evE Φ a))) : PE X x (tO C W (evO Φ (.ex a))) := h.imp fun σ H Q ⟨Z, ρ, e, g⟩ => by
  simp only [evO] at g
  exact ⟨Z, ρ, e, g.bind.and fun d ρ1 H1 e1 s1 k v r => k.now e1 v r⟩
theorem a_nil {Φ : Phi} : PA X [] (tOs C W (evOs Φ [])) := pa_nil.imp fun σ H Q ⟨Z, ρ, e, g⟩ => by
  simp only [evOs] at g
  exact g.now e _ .nil
theorem a_cons {Φ : Phi} {o : O} {os : List O} {x : Expr} {xs : List Expr} (h : PE X x (tO C W (evO Φ o))) (hs : PA X xs (tOs C W (evOs Φ os))) (hc : PA X (x :: xs) (tCons (tO C W (evO Φ o)) (tOs C W (evOs Φ os)))) :
    PA X (x :: xs) (tOs C W (evOs Φ (o :: os))) := hc.imp fun σ H Q ⟨Z, ρ, e, g⟩ => by
  simp only [evOs] at g
  refine ⟨Z, ρ, e, g.bind.and fun d ρ1 H1 e1 s1 k v r => ?_⟩
  exact ⟨Z, ρ1, e1, k.bind.and fun ds ρ2 H2 e2 s2 k2 vs rs => k2.now e2 _ (.cons (r.step s2) rs)⟩
theorem es_nil {Φ : Phi} : PA X [] (tEs C W (evEs Φ [])) := pa_nil.imp fun σ H Q ⟨Z, ρ, e, g⟩ => by
  simp only [evEs] at g
  exact g.now e _ .nil
theorem es_cons {Φ : Phi} {o : E} {os : List E} {x : Expr} {xs : List Expr} (hc : PA X (x :: xs) (tCons (tE C W (evE Φ o)) (tEs C W (evEs Φ os)))) :
    PA X (x :: xs) (tEs C W (evEs Φ (o :: os))) := hc.imp fun σ H Q ⟨Z, ρ, e, g⟩ => by
  simp only [evEs] at g
  refine ⟨Z, ρ, e, g.bind.and fun d ρ1 H1 e1 s1 k v r => ?_⟩
  exact ⟨Z, ρ1, e1, k.bind.and fun ds ρ2 H2 e2 s2 k2 vs rs => k2.now e2 _ (.cons (s2.rp r) rs)⟩
/-- two operands, then an operation by values -/
theorem two_ops {Φ : Phi} {p : Prim} {a b : O} {σ : L2.St} {H : Hp} {Q : VK} (h : tE C W (evE Φ (.prim p [a, b])) σ H Q) : tOp (rP2 C.K p) (tO C W (evO Φ a)) (tO C W (evO Φ b)) σ H Q := by
  obtain ⟨Z, ρ, e, g⟩ := h
  simp only [evE, evOs] at g
  refine ⟨Z, ρ, e, g.bind.bind.and fun x ρ1 H1 e1 s1 k v r => ?_⟩
  refine ⟨Z, ρ1, e1, k.bind.bind.and fun y ρ2 H2 e2 s2 k2 w rw => ?_⟩
  exact fin_prim e2 (.cons (r.step s2) (.cons rw .nil)) ((k2.now e2).now e2)
end
end Iv
set_option Elab.async false
set_option linter.all false
set_option maxRecDepth 100000
set_option maxHeartbeats 1000000
/-! Iu1: a tuple turned about. -/
namespace Iv
open PySem PySem.Spec PyProof.Rows L2 HT
section
variable {prog : Program} {w : World} {A : Around} {E : Value → Shared → Prop} {s : Shared}
theorem places_rev (n : Nat) : Builtin.Slice.slicePlaces ((n : Int) - 1) (-1) (-1) = n := by
  unfold Builtin.Slice.slicePlaces
  have h1 : ¬ ((-1 : Int) > 0) := by omega
  simp only [h1, if_false]
  split
  · show (((n : Int) - 1 - -1 - 1) / (- -1) + 1).toNat = n
    rw [show (- -1 : Int) = 1 by decide, Int.ediv_one]
    omega
  · show (0 : Int).toNat = n
    omega
theorem sliceApplied_rev {sl : Addr} {n : Nat} {vs : Value} {Q : Int × Int × Nat → Shared → Prop} (hs : s.heap.IsSliceOf sl .none .none vs) (ps : IsPart vs (some (-1)))
    (h : Q ((n : Int) - 1, -1, n) s) : wpAny (model prog w) A (Builtin.Slice.sliceApplied (.ref sl) (pure (n : Int))) Q E s := by
  obtain ⟨os, hos, hcs, hds⟩ := id hs
  unfold Builtin.Slice.sliceApplied Builtin.Slice.sliceFields
  refine wpAny_bind (wpAny_bind (wpAny_field hos hds (x := .none) rfl (wpAny_bind (wpAny_field hos hds (x := .none) rfl (wpAny_bind (wpAny_field hos hds (x := vs) rfl (wpAny_pure ?_)))))))
  refine wpAny_bind (slicePart_ ps ?_)
  show wpAny _ _ (if ((-1 : Int) == 0) = true then _ else _) _ _ s
  rw [if_neg (by decide)]
  refine wpAny_bind (slicePart_ .none (wpAny_bind (slicePart_ .none (wpAny_bind (wpAny_pure ?_)))))
  show wpAny _ _ (pure ((n : Int) - 1, (-1 : Int), Builtin.Slice.slicePlaces ((n : Int) - 1) (-1) (-1))) _ _ s
  rw [places_rev]
  exact wpAny_pure h
theorem pick_rev (xs : Array Value) : ((List.range xs.size).filterMap fun (m : Nat) => xs[(((xs.size : Int) - 1) + (m : Int) * -1).toNat]?).toArray = xs.toList.reverse.toArray := by
  have e : (List.range xs.size).filterMap (fun (m : Nat) => xs[(((xs.size : Int) - 1) + (m : Int) * -1).toNat]?) = ((List.range xs.size).map fun k => xs.size - 1 - k).filterMap (xs[·]?) := by
    rw [List.filterMap_map]
    congr 1
    funext m
    show _ = xs[xs.size - 1 - m]?
    congr 1
    omega
  rw [e, PySem.W.krv_range, List.filterMap_reverse, PySem.W.krv_all]
theorem getItem_tuple_rev {t sl : Addr} {items : Array Value} {vs : Value} {Q : Value → Shared → Prop} (ht : IsTup s.heap t items) (hs : s.heap.IsSliceOf sl .none .none vs) (ps : IsPart vs (some (-1)))
    (h : Q (.ref s.heap.objs.size) { s with heap := s.heap.push { cls := .type "tuple", data := .seq items.toList.reverse.toArray } })
    (hsz : items.size ≤ sizeLine) : wpAny (model prog w) A (getItem (.ref t) (.ref sl)) Q E s := by
  have htake : sizeOk (.seq items.toList.reverse.toArray) := by
    show items.toList.reverse.toArray.size ≤ sizeLine
    rw [List.size_toArray, List.length_reverse, Array.length_toList]
    exact hsz
  obtain ⟨os, hos, hcs, hds⟩ := id hs
  have hTs : s.TypeIs (.ref sl) "slice" := ⟨os, hos, hcs⟩
  unfold getItem
  try with_reducible refine wpAny_holding ?_
  first | refine wpAny_bind (wpAny_pure ?_) | skip
  refine wpAny_bind (wpAny_sequenceKey ht.typeIs (by decide) ?_)
  refine wpAny_bind (wpAny_callSpecial?_slot (name := Str.ofString "__getitem__") ht.typeIs PyProof.Rows.slot_tuple_getitem
    (wpAny_call_entry PyProof.Rows.slot_tuple_getitem ht.typeIs entry_tuple_getitem ?_ (args_tuple_getitem _ _)))
  show wpAny _ _ (Builtin.Tuple.tupleItemsOf (.ref t) >>= _) _ _ s
  refine wpAny_bind (tupleItemsOf_ ht ?_)
  refine wpAny_bind (wpAny_typeOf hTs ?_)
  rw [if_pos (by decide)]
  refine wpAny_bind (sliceApplied_rev hs ps ?_)
  have hno : ¬ ((((items.size : Int) - 1) == 0 && (-1 : Int) == 1 && items.size == items.size) = true) := by
    simp
  show wpAny _ _ (if (((items.size : Int) - 1) == 0 && (-1 : Int) == 1 && items.size == items.size) = true then _ else _) _ _ s
  rw [if_neg hno, pick_rev]
  first
    | exact wpAny_bind (m := Builtin.Tuple.tupleExact _) (wpAny_newObj_type (wpAny_pure ⟨_, rfl, wpAny_pure h⟩) htake)
    | exact wpAny_bind (m := Builtin.Tuple.tupleExact _) (wpAny_newObj_type (wpAny_bind (wpAny_pure (wpAny_pure ⟨_, rfl, wpAny_pure h⟩))) htake)
    | exact wpAny_bind (wpAny_bind (m := Builtin.Tuple.tupleExact _) (wpAny_newObj_type (wpAny_pure (wpAny_pure ⟨_, rfl, wpAny_pure h⟩)) htake))
    | exact wpAny_bind (wpAny_bind (m := Builtin.Tuple.tupleExact _) (wpAny_newObj_type (wpAny_pure ⟨_, rfl, wpAny_pure h⟩) htake))
end
/-- xs[::-1], a list or a tuple -/
def tRevA (K : PySem.W.Frag) (te : TE) : TE := fun σ H Q => te σ H fun x H1 => (∃ a xs, x = .ref a ∧ SqL K H1 a xs ∧ ∀ p, H1 p = none → Q (.ref p) (upd H1 p (.lst xs.reverse))) ∨
  (∃ a xs, x = .ref a ∧ SqT K H1 a xs ∧ ∀ p, H1 p = none → Q (.ref p) (upd H1 p (.tup xs.reverse)))
theorem pe_revA {X : Cx} {te : TE} {e : Expr} {k : Nat} {p1 p2 p3 pos : Pos} (he : PE X e te) : PE X (.Subscript e (.Slice none none (some (.UnaryOp .USub (.Constant (.int 1) k p1) p2)) p3) pos) (tRevA X.K te) := by
  refine ⟨fun pins s σ H Q I h => ?_⟩
  refine Subscript_ (thn (he.run pins s σ H _ I h) fun v s1 ⟨x, H1, I1, r1, q1⟩ => ?_)
  obtain ⟨a, rfl⟩ : ∃ a, x = .ref a := q1.elim (fun ⟨a, xs, e, _⟩ => ⟨a, e⟩) fun ⟨a, xs, e, _⟩ => ⟨a, e⟩
  cases r1
  have hst : PO X (some (.UnaryOp .USub (.Constant (.int 1) k p1) p2)) (tPart (tUn (rU fun i => .int (-i)) (tC (.int 1)))) := po_some (pe_un un_neg pe_int)
  refine wpAny_Slice (thn (po_none.run pins s1 σ H1 (fun o H2 => o = none ∧ H2 = H1) I1 ⟨rfl, rfl⟩) fun vl s2 ⟨l, H2, I2, pl, el, e2⟩ => ?_)
  subst el e2
  refine thn (po_none.run pins s2 σ H2 (fun o H3 => o = none ∧ H3 = H2) I2 ⟨rfl, rfl⟩) fun vu s3 ⟨u, H3, I3, pu, eu, e3⟩ => ?_
  subst eu e3
  refine thn (hst.run pins s3 σ H3 (fun o H4 => o = some (-1) ∧ H4 = H3) I3 ⟨1, rfl, -1, rfl, rfl, rfl⟩) fun vs s4 ⟨o, H4, I4, ps, eo, e4⟩ => ?_
  subst eo e4
  have I5 : Inv X pins σ H4 { s4 with heap := s4.heap.push { cls := .type "slice", data := .fields #[vl, vu, vs] } } := I4.kept (t' := s4.toks) fun b ob q => Heap.get?_push_of_some _ q
  show wpAny (model X.prog X.w) X.A (subscriptTail e (.Slice none none (some (.UnaryOp .USub (.Constant (.int 1) k p1) p2)) p3) (.ref a) (.ref s4.heap.objs.size)) (EP X pins σ Q) X.xe { s4 with heap := s4.heap.push { cls := .type "slice", data := .fields #[vl, vu, vs] } }
  rcases q1 with ⟨a', xs, ex, hx, q⟩ | ⟨a', xs, ex, hx, q⟩
  · cases ex
    obtain ⟨its, r, ht, hz⟩ := I5.list hx
    have hlen := r.length
    refine tail_any (ops := [.ref a, .ref s4.heap.objs.size]) ht.isList.typeIs (PySem.slot_list_getitem.lookup) ?_ (by with_unfolding_all rfl)
    refine wpAny_getItem_list_slice ht.isList (Heap.IsSliceOf.new _ vl vu vs) pl pu ps (by decide) ?_ (by rw [List.size_toArray]; omega)
    rw [PySem.W.krv_pick]
    refine ⟨.ref _, _, I5.laid (t' := s4.toks) (o := .lst xs.reverse) (fun b ob q => Heap.get?_push_of_some _ q) (Nat.le_refl _) ?_, rfl, q _ (I5.hok.fresh (Nat.le_refl _))⟩
    exact ⟨by rw [List.length_reverse]; exact hz, _, 0, r.reverse, Heap.get?_push_size _ rfl⟩
  · cases ex
    obtain ⟨its, r, ht, hz⟩ := I5.tuple hx
    have hlen := r.length
    cases pl
    cases pu
    refine tail_any (ops := [.ref a, .ref s4.heap.objs.size]) ht.typeIs (PyProof.Rows.slot_tuple_getitem.lookup) ?_ (by with_unfolding_all rfl)
    refine getItem_tuple_rev ht (Heap.IsSliceOf.new _ .none .none vs) ps ?_ (by rw [List.size_toArray]; omega)
    refine ⟨.ref _, _, I5.laid (t' := s4.toks) (o := .tup xs.reverse) (fun b ob q => Heap.get?_push_of_some _ q) (Nat.le_refl _) ?_, rfl, q _ (I5.hok.fresh (Nat.le_refl _))⟩
    exact ⟨by rw [List.length_reverse]; exact hz, _, r.reverse, IsTup.new _ _⟩
end Iv
set_option Elab.async false
set_option linter.all false
set_option maxRecDepth 100000
set_option maxHeartbeats 1000000
/-! Iv5: the expressions' rules. -/
namespace Iv
open PySem PySem.Spec PyProof.Rows L2

section
variable {α β : Type} {C : Cc} {W : WX} {Z Z' : Addr → Prop} {σ : L2.St} {ρ ρ' : Env} {H H' : Hp}
theorem Good.eq {r : R α} {k : α → Env → Hp → Prop} (h : Good C W Z σ ρ H r k) : Good C W Z σ ρ H r fun a ρ1 H1 => r = .ok a ρ1 ∧ k a ρ1 H1 := by
  cases r with
  | stuck => exact h
  | exc c p ρ1 => exact h
  | ok a ρ1 => exact fun H1 e1 s1 => ⟨rfl, h H1 e1 s1⟩
theorem truV {K : PySem.W.Frag} {B : Addr → Prop} {v : V} {d : D} {k : Bool} (h : Rw K H B v d) (t : truth d = some k) : TruV K v H k := by
  cases d with
  | non => cases t; rw [h.non]; rfl
  | bl b => cases t; rw [h.bl]; rfl
  | int i => cases t; rw [h.int]; rfl
  | str x =>
    rw [h.str]
    simp only [truth] at t
    split at t
    · rename_i hz
      cases t
      exact ⟨line_eq ▸ hz, rfl⟩
    · cases t
  | tup xs =>
    cases t
    obtain ⟨a, vs, rfl, s1, _, l1⟩ := h.tup
    refine .inr (.inl ⟨vs, s1, ?_⟩)
    cases l1 <;> rfl
  | lst xs =>
    cases t
    obtain ⟨a, vs, rfl, s1, l1⟩ := h.lst
    refine .inl ⟨vs, s1, ?_⟩
    cases l1 <;> rfl
  | emp => cases t
/-- where a step has gone, what was not there isn't there from of old -/
theorem back_of (e : EnvR C Z σ ρ H) (e' : EnvR C Z σ ρ' H') (s : Stp σ ρ ρ' H H') : ∀ q, H' q = none → H q = none := fun q hn => by
  cases h : H q with
  | none => rfl
  | some o =>
    obtain ⟨o', h'⟩ := s.tr q o h
    rw [hn] at h'
    cases h'
end

/-- the operands, then the operation by values -/
def tRaw (C : Cc) (W : WX) (p : Prim) (g : Env → R (List (Sum D Nat))) : TE := fun σ H Q => ∃ Z ρ, EnvR C Z σ ρ H ∧ Good C W Z σ ρ H (g ρ) fun xs ρ' H' => ∀ vs, PdL C Z σ ρ' H' vs xs → rP C.K p vs H' Q
section
variable {X : Cx} {C : Cc} {W : WX} {Φ : Phi} {p : Prim} {x y z : Expr} {pos : Pos}
/-- as a value -/
theorem e_prim {os : List O} (h : PE X x (tRaw C W p (evOs Φ os))) : PE X x (tE C W (evE Φ (.prim p os))) := h.imp fun σ H Q ⟨Z, ρ, e, g⟩ => by
  simp only [evE] at g
  exact ⟨Z, ρ, e, g.bind.and fun xs ρ1 H1 e1 s1 k vs pd => fin_prim e1 pd k⟩
/-- as a new list -/
theorem l_prim {os : List O} (hf : p.fresh = true) (h : PE X x (tRaw C W p (evOs Φ os))) : PE X x (tL C W (evL Φ (.prim p os))) := h.imp fun σ H Q ⟨Z, ρ, e, g⟩ => by
  simp only [evL] at g
  exact ⟨Z, ρ, e, g.bind.and fun xs ρ1 H1 e1 s1 k vs pd => fin_primL hf e1 pd (back_of e e1 s1) k⟩
/-- a method's call as a value -/
theorem raw2 {a b : O} {σ : L2.St} {H : Hp} {Q : VK} (h : tRaw C W p (evOs Φ [a, b]) σ H Q) : tOp (rP2 C.K p) (tO C W (evO Φ a)) (tO C W (evO Φ b)) σ H Q := by
  obtain ⟨Z, ρ, e, g⟩ := h
  simp only [evOs] at g
  refine ⟨Z, ρ, e, g.bind.and fun x ρ1 H1 e1 s1 k v r => ?_⟩
  refine ⟨Z, ρ1, e1, k.bind.bind.and fun y ρ2 H2 e2 s2 k2 w rw => ?_⟩
  exact (k2.now e2).now e2 _ (.cons (r.step s2) (.cons rw .nil))
theorem raw1 {a : O} {σ : L2.St} {H : Hp} {Q : VK} (h : tRaw C W p (evOs Φ [a]) σ H Q) : tO C W (evO Φ a) σ H fun x H1 => rP C.K p [x] H1 Q := by
  obtain ⟨Z, ρ, e, g⟩ := h
  simp only [evOs] at g
  exact ⟨Z, ρ, e, g.bind.and fun x ρ1 H1 e1 s1 k v r => (k.now e1) _ (.cons r .nil)⟩
theorem r_bin {op : Operator} {a b : O} (ho : OpR X (binaryOp op) (rP2 C.K p)) (ha : PE X x (tO C W (evO Φ a))) (hb : PE X y (tO C W (evO Φ b))) : PE X (.BinOp x op y pos) (tRaw C W p (evOs Φ [a, b])) := (pe_op ho ha hb).imp fun _ _ _ => raw2
theorem r_cmp {op : CmpOp} {a b : O} (ho : OpR X (compareOp op) (rP2 C.K p)) (ha : PE X x (tO C W (evO Φ a))) (hb : PE X y (tO C W (evO Φ b))) (hm : behindInMarks op y = false) : PE X (.Compare x [op] [y] pos) (tRaw C W p (evOs Φ [a, b])) := (pe_cmpR ho ha hb hm).imp fun _ _ _ => raw2
theorem r_idx {a b : O} (ho : IxR X (rP2 C.K p)) (ha : PE X x (tO C W (evO Φ a))) (hb : PE X y (tO C W (evO Φ b))) (hm : PlainIx y) : PE X (.Subscript x y pos) (tRaw C W p (evOs Φ [a, b])) := (pe_ix ho ha hb hm).imp fun _ _ _ => raw2
theorem r_un {op : UnaryOp} {a : O} (ho : UnR X (unaryOp op) (rP1 C.K p)) (ha : PE X x (tO C W (evO Φ a))) : PE X (.UnaryOp op x pos) (tRaw C W p (evOs Φ [a])) := (pe_un ho ha).imp fun _ _ _ => raw1
theorem r_rev (hK : X.K = C.K) {a : O} {k : Nat} {p1 p2 p3 : Pos} (ha : PE X x (tO C W (evO Φ a))) : PE X (.Subscript x (.Slice none none (some (.UnaryOp .USub (.Constant (.int 1) k p1) p2)) p3) pos) (tRaw C W .rev (evOs Φ [a])) := (pe_revA ha).imp fun σ H Q h => by
  obtain ⟨Z, ρ, e, g⟩ := raw1 h
  refine ⟨Z, ρ, e, g.and fun x ρ1 H1 e1 s1 k v r => ?_⟩
  obtain ⟨B, d, w, t, h1, hp, q⟩ := rP.get1 (k v r) rfl
  have hp : revD d = some w := hp
  cases d with
  | lst xs =>
    cases hp
    obtain ⟨b, vs, rfl, s1, l1⟩ := h1.lst
    exact .inl ⟨b, vs, rfl, hK ▸ s1, fun q' hn => q _ _ (.lst t l1.reverse hn)⟩
  | tup xs =>
    cases hp
    obtain ⟨b, vs, rfl, s1, _, l1⟩ := h1.tup
    exact .inr ⟨b, vs, rfl, hK ▸ s1, fun q' hn => q _ _ (.tup t l1.reverse hn)⟩
  | _ => cases hp
/-- slices -/
theorem prim_slc {lo hi : Bool} {ds : List D} {r : D} (h : prim (.slc lo hi) ds = some r) : slcD lo hi ds = some r := h
theorem r_slc0 (hK : X.K = C.K) {a : O} {q : Pos} (ha : PE X x (tO C W (evO Φ a))) : PE X (.Subscript x (.Slice none none none q) pos) (tRaw C W (.slc false false) (evOs Φ [a])) := (pe_slice (o_cut) ha po_none po_none).imp fun σ H Q h => by
  obtain ⟨Z, ρ, e, g⟩ := raw1 h
  refine ⟨Z, ρ, e, g.and fun x ρ1 H1 e1 s1 k v r => ?_⟩
  obtain ⟨B, d, w, t, h1, hp, q⟩ := rP.get1 (k v r) rfl
  exact ⟨B, d, w, t, hK ▸ h1, by simpa [prim, slcD] using hp, fun v H' o => q v H' (hK ▸ o)⟩
theorem part_int {K : PySem.W.Frag} {lo hi : Bool} {v v2 : V} {H : Hp} {Q : VK} (h : rP K (.slc lo hi) [v, v2] H Q) : ∃ B d i r, v2 = .int i ∧ There H B ∧ Rw K H B v d ∧ slcD lo hi [d, .int i] = some r ∧ ∀ v H', Out K H H' B true v r → Q v H' := by
  obtain ⟨B, ds, r, t, hw, hp, q⟩ := h
  obtain ⟨d, e, rfl, h1, h2⟩ := hw.two
  have hp : slcD lo hi [d, e] = some r := hp
  cases e with
  | int i => exact ⟨B, d, i, r, h2.int, t, h1, hp, q⟩
  | _ => cases hp
theorem r_slcL (hK : X.K = C.K) {a b : O} {q : Pos} (ha : PE X x (tO C W (evO Φ a))) (hb : PE X y (tO C W (evO Φ b))) : PE X (.Subscript x (.Slice (some y) none none q) pos) (tRaw C W (.slc true false) (evOs Φ [a, b])) := (pe_slice (o_cut) ha (po_some hb) po_none).imp fun σ H Q h => by
  obtain ⟨Z, ρ, e, g⟩ := raw2 h
  refine ⟨Z, ρ, e, g.and fun x ρ1 H1 e1 s1 k v r => ?_⟩
  obtain ⟨Z, ρ2, e2, g2⟩ := k v r
  refine ⟨Z, ρ2, e2, g2.and fun x ρ3 H3 e3 s3 k3 v3 r3 => ?_⟩
  obtain ⟨B, d, i, w, rfl, t, h1, hp, q⟩ := part_int (k3 v3 r3)
  exact ⟨i, rfl, B, d, w, t, hK ▸ h1, by simpa [slcD] using hp, fun v H' o => q v H' (hK ▸ o)⟩
theorem r_slcH (hK : X.K = C.K) {a b : O} {q : Pos} (ha : PE X x (tO C W (evO Φ a))) (hb : PE X y (tO C W (evO Φ b))) : PE X (.Subscript x (.Slice none (some y) none q) pos) (tRaw C W (.slc false true) (evOs Φ [a, b])) := (pe_slice (o_cut) ha po_none (po_some hb)).imp fun σ H Q h => by
  obtain ⟨Z, ρ, e, g⟩ := raw2 h
  refine ⟨Z, ρ, e, g.and fun x ρ1 H1 e1 s1 k v r => ?_⟩
  obtain ⟨Z, ρ2, e2, g2⟩ := k v r
  refine ⟨Z, ρ2, e2, g2.and fun x ρ3 H3 e3 s3 k3 v3 r3 => ?_⟩
  obtain ⟨B, d, i, w, rfl, t, h1, hp, q⟩ := part_int (k3 v3 r3)
  exact ⟨i, rfl, B, d, w, t, hK ▸ h1, by simpa [slcD] using hp, fun v H' o => q v H' (hK ▸ o)⟩
theorem fin_cut {Z : Addr → Prop} {σ : L2.St} {ρ : Env} {H : Hp} {Q : VK} {xs : Sum D Nat} {v : V} {i j : Int} (hK : X.K = C.K) (e : EnvR C Z σ ρ H) (r : Pd C Z σ ρ H v xs)
    (g : Good C W Z σ ρ H (match D.int j, resO ρ xs with | .int j, some d => R.ofO (cutD d (some i) (some j)) ρ | _, _ => .stuck) fun d ρ' H' => ∀ v, Rp C.K H' (Bn Z σ ρ') v d → Q v H') : rCut X.K v (some i) (some j) H Q := by
  cases hr : resO ρ xs with
  | none =>
    rw [hr] at g
    exact g.elim
  | some d =>
    rw [hr] at g
    obtain ⟨w, hp, g⟩ := Good.ofO g
    exact ⟨_, d, w, e.there, hK ▸ r.rw e hr, hp, fun v H' o => g.grown e o.same v (hK ▸ o.rp)⟩
theorem e_cut (hK : X.K = C.K) {a : O} {b c : E} {q : Pos} (ha : PE X x (tO C W (evO Φ a))) (hb : PE X y (tE C W (evE Φ b))) (hc : PE X z (tE C W (evE Φ c))) : PE X (.Subscript x (.Slice (some y) (some z) none q) pos) (tE C W (evE Φ (.cut a b c))) := (pe_slice (o_cut) ha (po_some hb) (po_some hc)).imp fun σ H Q h => by
  obtain ⟨Z, ρ, e, g⟩ := h
  simp only [evE] at g
  refine ⟨Z, ρ, e, g.bind.and fun x ρ1 H1 e1 s1 k v r => ?_⟩
  refine ⟨Z, ρ1, e1, k.bind.and fun y ρ2 H2 e2 s2 k2 w rw => ?_⟩
  cases rw with
  | int i =>
    refine ⟨i, rfl, Z, ρ2, e2, (Good.bind k2).and fun z ρ3 H3 e3 s3 k3 u ru => ?_⟩
    cases ru with
    | int j => exact ⟨j, rfl, fin_cut hK e3 ((r.step s2).step s3) k3⟩
    | _ => exact (show False from k3).elim
  | _ => exact (show False from k2).elim
end
end Iv
set_option Elab.async false
set_option linter.all false
set_option maxRecDepth 100000
set_option maxHeartbeats 1000000
/-! Iv6: built-in calls, tests, displays. -/
namespace Iv
open PySem PySem.Spec PyProof.Rows L2

section
variable {X : Cx} {C : Cc} {W : WX} {Φ : Phi} {p : Prim} {x y z : Expr} {pos : Pos}
theorem rawA {os : List O} {σ : L2.St} {H : Hp} {Q : VK} (h : tRaw C W p (evOs Φ os) σ H Q) : tCB (rP C.K p) (tOs C W (evOs Φ os)) σ H Q := h
/-- a built-in function's, a type's call -/
theorem r_blt {id : String} {f : Str} {q : Pos} {es : List Expr} {os : List O} (hc : CallR X (.builtin id) (rP C.K p)) (hg : Gl X f) (hm : X.mg f = none) (hv : bootBuiltins f = some (.builtin id)) (ha : PA X (x :: es) (tOs C W (evOs Φ os))) (hn : f ≠ "__name__") (hd : (f == ("__debug__" : Str)) = false)
    (he : starEach (x :: es) X.env = (false, eval x X.env) :: starEach es X.env) (hp : (backTo pos (starEach es X.env)).any (·.1) = false) : PE X (.Call (.Name f q) (x :: es) [] pos) (tRaw C W p (evOs Φ os)) :=
  (pe_callB hc hg hm hv ha hn hd he hp).imp fun _ _ _ => rawA
theorem r_typ {T : String} {f : Str} {q : Pos} {es : List Expr} {os : List O} (hc : CallR X (.type T) (rP C.K p)) (hg : Gl X f) (hm : X.mg f = none) (hv : bootBuiltins f = some (.type T)) (ha : PA X (x :: es) (tOs C W (evOs Φ os))) (hn : f ≠ "__name__") (hd : (f == ("__debug__" : Str)) = false)
    (he : starEach (x :: es) X.env = (false, eval x X.env) :: starEach es X.env) (hp : (backTo pos (starEach es X.env)).any (·.1) = false) : PE X (.Call (.Name f q) (x :: es) [] pos) (tRaw C W p (evOs Φ os)) :=
  (pe_callTy hc hg hm hv ha hn hd he hp).imp fun _ _ _ => rawA
/-- isinstance(x, T), isinstance(x, (S, T)) -/
theorem tyX_of {K : PySem.W.Frag} {H : Hp} {B : Addr → Prop} {v : V} {d : D} (h : Rw K H B v d) : TyX K H v (.type d.ty) := by
  cases d with
  | non => rw [h.non]; exact .base .non
  | bl b => rw [h.bl]; exact .base (.bl b)
  | int i => rw [h.int]; exact .base (.int i)
  | str x => rw [h.str]; exact .base (.str x)
  | tup xs =>
    obtain ⟨a, vs, rfl, s1, k, _⟩ := h.tup
    rcases k with ⟨k | ⟨o, k⟩, _⟩ | ⟨o, its, n, k1, k2, _⟩
    · exact .base (.tup k)
    · exact .fTuple k
    · exact .kTuple k1 k2
  | lst xs =>
    obtain ⟨a, vs, rfl, k, _⟩ := h.lst
    rcases k with (k | ⟨o, k⟩) | ⟨o, its, n, k1, k2, _⟩
    · exact .base (.lst k)
    · exact .base (.frz k)
    · exact .kList k1 k2
  | emp =>
    have h : Rp K H B v .emp := h
    cases h with
    | emp e n => exact .base (.dK e)
def isaTs : List String := ["int", "bool", "str", "tuple", "list"]
def isaS (S T : String) : Bool := if S == "bool" then T == "bool" || T == "int" else S == T
theorem isA_S (d : D) (T : String) (h : T ∈ isaTs) : d.isA T = isaS d.ty T := by
  have h : T = "int" ∨ T = "bool" ∨ T = "str" ∨ T = "tuple" ∨ T = "list" := by simpa [isaTs] using h
  rcases h with rfl | rfl | rfl | rfl | rfl <;> cases d <;> rfl
theorem kit_all : (["NoneType", "bool", "int", "str", "tuple", "list", "dict"].all fun S => isaTs.all fun T => decide (kitB S T = some (isaS S T))) = true := by decide +kernel
theorem ty_mem (d : D) : d.ty ∈ ["NoneType", "bool", "int", "str", "tuple", "list", "dict"] := by
  cases d <;> simp [D.ty]
theorem kit_isA {K : PySem.W.Frag} (d : D) (T : String) (h : T ∈ isaTs) : PySem.W.kitOne K (.type d.ty) (.type T) = some (d.isA T) := by
  rw [isA_S d T h]
  exact kit_ty (of_decide_eq_true (List.all_eq_true.mp (List.all_eq_true.mp kit_all d.ty (ty_mem d)) T h))
theorem kit_any {K : PySem.W.Frag} (d : D) : ∀ Ts : List String, (∀ T ∈ Ts, T ∈ isaTs) → PySem.W.kitAny K (.type d.ty) (Ts.map Value.type) = some (Ts.any d.isA)
  | [], _ => rfl
  | T :: Ts, h => by
    refine kitAny_cons (kit_isA d T (h T (List.mem_cons_self ..))) (fun e => ?_) (fun e => ?_)
    · rw [kit_any d Ts fun S hS => h S (List.mem_cons_of_mem _ hS), List.any_cons, e]
      rfl
    · rw [List.any_cons, e]
      rfl
theorem r_isi (hK : X.K = C.K) {a : O} {T : String} (h5 : T ∈ isaTs) {q q2 : Pos} (hg : Gl X "isinstance") (hm : X.mg "isinstance" = none) (ha : PE X x (tO C W (evO Φ a))) (hT : PE X (.Name T q2) (tC (.ty T)))
    (hl : PA X [x, .Name T q2] (tCons (tO C W (evO Φ a)) (tCons (tC (.ty T)) tNil))) (he : starEach [x, .Name T q2] X.env = (false, eval x X.env) :: starEach [.Name T q2] X.env) (hp : (backTo pos (starEach [.Name T q2] X.env)).any (·.1) = false) :
    PE X (.Call (.Name "isinstance" q) [x, .Name T q2] [] pos) (tRaw C W (.isinst [T]) (evOs Φ [a])) :=
  (pe_callB call_isi hg hm (by decide +kernel) hl (by decide) (by decide) he hp).imp fun σ H Q h => by
    obtain ⟨Z, ρ, e, g⟩ := raw1 h
    refine ⟨Z, ρ, e, g.and fun x ρ1 H1 e1 s1 k v r => ?_⟩
    obtain ⟨B, d, w, t, h1, hp, q⟩ := rP.get1 (k v r) rfl
    cases hp
    have e5 : ([T].any d.isA) = d.isA T := by simp
    exact ⟨v, .ty T, _, _, d.isA T, rfl, .ty T, hK ▸ tyX_of h1, kit_isA d T h5, e5 ▸ q _ _ (.bl _)⟩
theorem tys_paired : ∀ Ts : List String, Paired ClsV (Ts.map V.ty) (Ts.map Value.type)
  | [] => .nil
  | T :: Ts => .cons (.ty T) (tys_paired Ts)
def tTys (Ts : List String) : TA := fun _ H Q => Q (Ts.map V.ty) H
theorem r_isiT (hK : X.K = C.K) {a : O} {Ts : List String} (h5 : ∀ T ∈ Ts, T ∈ isaTs) (h9 : Ts.length ≤ 9) {q q2 : Pos} {es : List Expr} {k2 : Nat} (hg : Gl X "isinstance") (hm : X.mg "isinstance" = none) (ha : PE X x (tO C W (evO Φ a))) (hT : PE X (.Tuple es k2 q2) (tTup (tTys Ts)))
    (hl : PA X [x, .Tuple es k2 q2] (tCons (tO C W (evO Φ a)) (tCons (tTup (tTys Ts)) tNil))) (he : starEach [x, .Tuple es k2 q2] X.env = (false, eval x X.env) :: starEach [.Tuple es k2 q2] X.env) (hp : (backTo pos (starEach [.Tuple es k2 q2] X.env)).any (·.1) = false) :
    PE X (.Call (.Name "isinstance" q) [x, .Tuple es k2 q2] [] pos) (tRaw C W (.isinst Ts) (evOs Φ [a])) :=
  (pe_callB call_isiT hg hm (by decide +kernel) hl (by decide) (by decide) he hp).imp fun σ H Q h => by
    obtain ⟨Z, ρ, e, g⟩ := raw1 h
    refine ⟨Z, ρ, e, g.and fun x ρ1 H1 e1 s1 k v r => ?_⟩
    have hz : (Ts.map V.ty).length ≤ sizeLine := by rw [List.length_map, sizeLine_eq]; omega
    refine ⟨hz, fun p hn => ?_⟩
    have e2 := e1.grow (same_upd (o := .tup (Ts.map V.ty)) hn)
    have s2 : Stp σ ρ1 ρ1 H1 (upd H1 p (.tup (Ts.map V.ty))) := .same (same_upd hn)
    obtain ⟨Z', ρ', e', g'⟩ := h
    obtain ⟨B, d, w, t, h1, hp, q⟩ := rP.get1 (k v r) rfl
    cases hp
    refine ⟨v, p, _, _, _, _, rfl, upd_same, tys_paired Ts, ?_, kit_any d Ts h5, q _ _ ⟨same_upd hn, .bl _, fun _ ds e => nomatch e⟩⟩
    have h1' : Rw C.K (upd H1 p (.tup (Ts.map V.ty))) B v d := by
      cases d with
      | lst ds =>
        obtain ⟨b, vs, rfl, k1, l1⟩ := h1
        refine ⟨b, vs, rfl, ?_, l1.same (same_upd hn)⟩
        rcases k1 with (k1 | ⟨o, k1⟩) | k1
        · exact .inl (.inl (same_upd hn _ _ k1))
        · exact .inl (.inr ⟨o, same_upd hn _ _ k1⟩)
        · exact .inr k1
      | non => exact Rp.same h1 (same_upd hn)
      | bl b => exact Rp.same h1 (same_upd hn)
      | int i => exact Rp.same h1 (same_upd hn)
      | str x => exact Rp.same h1 (same_upd hn)
      | tup xs => exact Rp.same h1 (same_upd hn)
      | emp => exact Rp.same h1 (same_upd hn)
    exact hK ▸ tyX_of h1'
/-! ### chains, and, or, not -/
theorem e_chain {q : Prim} {op op' : CmpOp} {a b c : E} (ho : OpR X (compareOp op) (rP2 C.K p)) (ho' : OpR X (compareOp op') (rP2 C.K q)) (ha : PE X x (tE C W (evE Φ a))) (hb : PE X y (tE C W (evE Φ b))) (hc : PE X z (tE C W (evE Φ c)))
    (hm : lastMarks [op, op'] [y, z] = false) : PE X (.Compare x [op, op'] [y, z] pos) (tE C W (evE Φ (.chain p q a b c))) := (pe_chain ho ho' ha hb hc hm).imp fun σ H Q ⟨Z, ρ, e, g⟩ => by
  simp only [evE] at g
  refine ⟨Z, ρ, e, g.bind.and fun x ρ1 H1 e1 s1 k v r => ?_⟩
  refine ⟨Z, ρ1, e1, k.bind.and fun y ρ2 H2 e2 s2 k2 w rw => ?_⟩
  have rv := s2.rp r
  cases hp : prim p [x, y] with
  | none => rw [hp] at k2; exact (show False from k2).elim
  | some r0 =>
    rw [hp] at k2
    refine ⟨_, _, _, e2.there, .cons rv.rw (.cons rw.rw .nil), hp, fun u H3 o => ?_⟩
    cases r0 with
    | bl k =>
      obtain rfl := (Rp.rw o.rp).bl
      refine ⟨k, rfl, ?_⟩
      cases k with
      | false => exact (Good.grown k2 e2 o.same) _ o.rp
      | true =>
        have e3 := e2.grow o.same
        have s3 : Stp σ ρ2 ρ2 H2 H3 := .same o.same
        have k3 : Good C W Z σ ρ2 H3 (evE Φ c ρ2) fun z ρ3 H4 => Good C W Z σ ρ3 H4 (R.ofO (prim q [y, z]) ρ3) fun d ρ' H' => ∀ v, Rp C.K H' (Bn Z σ ρ') v d → Q v H' := by
          have k2 := Good.bind k2
          revert k2
          cases evE Φ c ρ2 with
          | stuck => exact id
          | exc c p ρ3 => exact fun h cls dd H4 e4 s4 x => h cls dd H4 e4 (s3.trans s4) x
          | ok a ρ3 => exact fun h H4 e4 s4 => h H4 e4 (s3.trans s4)
        refine ⟨Z, ρ2, e3, k3.and fun z ρ3 H4 e4 s4 k4 u ru => ?_⟩
        obtain ⟨r1, hq, k4⟩ := k4.ofO
        exact ⟨_, _, r1, e4.there, .cons (s4.rp (s3.rp rw)).rw (.cons ru.rw .nil), hq, fun v H' o => k4.grown e4 o.same v o.rp⟩
    | _ => exact (show False from k2).elim
theorem e_and {a b : E} {xs : List Expr} (hK : X.K = C.K) (ha : PE X x (tE C W (evE Φ a))) (hb : PE X (.BoolOp .And (y :: xs) pos) (tE C W (evE Φ b))) : PE X (.BoolOp .And (x :: y :: xs) pos) (tE C W (evE Φ (.and a b))) := (pe_andT ha hb).imp fun σ H Q ⟨Z, ρ, e, g⟩ => by
  simp only [evE] at g
  refine ⟨Z, ρ, e, g.bind.and fun x ρ1 H1 e1 s1 k v r => ?_⟩
  cases ht : truth x with
  | none => simp only [ht] at k; exact (show False from k).elim
  | some c =>
    simp only [ht] at k
    refine ⟨c, hK ▸ truV r.rw ht, ?_⟩
    cases c with
    | true => exact ⟨Z, ρ1, e1, k⟩
    | false => exact k.now e1 v r
theorem e_or {a b : E} {xs : List Expr} (hK : X.K = C.K) (ha : PE X x (tE C W (evE Φ a))) (hb : PE X (.BoolOp .Or (y :: xs) pos) (tE C W (evE Φ b))) : PE X (.BoolOp .Or (x :: y :: xs) pos) (tE C W (evE Φ (.or a b))) := (pe_orT ha hb).imp fun σ H Q ⟨Z, ρ, e, g⟩ => by
  simp only [evE] at g
  refine ⟨Z, ρ, e, g.bind.and fun x ρ1 H1 e1 s1 k v r => ?_⟩
  cases ht : truth x with
  | none => simp only [ht] at k; exact (show False from k).elim
  | some c =>
    simp only [ht] at k
    refine ⟨c, hK ▸ truV r.rw ht, ?_⟩
    cases c with
    | true => exact k.now e1 v r
    | false => exact ⟨Z, ρ1, e1, k⟩
theorem e_not {a : E} (hK : X.K = C.K) (ha : PE X x (tE C W (evE Φ a))) : PE X (.UnaryOp .Not x pos) (tE C W (evE Φ (.not a))) := (pe_notT ha).imp fun σ H Q ⟨Z, ρ, e, g⟩ => by
  simp only [evE] at g
  refine ⟨Z, ρ, e, g.bind.and fun x ρ1 H1 e1 s1 k v r => ?_⟩
  cases ht : truth x with
  | none => simp only [ht] at k; exact (show False from k).elim
  | some c =>
    simp only [ht] at k
    exact ⟨c, hK ▸ truV r.rw ht, k.now e1 _ (.bl _)⟩
theorem e_ite {c a b : E} (hc : PT X z (tT C W (evC Φ c))) (ha : PE X x (tE C W (evE Φ a))) (hb : PE X y (tE C W (evE Φ b))) : PE X (.IfExp z x y pos) (tE C W (evE Φ (.ite c a b))) := (pe_ifExp hc ha hb).imp fun σ H Q ⟨Z, ρ, e, g⟩ => by
  simp only [evE] at g
  refine ⟨Z, ρ, e, g.bind.and fun k ρ1 H1 e1 s1 q => ?_⟩
  cases k with
  | true => exact ⟨Z, ρ1, e1, q⟩
  | false => exact ⟨Z, ρ1, e1, q⟩
/-! ### displays -/
theorem Good.more {α : Type} {Z : Addr → Prop} {σ : L2.St} {ρ : Env} {H : Hp} {r : R α} {k : α → Env → Hp → Prop} (h : Good C W Z σ ρ H r k) : Good C W Z σ ρ H r fun a ρ1 H1 => ∀ H', Same H1 H' → k a ρ1 H' := by
  cases r with
  | stuck => exact h
  | exc c p ρ1 => exact h
  | ok a ρ1 => exact fun H1 e1 s1 H2 s => h H2 (e1.grow s) (s1.trans (.same s))
theorem bnZ {Z : Addr → Prop} {σ : L2.St} {ρ : Env} {p : Addr} : ∀ b, Bn (fun b => Z b ∨ b = p) σ ρ b → (Bn Z σ ρ b ∨ b = p) := fun b q => by
  rcases q with (q | q) | q
  · exact .inl (.inl q)
  · exact .inr q
  · exact .inl (.inr q)
theorem evEs_len : ∀ {es : List E} {ρ : Env} {ds : List D} {ρ' : Env}, evEs Φ es ρ = .ok ds ρ' → ds.length = es.length
  | [], ρ, ds, ρ', h => by
    simp only [evEs] at h
    cases h
    rfl
  | e :: es, ρ, ds, ρ', h => by
    simp only [evEs] at h
    cases h1 : evE Φ e ρ with
    | stuck => rw [h1] at h; cases h
    | exc c p ρ1 => rw [h1] at h; cases h
    | ok d ρ1 =>
      rw [h1] at h
      have h : (evEs Φ es ρ1).bind (fun ds ρ2 => .ok (d :: ds) ρ2) = .ok ds ρ' := h
      cases h2 : evEs Φ es ρ1 with
      | stuck => rw [h2] at h; cases h
      | exc c p ρ1 => rw [h2] at h; cases h
      | ok ds2 ρ2 =>
        rw [h2] at h
        cases h
        exact congrArg Nat.succ (evEs_len h2)
theorem e_tup {es : List E} {xs : List Expr} {k : Nat} (hz : es.length ≤ 1000) (h : PA X xs (tEs C W (evEs Φ es))) : PE X (.Tuple xs k pos) (tE C W (evE Φ (.tup es))) := (pe_tup h).imp fun σ H Q ⟨Z, ρ, e, g⟩ => by
  simp only [evE] at g
  refine ⟨Z, ρ, e, g.bind.eq.and fun ds ρ1 H1 e1 s1 q vs r => ?_⟩
  obtain ⟨he, q⟩ := q
  have hl := evEs_len he
  refine ⟨by rw [r.length, hl, sizeLine_eq]; omega, fun p hn => ?_⟩
  exact q.grown e1 (same_upd hn) _ (Out.tup (fr := false) e1.there r hn).rp
theorem l_disp {es : List E} {xs : List Expr} (hz : es.length ≤ 1000) (h : PA X xs (tEs C W (evEs Φ es))) : PE X (.List xs pos) (tL C W (evL Φ (.disp es))) := (pe_lst h).imp fun σ H Q ⟨Z, ρ, e, g⟩ => by
  simp only [evL] at g
  refine ⟨Z, ρ, e, g.more.eq.and fun ds ρ1 H1 e1 s1 q vs r => ?_⟩
  obtain ⟨he, q⟩ := q
  have hl := evEs_len he
  refine ⟨by rw [r.length, hl, sizeLine_eq]; omega, fun p hn => ?_⟩
  exact q _ (same_upd hn) p vs (back_of e e1 s1 p hn) (e1.addZ hn) upd_same ((r.new hn).weak bnZ)
/-- a new list as a value -/
theorem e_ofL {l : LE} (h : PE X x (tL C W (evL Φ l))) : PE X x (tE C W (evE Φ (.ofL l))) := h.imp fun σ H Q ⟨Z, ρ, e, g⟩ => by
  simp only [evE] at g
  refine ⟨Z, ρ, e, g.bind.and fun ds ρ1 H1 e1 s1 k p vs hn e2 hp r => ?_⟩
  refine k.now e1 _ (.lst (.inl ⟨.inl hp, fun z => ?_⟩) (r.weak fun b z => z.imp .inl id))
  rcases z with z | ⟨i, xs, h1, h2⟩
  · obtain ⟨o, ho⟩ := e.zt p z
    rw [hn] at ho
    cases ho
  · obtain ⟨a, us, g1, _, _, g4⟩ := e2.own i xs h1
    rw [h2] at g1
    cases g1
    exact g4 (.inr rfl)
/-! ### tests -/
/-- a value's truth as a test -/
theorem t_val {g : Env → R D} (hK : X.K = C.K) (h : PE X x (tE C W g)) (he : ∀ w, isTrue x X.env w = (do let v ← w; standAt x.pos; holding [v] (truthy v))) : PT X x (tT C W fun ρ => (g ρ).bind boolD) := (pt_truth h he).imp fun σ H Q ⟨Z, ρ, e, k⟩ => by
  refine ⟨Z, ρ, e, k.bind.and fun d ρ1 H1 e1 s1 q v r => ?_⟩
  obtain ⟨c, ht, q⟩ := Good.ofO q
  exact ⟨c, hK ▸ truV r.rw ht, q.now e1⟩
/-- a comparison as a test -/
theorem t_bl {t : TE} {g : Env → R D} (h : PT X x (tTest t)) (w : ∀ σ H Q, tE C W g σ H Q → t σ H Q) (hb : ∀ ρ d ρ', g ρ = .ok d ρ' → ∃ c, d = .bl c) : PT X x (tT C W fun ρ => (g ρ).bind boolD) := h.imp fun σ H Q ⟨Z, ρ, e, k⟩ => by
  refine w σ H _ ⟨Z, ρ, e, k.bind.eq.and fun d ρ1 H1 e1 s1 q v r => ?_⟩
  obtain ⟨he, q⟩ := q
  obtain ⟨c, rfl⟩ := hb ρ d ρ1 he
  cases r with
  | bl _ => exact ⟨c, rfl, q.now e1⟩
end
end Iv
set_option Elab.async false
set_option linter.all false
set_option maxRecDepth 100000
set_option maxHeartbeats 1000000
/-! Iv7: tests, methods, iterators, targets, comprehensions. -/
namespace Iv
open PySem PySem.Spec PyProof.Rows L2

section
variable {X : Cx} {C : Cc} {W : WX} {Φ : Phi} {p : Prim} {x y z : Expr} {pos : Pos}
/-! ### tests -/
def Prim.isCmp : Prim → Bool
  | .eq | .ne | .lt | .le | .gt | .ge | .isin | .notin | .isN | .notN => true
  | _ => false
theorem eqD_bl {d e r : D} (h : eqD d e = some r) : ∃ c, r = .bl c := by
  unfold eqD at h
  split at h <;> cases h
  exact ⟨_, rfl⟩
theorem neD_bl {d e r : D} (h : neD d e = some r) : ∃ c, r = .bl c := by
  unfold neD at h
  split at h <;> cases h
  exact ⟨_, rfl⟩
theorem ltD_bl {d e r : D} (h : ltD d e = some r) : ∃ c, r = .bl c := by
  unfold ltD at h
  split at h <;> cases h
  exact ⟨_, rfl⟩
theorem leD_bl {d e r : D} (h : leD d e = some r) : ∃ c, r = .bl c := by
  unfold leD at h
  split at h <;> cases h
  exact ⟨_, rfl⟩
theorem map_bl {o : Option Bool} {f : Bool → Bool} {r : D} (h : o.map (fun c => D.bl (f c)) = some r) : ∃ c, r = .bl c := by
  obtain ⟨c, _, rfl⟩ := Option.map_eq_some_iff.mp h
  exact ⟨_, rfl⟩
theorem some_bl {c : Bool} {r : D} (h : some (D.bl c) = some r) : ∃ c, r = .bl c := by
  cases h
  exact ⟨_, rfl⟩
theorem prim_bl {ds : List D} {r : D} (hc : p.isCmp = true) (h : prim p ds = some r) : ∃ c, r = .bl c := by
  unfold prim at h
  split at h <;> first
    | exact absurd hc (by decide)
    | exact eqD_bl h
    | exact neD_bl h
    | exact ltD_bl h
    | exact leD_bl h
    | exact map_bl (f := id) h
    | exact map_bl h
    | exact some_bl h
    | (simp [Prim.isCmp] at hc; done)
    | (cases h; done)
theorem evP_bl {os : List O} {ρ ρ' : Env} {d : D} (hc : p.isCmp = true) (h : evE Φ (.prim p os) ρ = .ok d ρ') : ∃ c, d = .bl c := by
  simp only [evE] at h
  cases h1 : evOs Φ os ρ with
  | stuck => rw [h1] at h; cases h
  | exc c p ρ1 => rw [h1] at h; cases h
  | ok xs ρ1 =>
    rw [h1] at h
    simp only [R.bind] at h
    split at h
    · rename_i ds _
      cases h2 : prim p ds with
      | none => rw [h2] at h; cases h
      | some r =>
        rw [h2] at h
        cases h
        exact prim_bl hc h2
    · cases h
theorem evC_prim (os : List O) (ρ : Env) : evC Φ (.prim p os) ρ = (evE Φ (.prim p os) ρ).bind boolD := by
  simp only [evC, evE]
  cases evOs Φ os ρ with
  | stuck => rfl
  | exc c p ρ1 => rfl
  | ok xs ρ1 =>
    simp only [R.bind]
    split <;> rfl
theorem t_cmp {op : CmpOp} {a b : O} (hp : p.isCmp = true) (ho : OpR X (compareOp op) (rP2 C.K p)) (ha : PE X x (tO C W (evO Φ a))) (hb : PE X y (tO C W (evO Φ b))) (hm : behindInMarks op y = false) :
    PT X (.Compare x [op] [y] pos) (tT C W (evC Φ (.prim p [a, b]))) := by
  have h := t_bl (g := evE Φ (.prim p [a, b])) (C := C) (W := W) (pt_cmpR (pos := pos) ho ha hb hm) (fun σ H Q q => raw2 (by
    obtain ⟨Z, ρ, e, g⟩ := q
    simp only [evE] at g
    exact ⟨Z, ρ, e, g.bind.and fun xs ρ1 H1 e1 s1 k vs pd => fin_prim e1 pd k⟩)) fun ρ d ρ' h => evP_bl hp h
  exact h.imp fun σ H Q ⟨Z, ρ, e, g⟩ => ⟨Z, ρ, e, by rw [evC_prim] at g; exact g⟩
theorem evC_chain (q : Prim) (a b c : E) (ρ : Env) : evC Φ (.chain p q a b c) ρ = (evE Φ (.chain p q a b c) ρ).bind boolD := by
  simp only [evC, evE]
  cases evE Φ a ρ with
  | stuck => rfl
  | exc c p ρ1 => rfl
  | ok x ρ1 =>
    simp only [R.bind]
    cases evE Φ b ρ1 with
    | stuck => rfl
    | exc c p ρ1 => rfl
    | ok y ρ2 =>
      simp only [R.bind]
      split
      · cases evE Φ c ρ2 <;> rfl
      · rfl
      · rfl
theorem evC_ch_bl {q : Prim} {a b c : E} {ρ ρ' : Env} {d : D} (hc : p.isCmp = true) (hq : q.isCmp = true) (h : evE Φ (.chain p q a b c) ρ = .ok d ρ') : ∃ c, d = .bl c := by
  simp only [evE] at h
  cases h1 : evE Φ a ρ with
  | stuck => rw [h1] at h; cases h
  | exc c p ρ1 => rw [h1] at h; cases h
  | ok x ρ1 =>
    rw [h1] at h
    simp only [R.bind] at h
    cases h2 : evE Φ b ρ1 with
    | stuck => rw [h2] at h; cases h
    | exc c p ρ1 => rw [h2] at h; cases h
    | ok y ρ2 =>
      rw [h2] at h
      simp only at h
      split at h
      · cases h3 : evE Φ c ρ2 with
        | stuck => rw [h3] at h; cases h
        | exc c p ρ1 => rw [h3] at h; cases h
        | ok z ρ3 =>
          rw [h3] at h
          simp only at h
          cases h4 : prim q [y, z] with
          | none => rw [h4] at h; cases h
          | some r =>
            rw [h4] at h
            cases h
            exact prim_bl hq h4
      · cases h
        exact ⟨_, rfl⟩
      · cases h
theorem chain_w {q : Prim} {a b c : E} {r r' : R2} {σ : L2.St} {H : Hp} {Q : VK} (hr : r = rP2 C.K p) (hr' : r' = rP2 C.K q) (h : tE C W (evE Φ (.chain p q a b c)) σ H Q) : tChain r r' (tE C W (evE Φ a)) (tE C W (evE Φ b)) (tE C W (evE Φ c)) σ H Q := by
  subst hr hr'
  obtain ⟨Z, ρ, e, g⟩ := h
  simp only [evE] at g
  refine ⟨Z, ρ, e, g.bind.and fun x ρ1 H1 e1 s1 k v r => ?_⟩
  refine ⟨Z, ρ1, e1, k.bind.and fun y ρ2 H2 e2 s2 k2 w rw => ?_⟩
  have rv := s2.rp r
  cases hp : prim p [x, y] with
  | none => rw [hp] at k2; exact (show False from k2).elim
  | some r0 =>
    rw [hp] at k2
    refine ⟨_, _, _, e2.there, .cons rv.rw (.cons rw.rw .nil), hp, fun u H3 o => ?_⟩
    cases r0 with
    | bl k =>
      obtain rfl := (Rp.rw o.rp).bl
      refine ⟨k, rfl, ?_⟩
      cases k with
      | false => exact (Good.grown k2 e2 o.same) _ o.rp
      | true =>
        have e3 := e2.grow o.same
        have s3 : Stp σ ρ2 ρ2 H2 H3 := .same o.same
        have k3 : Good C W Z σ ρ2 H3 (evE Φ c ρ2) fun z ρ3 H4 => Good C W Z σ ρ3 H4 (R.ofO (prim q [y, z]) ρ3) fun d ρ' H' => ∀ v, Rp C.K H' (Bn Z σ ρ') v d → Q v H' := by
          have k2 := Good.bind k2
          revert k2
          cases evE Φ c ρ2 with
          | stuck => exact id
          | exc c p ρ3 => exact fun h cls dd H4 e4 s4 x => h cls dd H4 e4 (s3.trans s4) x
          | ok a ρ3 => exact fun h H4 e4 s4 => h H4 e4 (s3.trans s4)
        refine ⟨Z, ρ2, e3, k3.and fun z ρ3 H4 e4 s4 k4 u ru => ?_⟩
        obtain ⟨r1, hq, k4⟩ := k4.ofO
        exact ⟨_, _, r1, e4.there, .cons (s4.rp (s3.rp rw)).rw (.cons ru.rw .nil), hq, fun v H' o => k4.grown e4 o.same v o.rp⟩
    | _ => exact (show False from k2).elim
theorem t_chain {q : Prim} {op op' : CmpOp} {a b c : E} (hp : p.isCmp = true) (hq : q.isCmp = true) (ho : OpR X (compareOp op) (rP2 C.K p)) (ho' : OpR X (compareOp op') (rP2 C.K q)) (ha : PE X x (tE C W (evE Φ a))) (hb : PE X y (tE C W (evE Φ b))) (hc : PE X z (tE C W (evE Φ c)))
    (hm : lastMarks [op, op'] [y, z] = false) : PT X (.Compare x [op, op'] [y, z] pos) (tT C W (evC Φ (.chain p q a b c))) := by
  have h := t_bl (g := evE Φ (.chain p q a b c)) (C := C) (W := W) (pt_chain (pos := pos) ho ho' ha hb hc hm) (fun σ H Q h => chain_w rfl rfl h) fun ρ d ρ' h => evC_ch_bl hp hq h
  exact h.imp fun σ H Q ⟨Z, ρ, e, g⟩ => ⟨Z, ρ, e, by rw [evC_chain] at g; exact g⟩
theorem _root_.L2.PW.imp {e : Expr} {t t' : TT} (h : PW X e t) (f : ∀ σ H Q, t' σ H Q → t σ H Q) : PW X e t' := ⟨fun w pins s σ H Q I q => h.run w pins s σ H Q I (f _ _ _ q)⟩
theorem w_and {a b : E} {xs : List Expr} (ha : PT X x (tT C W (evC Φ a))) (hb : PW X (.BoolOp .And (y :: xs) pos) (tT C W (evC Φ b))) : PW X (.BoolOp .And (x :: y :: xs) pos) (tT C W (evC Φ (.and a b))) := (pw_and ha hb).imp fun σ H Q ⟨Z, ρ, e, g⟩ => by
  simp only [evC] at g
  refine ⟨Z, ρ, e, g.bind.and fun c ρ1 H1 e1 s1 k => ?_⟩
  cases c with
  | true => exact ⟨Z, ρ1, e1, k⟩
  | false => exact k.now e1
theorem w_or {a b : E} {xs : List Expr} (ha : PT X x (tT C W (evC Φ a))) (hb : PW X (.BoolOp .Or (y :: xs) pos) (tT C W (evC Φ b))) : PW X (.BoolOp .Or (x :: y :: xs) pos) (tT C W (evC Φ (.or a b))) := (pw_or ha hb).imp fun σ H Q ⟨Z, ρ, e, g⟩ => by
  simp only [evC] at g
  refine ⟨Z, ρ, e, g.bind.and fun c ρ1 H1 e1 s1 k => ?_⟩
  cases c with
  | true => exact k.now e1
  | false => exact ⟨Z, ρ1, e1, k⟩
theorem t_not {a : E} (ha : PT X x (tT C W (evC Φ a))) : PT X (.UnaryOp .Not x pos) (tT C W (evC Φ (.not a))) := (pt_not ha).imp fun σ H Q ⟨Z, ρ, e, g⟩ => by
  simp only [evC] at g
  exact ⟨Z, ρ, e, g.bind.and fun c ρ1 H1 e1 s1 k => k.now e1⟩
/-! ### methods -/
theorem evO_own {o : O} {ρ ρ1 : Env} {i : Nat} (h : evO Φ o ρ = .ok (.inr i) ρ1) : ∃ xs, ρ1[i]? = some (.own xs) := by
  cases o with
  | ex e =>
    simp only [evO] at h
    cases h1 : evE Φ e ρ with
    | stuck => rw [h1] at h; cases h
    | exc c p ρ1 => rw [h1] at h; cases h
    | ok d ρ2 => rw [h1] at h; cases h
  | sl j =>
    simp only [evO] at h
    split at h
    · rename_i xs hj
      cases h
      exact ⟨xs, hj⟩
    · cases h
theorem e_index {o a : O} {p1 p2 : Pos} (hK : X.K = C.K) (hu : X.A.units + 65 < cLine) (ho : PE X x (tO C W (evO Φ o))) (ha : PA X [y] (tOs C W (evOs Φ [a])))
    (hbase : attributeBase x "index" X.env (eval x X.env) = eval x X.env)
    (hfew : ((backTo p2 (starEach [y] X.env)).all (fun x => !x.1) && (backToKw p2 (keywordEach [] X.env)).all (fun x => x.1.isSome) && decide (([y] : List Expr).length + ([] : List Keyword).length + (if ([] : List Keyword).isEmpty then 0 else 1) < 30)) = true)
    (hline : (p1.endLine == p2.line) = true) (hs : starEach [y] X.env = (false, eval y X.env) :: starEach [] X.env) (hplain : (backTo p2 (starEach [] X.env)).any (·.1) = false) :
    PE X (.Call (.Attribute x "index" p1) [y] [] p2) (tE C W (evE Φ (.meth .index o [a]))) :=
  (pe_bm PySem.F.plainAttrs_list PySem.F.slot_list_index PySem.F.type_list_index (m_index hu) ho ha hbase hfew hline hs hplain).imp fun σ H Q ⟨Z, ρ, e, g⟩ => by
    simp only [evE] at g
    refine ⟨Z, ρ, e, g.bind.eq.and fun w ρ1 H1 e1 s1 k v r => ?_⟩
    obtain ⟨he, k⟩ := k
    cases hr : recvOk .index w with
    | false => simp only [hr] at k; exact (show False from k).elim
    | true =>
      simp only [hr, if_true] at k
      refine ⟨?_, Z, ρ1, e1, k.bind.and fun xs ρ2 H2 e2 s2 k2 vs pd => hK ▸ fin_prim e2 (.cons (r.step s2) pd) k2⟩
      have lst : ∃ xs, Rw C.K H1 (Bn Z σ ρ1) v (.lst xs) := by
        cases w with
        | inl d =>
          cases d with
          | lst xs => exact ⟨xs, Rp.rw r⟩
          | _ => cases hr
        | inr i =>
          obtain ⟨xs, hi⟩ := evO_own he
          obtain ⟨a, us, h1, h2, h3, _⟩ := e1.own i xs hi
          rw [show σ[i]? = some (some v) from r] at h1
          cases h1
          exact ⟨xs, a, us, rfl, .inl (.inl h2), h3⟩
      obtain ⟨xs, l⟩ := lst
      obtain ⟨b, us, rfl, s1, _⟩ := l.lst
      exact .inl ⟨rfl, us, hK ▸ s1⟩
end
end Iv
set_option Elab.async false
set_option linter.all false
set_option maxRecDepth 100000
set_option maxHeartbeats 2000000
/-! Iv8: what loops and comprehensions walk; targets. -/
namespace Iv
open PySem PySem.Spec PyProof.Rows L2

/-! ### enumerate of a tuple -/
theorem meets_enumT {v : Value} {o : Obj} {G : Heap → Prop} (B : Begins v o G) :
    Meets (Builtin.«enumerate.__new__» ⟨[.type "enumerate", v], []⟩) (fun _ R s => G s.heap ∧ R (.ok (.ret (.ref (s.heap.push o).objs.size)))
      { s with heap := (s.heap.push o).push { cls := .type "enumerate", data := .fields #[.none, .bool false, .ref s.heap.objs.size, rawInt 0, .none, .none] } }) :=
  .of_wp fun prog w A R s h => by
    obtain ⟨hp, gg, dd, tt, oo⟩ := s
    obtain ⟨h1, h⟩ := h
    have hsub := sub_enumerate
    have step : ∀ {A' : Around} {E : Value → Shared → Prop} {Q : Value → Shared → Prop}, Q (.ref hp.objs.size) ⟨hp.push o, gg, dd, tt, oo⟩ → wpAny (model prog w) A' (pyIter v) Q E ⟨hp, gg, dd, tt, oo⟩ := fun q => B.iter prog w _ _ _ _ h1 q
    wp_walk using step
    refine wpAny_stack_any fun st => wpAny_pure ?_
    split
    · rename_i c _ _ _ _ _
      cases (c == Value.type "enumerate") <;> (wp_walk using step; exact ⟨_, rfl, h⟩)
    · wp_walk using step
      exact ⟨_, rfl, h⟩
theorem call_enumT {prog : Program} {w : World} {A : Around} {E : Value → Shared → Prop} {s : Shared} {a : Addr} {items : Array Value} {Q : Value → Shared → Prop} (hT : s.heap.IsTuple a items)
    (h : ∀ h', IsEnum h' (s.heap.objs.size + 1) s.heap.objs.size 0 .none → h'.IsTupleIter s.heap.objs.size a 0 → (∀ b o, s.heap.get? b = some o → h'.get? b = some o) → Q (.ref (s.heap.objs.size + 1)) { s with heap := h' }) :
    wpAny (model prog w) A (call (.type "enumerate") [.ref a]) Q E s := by
  refine callType_new F.called_enumerate (by decide) (F.typeCall_enumerate_1 _) (F.newCall_enumerate_1 _) (fun obj => F.args_object_init_2 obj _) F.entry_enumerate_new (meets_enumT (begins_tuple a items)) ⟨hT, ?_⟩
  generalize ho : ({ cls := .type "tuple_iterator", data := .fields #[.ref a, .int 0 0] } : Obj) = o1
  generalize ho2 : ({ cls := .type "enumerate", data := .fields #[.none, .bool false, .ref s.heap.objs.size, rawInt 0, .none, .none] } : Obj) = o2
  have hz : (s.heap.push o1).objs.size = s.heap.objs.size + 1 := Heap.size_push ..
  have e1 : ((s.heap.push o1).push o2).get? (s.heap.objs.size + 1) = some o2 := by
    have q := Heap.get?_push_size (s.heap.push o1) (o := o2) (by rw [← ho2]; rfl)
    rwa [hz] at q
  have e0 : ((s.heap.push o1).push o2).get? s.heap.objs.size = some o1 := Heap.get?_push_of_some _ (Heap.get?_push_size _ (by rw [← ho]; rfl))
  show _ ∧ _
  rw [hz]
  refine ⟨⟨_, e1, by rw [← ho2]⟩, h _ (by rw [← ho2] at e1 ⊢; exact e1) ⟨o1, e0, by rw [← ho], by rw [← ho]; rfl⟩ fun b o x => Heap.get?_push_of_some _ (Heap.get?_push_of_some _ x)⟩

/-- the tuple at a, each item in a new pair -/
def IteT (K : PySem.W.Frag) (a : Addr) (n : Nat) : L2.It where
  go i H := ∃ (xs : List V) (x : V), SqT K H a xs ∧ xs[i]? = some x ∧ xs.length = n
  yld i H v H' := ∃ T x, v = .ref T ∧ H T = none ∧ H' = upd H T (.tup [.int (i : Nat), x]) ∧ ∀ xs, SqT K H a xs → xs[i]? = some x
  stop i H := ∃ xs : List V, SqT K H a xs ∧ xs.length = n ∧ n ≤ i
theorem turn_enumT {P : Program} {w : World} {K : PySem.W.Frag} {elts : List Expr} {kk : Nat} {tpos : Pos} (a e it : Addr) (n : Nat) :
    L2.Turn P w K (.Tuple elts kk tpos) (IteT K a n) [e, it] e (fun i h => (∃ old, IsEnum h e it ((i : Nat) : Int) old) ∧ h.IsTupleIter it a i ∧ e ≠ it ∧ a ≠ it ∧ a ≠ e ∧ i ≤ n) where
  mem := List.mem_cons_self ..
  obj := fun i h st b hb => by
    obtain ⟨⟨old, he⟩, ⟨o, ho, hc, hd⟩, _⟩ := st
    rcases (by simpa using hb : b = e ∨ b = it) with z | z
    · subst z
      exact ⟨_, he, fun v q => nomatch q⟩
    · subst z
      exact ⟨o, ho, fun v q => by rw [hd] at q; cases q⟩
  keep := fun i h h' st k => by
    obtain ⟨⟨old, he⟩, hi, hne⟩ := st
    exact ⟨⟨old, k e (by simp) _ he⟩, hi.at fun o q => k it (by simp) o q, hne⟩
  item := by
    intro X hP hw hK hc i pins s σ H E I hf st hg
    subst hP hw hK
    obtain ⟨⟨old, he⟩, hit, hne, hai, hae, hin⟩ := st
    obtain ⟨xs, x, hq, hx, hxn⟩ := hg
    obtain ⟨its, rv, p, hz⟩ := I.tuple hq
    obtain ⟨u, hu, ru⟩ := rv.get hx
    have hel : e < s.heap.objs.size := Heap.lt_size he
    have hil : it < s.heap.objs.size := by
      obtain ⟨_, q, _⟩ := hit
      exact Heap.lt_size q
    have hlt : i < its.toArray.size := by
      obtain ⟨h1, _⟩ := List.getElem?_eq_some_iff.mp hu
      simpa using h1
    refine wpAny_pyNext_enum_itemC (Draws.tuple (A := X.A.in1) (I.ok.hd hc) it a hai its.toArray) he ⟨hit, p⟩ hlt hne (by simp only [List.mem_cons, not_or]; exact ⟨hne, Ne.symm hae, by simp⟩) fun y h' tk hP ho hs' hT hsz hk => ?_
    have hy : y = u := by
      have e1 : its.toArray[i]? = some u := by simpa using hu
      rw [hP] at e1
      exact Option.some.inj e1
    subst hy
    refine ⟨_, rfl, wpAny_letOwnedTupleGo_enum (s := { s with heap := h', toks := tk + 1 }) ho fun h2 he' sb => ?_⟩
    have hT2 : h2.get? s.heap.objs.size = some { cls := .type "tuple", data := .seq #[.int i tk, y] } := (sb.2 _ (Nat.ne_of_gt hel)).trans hT
    have new : ObjOk X.prog X.w (upd H s.heap.objs.size (.tup [.int (i : Nat), x])) h2 s.heap.objs.size (.tup [.int (i : Nat), x]) :=
      ⟨by show 2 ≤ sizeLine; decide, [.int i tk, y], .cons ⟨_, rfl⟩ (.cons ru .nil), ⟨_, hT2, rfl, _, rfl⟩⟩
    have I1 : Inv X pins σ (upd H s.heap.objs.size (.tup [.int (i : Nat), x])) { s with heap := h2, toks := tk + 1 } :=
      I.turnedNew (ch := [e, it]) (fun b ob hb q => by
        have n1 : b ≠ e := fun z => hb (by simp [z])
        have n2 : b ≠ it := fun z => hb (by simp [z])
        exact (sb.2 b n1).trans (hk b ob n1 n2 q)) hf (Nat.le_refl _) new
    refine ⟨.ref s.heap.objs.size, _, I1, rfl, ⟨_, x, rfl, I.hok.fresh (Nat.le_refl _), rfl, fun ys hy => by rw [I.tuple_inj hy hq]; exact hx⟩, ⟨⟨y, ?_⟩, hs'.1.at fun o q => (sb.2 it (Ne.symm hne)).trans q, hne, hai, hae, by
      obtain ⟨h1, _⟩ := List.getElem?_eq_some_iff.mp hx
      omega⟩, fun b hb => ?_⟩
    · rw [show ((i + 1 : Nat) : Int) = (i : Int) + 1 by omega]
      exact he'
    · have hb' : b < s.heap.objs.size := by
        rcases (by simpa using hb : b = e ∨ b = it) with z | z
        · rw [z]
          exact hel
        · rw [z]
          exact hil
      rw [upd_ne (Nat.ne_of_lt hb')]
      exact (hf b hb).1
  done := by
    intro X hP hw hK hc i pins s σ H E I hf st hg
    subst hP hw hK
    obtain ⟨⟨old, he⟩, hit, hne, hai, hae, hin⟩ := st
    obtain ⟨xs, hq, hx, hni⟩ := hg
    obtain ⟨its, rv, p, hz⟩ := I.tuple hq
    obtain ⟨f0, f1, f2, f3, f4, f5⟩ := hf it (by simp)
    have hl := rv.length
    have ei : i = its.toArray.size := by
      simp
      omega
    subst ei
    exact wpAny_pyNext_enum_endD (Draws.tuple (A := X.A.in1) (I.ok.hd hc) it a hai its.toArray) he ⟨hit, p⟩ fun h' eb => ⟨rfl, I.turned (t' := s.toks) (fun b o hb q => eb b o hb q) f0 f1 f3 f4 f5⟩
  self := fun A i s Q E st h => by
    obtain ⟨⟨_, he⟩, _⟩ := st
    exact wpAny_pyIter_enum he h

section
variable {X : Cx} {tg : Expr}
def iEnumT (K : PySem.W.Frag) (ta : TA) : TI := fun σ H R => ta σ H fun vs H1 => ∃ a xs, vs = [.ref a] ∧ SqT K H1 a xs ∧ R (IteT K a xs.length) H1
theorem pi_enumT {e : Expr} {ta : TA} {p pos tpos : Pos} {elts : List Expr} {kk : Nat} (hg : Gl X "enumerate") (hm : X.mg "enumerate" = none) (ha : PA X [e] ta) (hs : starEach [e] X.env = [(false, eval e X.env)]) :
    PI X (.Tuple elts kk tpos) (.Call (.Name "enumerate" p) [e] [] pos) (iEnumT X.K ta) := by
  refine ⟨fun pins s σ H R I h => Call_ (ld_blt I hg hm boot_enumerate (PyProof.Rows.callWith_type1 (thn (ha.run pos pins s σ H _ I h) fun us s1 q0 => ?_) hs rfl))⟩
  obtain ⟨vs, H1, I1, r1, a, xs, ex, hq, q⟩ := q0
  subst ex
  obtain ⟨u, rfl, r⟩ := vals1 r1
  cases r
  obtain ⟨its, rv, p', hz⟩ := I1.tuple hq
  have hal : a < s1.heap.objs.size := p'.lt
  refine call_enumT p' fun h' he hit hk => wpAny_pyIter_enum he ?_
  refine ⟨s1.heap.objs.size + 1, [s1.heap.objs.size + 1, s1.heap.objs.size], _, _, H1, rfl, I1.kept (t' := s1.toks) hk, turn_enumT a (s1.heap.objs.size + 1) s1.heap.objs.size xs.length,
    ⟨⟨.none, he⟩, hit, Nat.succ_ne_self _, Nat.ne_of_lt hal, Nat.ne_of_lt (Nat.lt_succ_of_lt hal), Nat.zero_le _⟩, fun b hb => ?_, q⟩
  have hle : s1.heap.objs.size ≤ b := by
    rcases (by simpa using hb : b = s1.heap.objs.size + 1 ∨ b = s1.heap.objs.size) with z | z
    · rw [z]
      exact Nat.le_succ _
    · rw [z]
      exact Nat.le_refl _
  exact I1.fpOk hle (I1.hok.fresh hle)
theorem pi_or {l : Expr} {w1 w2 : TI} (h1 : PI X tg l w1) (h2 : PI X tg l w2) : PI X tg l fun σ H R => w1 σ H R ∨ w2 σ H R := ⟨fun pins s σ H R I h => h.elim (h1.run pins s σ H R I) (h2.run pins s σ H R I)⟩
theorem pi_imp {l : Expr} {w1 w2 : TI} (h1 : PI X tg l w1) (f : ∀ σ H R, w2 σ H R → w1 σ H R) : PI X tg l w2 := ⟨fun pins s σ H R I h => h1.run pins s σ H R I (f _ _ _ h)⟩
end

/-! ### iterators by data -/
/-- J walks the items xs as long as P stands -/
structure ItOk (K : PySem.W.Frag) (xs : List D) (J : L2.It) (P : Hp → (Addr → Prop) → Prop) : Prop where
  go : ∀ i H B, P H B → i < xs.length → J.go i H
  stop : ∀ i H B, P H B → xs.length ≤ i → J.stop i H
  yld : ∀ i H B v H', P H B → There H B → i < xs.length → J.yld i H v H' → ∃ d, xs[i]? = some d ∧ Same H H' ∧ Rp K H' B v d
  keep : ∀ H B H' B', P H B → (∀ b o, H b = some o → Nt o → ¬ B b → H' b = some o ∧ ¬ B' b) → P H' B'
def tI (C : Cc) (W : WX) (g : Env → R (List D)) : TI := fun σ H R' => ∃ Z ρ, EnvR C Z σ ρ H ∧ Good C W Z σ ρ H (g ρ) fun xs ρ' H' => ∀ J P, ItOk C.K xs J P → P H' (Bn Z σ ρ') → R' J H'
def PLs (K : PySem.W.Frag) (a : Addr) (xs : List D) (H : Hp) (B : Addr → Prop) : Prop := Rp K H B (.ref a) (.lst xs)
def PTs' (K : PySem.W.Frag) (a : Addr) (xs : List D) (H : Hp) (B : Addr → Prop) : Prop := Rp K H B (.ref a) (.tup xs)
section
variable {K : PySem.W.Frag} {a b : Addr} {xs ys : List D}
theorem PLs.get {H : Hp} {B : Addr → Prop} (h : PLs K a xs H B) : ∃ vs, SqL K H a vs ∧ RpL K H B vs xs := by
  obtain ⟨a', vs, e, s, l⟩ := (Rp.rw h).lst
  cases e
  exact ⟨vs, s, l⟩
theorem PTs'.get {H : Hp} {B : Addr → Prop} (h : PTs' K a xs H B) : ∃ vs, SqT K H a vs ∧ RpL K H B vs xs := by
  obtain ⟨a', vs, e, s, _, l⟩ := (Rp.rw h).tup
  cases e
  exact ⟨vs, s, l⟩
theorem it_list : ItOk K xs (Itl K a) (PLs K a xs) where
  go i H B h hi := by
    obtain ⟨vs, s, l⟩ := h.get
    obtain ⟨v, h1, _⟩ := l.get (List.getElem?_eq_getElem hi)
    exact ⟨vs, v, s, h1⟩
  stop i H B h hi := by
    obtain ⟨vs, s, l⟩ := h.get
    exact ⟨vs, s, by rw [l.length]; exact hi⟩
  yld i H B v H' h t hi y := by
    obtain ⟨vs, s, l⟩ := h.get
    obtain ⟨e, y⟩ := y
    subst e
    obtain ⟨d, h1, h2⟩ := l.getV (y vs s)
    exact ⟨d, h1, Same.refl _, h2⟩
  keep H B H' B' h k := Rp.keep k h
theorem it_tup : ItOk K xs (Itt K a) (PTs' K a xs) where
  go i H B h hi := by
    obtain ⟨vs, s, l⟩ := h.get
    obtain ⟨v, h1, _⟩ := l.get (List.getElem?_eq_getElem hi)
    exact ⟨vs, v, s, h1⟩
  stop i H B h hi := by
    obtain ⟨vs, s, l⟩ := h.get
    exact ⟨vs, s, by rw [l.length]; exact hi⟩
  yld i H B v H' h t hi y := by
    obtain ⟨vs, s, l⟩ := h.get
    obtain ⟨e, y⟩ := y
    subst e
    obtain ⟨d, h1, h2⟩ := l.getV (y vs s)
    exact ⟨d, h1, Same.refl _, h2⟩
  keep H B H' B' h k := Rp.keep k h
theorem pair_new {H : Hp} {B : Addr → Prop} {T : Addr} {v w : V} {d e : D} (t : There H B) (h1 : Rp K H B v d) (h2 : Rp K H B w e) (n : H T = none) : Rp K (upd H T (.tup [v, w])) B (.ref T) (.tup [d, e]) :=
  (Out.tup (fr := false) t (.cons h1 (.cons h2 .nil)) n).rp
theorem enumD_get (xs : List D) (i : Nat) : (enumD xs)[i]? = (xs[i]?).map fun d => D.tup [.int (i : Nat), d] := by
  unfold enumD
  rw [List.getElem?_map, List.getElem?_zipIdx]
  cases xs[i]? <;> simp
theorem enumD_len (xs : List D) : (enumD xs).length = xs.length := by simp [enumD]
theorem it_enum : ItOk K (enumD xs) (Ite K a) (PLs K a xs) where
  go i H B h hi := by
    rw [enumD_len] at hi
    exact it_list.go i H B h hi
  stop i H B h hi := by
    rw [enumD_len] at hi
    exact it_list.stop i H B h hi
  yld i H B v H' h t hi y := by
    obtain ⟨vs, s, l⟩ := h.get
    obtain ⟨T, x, rfl, n, rfl, y⟩ := y
    obtain ⟨d, h1, h2⟩ := l.getV (y vs s)
    exact ⟨_, by rw [enumD_get, h1]; rfl, same_upd n, pair_new t (.int _) h2 n⟩
  keep H B H' B' h k := Rp.keep k h
theorem it_enumT {n : Nat} (hn : n = xs.length) : ItOk K (enumD xs) (IteT K a n) (PTs' K a xs) where
  go i H B h hi := by
    rw [enumD_len] at hi
    obtain ⟨vs, s, l⟩ := h.get
    obtain ⟨v, h1, _⟩ := l.get (List.getElem?_eq_getElem hi)
    exact ⟨vs, v, s, h1, by rw [l.length, hn]⟩
  stop i H B h hi := by
    rw [enumD_len] at hi
    obtain ⟨vs, s, l⟩ := h.get
    exact ⟨vs, s, by rw [l.length, hn], by omega⟩
  yld i H B v H' h t hi y := by
    obtain ⟨vs, s, l⟩ := h.get
    obtain ⟨T, x, rfl, n, rfl, y⟩ := y
    obtain ⟨d, h1, h2⟩ := l.getV (y vs s)
    exact ⟨_, by rw [enumD_get, h1]; rfl, same_upd n, pair_new t (.int _) h2 n⟩
  keep H B H' B' h k := Rp.keep k h
theorem rngD_get (lo hi : Int) (i : Nat) : (rngD lo hi)[i]? = if i < (hi - lo).toNat then some (D.int (lo + (i : Int))) else none := by
  unfold rngD
  rw [List.getElem?_map]
  by_cases h : i < (hi - lo).toNat
  · rw [if_pos h, List.getElem?_eq_getElem (by simpa using h), List.getElem_range]
    rfl
  · rw [if_neg h, List.getElem?_eq_none (by simpa using h)]
    rfl
theorem rngD_len (lo up : Int) : (rngD lo up).length = (up - lo).toNat := by simp [rngD]
theorem it_rng {lo up : Int} {n : Nat} (hn : n = (up - lo).toNat) : ItOk K (rngD lo up) (Itr lo n) fun _ _ => True where
  go i H B _ h := by
    show i < n
    simp [rngD] at h
    omega
  stop i H B _ h := by
    show n ≤ i
    simp [rngD] at h
    omega
  yld i H B v H' _ t hi y := by
    obtain ⟨rfl, rfl⟩ := y
    rw [rngD_len] at hi
    exact ⟨_, by rw [rngD_get, if_pos hi], Same.refl _, .int _⟩
  keep _ _ _ _ _ _ := trivial
theorem zipD_get (xs ys : List D) (i : Nat) {d e : D} (h1 : xs[i]? = some d) (h2 : ys[i]? = some e) : (zipD xs ys)[i]? = some (.tup [d, e]) := by
  unfold zipD
  rw [List.getElem?_map, (List.getElem?_zip_eq_some (z := (d, e))).mpr ⟨h1, h2⟩]
  rfl
theorem zipD_len (xs ys : List D) : (zipD xs ys).length = min xs.length ys.length := by simp [zipD]
theorem it_zip : ItOk K (zipD xs ys) (Itz K a b) fun H B => PLs K a xs H B ∧ PLs K b ys H B where
  go i H B h hi := by
    rw [zipD_len] at hi
    obtain ⟨vs, s, l⟩ := h.1.get
    obtain ⟨us, s2, l2⟩ := h.2.get
    obtain ⟨v, h1, _⟩ := l.get (List.getElem?_eq_getElem (by omega : i < xs.length))
    obtain ⟨u, h2, _⟩ := l2.get (List.getElem?_eq_getElem (by omega : i < ys.length))
    exact ⟨vs, us, v, u, s, s2, h1, h2⟩
  stop i H B h hi := by
    rw [zipD_len] at hi
    obtain ⟨vs, s, l⟩ := h.1.get
    obtain ⟨us, s2, l2⟩ := h.2.get
    refine ⟨vs, us, s, s2, ?_⟩
    rw [l.length, l2.length]
    omega
  yld i H B v H' h t hi y := by
    obtain ⟨vs, s, l⟩ := h.1.get
    obtain ⟨us, s2, l2⟩ := h.2.get
    obtain ⟨T, x, z, rfl, n, rfl, y1, y2⟩ := y
    obtain ⟨d, h1, r1⟩ := l.getV (y1 vs s)
    obtain ⟨e, h2, r2⟩ := l2.getV (y2 us s2)
    exact ⟨_, zipD_get _ _ _ h1 h2, same_upd n, pair_new t r1 r2 n⟩
  keep H B H' B' h k := ⟨Rp.keep k h.1, Rp.keep k h.2⟩
theorem it_zipT : ItOk K (zipD xs ys) (RZ.ItzT K a b) fun H B => PTs' K a xs H B ∧ PTs' K b ys H B where
  go i H B h hi := by
    rw [zipD_len] at hi
    obtain ⟨vs, s, l⟩ := h.1.get
    obtain ⟨us, s2, l2⟩ := h.2.get
    obtain ⟨v, h1, _⟩ := l.get (List.getElem?_eq_getElem (by omega : i < xs.length))
    obtain ⟨u, h2, _⟩ := l2.get (List.getElem?_eq_getElem (by omega : i < ys.length))
    exact ⟨vs, us, v, u, s, s2, h1, h2⟩
  stop i H B h hi := by
    rw [zipD_len] at hi
    obtain ⟨vs, s, l⟩ := h.1.get
    obtain ⟨us, s2, l2⟩ := h.2.get
    refine ⟨vs, us, s, s2, ?_⟩
    rw [l.length, l2.length]
    omega
  yld i H B v H' h t hi y := by
    obtain ⟨vs, s, l⟩ := h.1.get
    obtain ⟨us, s2, l2⟩ := h.2.get
    obtain ⟨T, x, z, rfl, n, rfl, y1, y2⟩ := y
    obtain ⟨d, h1, r1⟩ := l.getV (y1 vs s)
    obtain ⟨e, h2, r2⟩ := l2.getV (y2 us s2)
    exact ⟨_, zipD_get _ _ _ h1 h2, same_upd n, pair_new t r1 r2 n⟩
  keep H B H' B' h k := ⟨Rp.keep k h.1, Rp.keep k h.2⟩
theorem it_str (x : Str) : ItOk K (x.cps.toList.map fun c => D.str ⟨#[c]⟩) (Its x) fun _ _ => True where
  go i H B _ h := by
    show i < x.cps.size
    simpa using h
  stop i H B _ h := by
    show x.cps.size ≤ i
    simpa using h
  yld i H B v H' _ t hi y := by
    obtain ⟨rfl, c, hc, rfl⟩ := y
    exact ⟨_, by rw [List.getElem?_map, Array.getElem?_toList, hc]; rfl, Same.refl _, .str _⟩
  keep _ _ _ _ _ _ := trivial
end

/-! ### what stands behind in or for as data -/
section
variable {X : Cx} {C : Cc} {W : WX} {Φ : Phi} {x y tg : Expr} {pos p tpos : Pos} {elts : List Expr} {kk : Nat}
theorem Good.ofRes {α : Type} {Z : Addr → Prop} {σ : L2.St} {ρ : Env} {H : Hp} {r : R α} {k : α → Env → Hp → Prop} (h : Good C W Z σ ρ H r k) : (∃ a ρ', r = .ok a ρ') ∨ ∃ c p ρ', r = .exc c p ρ' := by
  cases r with
  | ok a ρ' => exact .inl ⟨a, ρ', rfl⟩
  | exc c p ρ' => exact .inr ⟨c, p, ρ', rfl⟩
  | stuck => exact h.elim
theorem i_seq {e : E} (hK : X.K = C.K) (h : PE X x (tE C W (evE Φ e))) : PI X tg x (tI C W (evI Φ (.seq e))) := pi_imp (pi_or (pi_list h) (pi_or (pi_tup h) (pi_str h))) fun σ H R' ⟨Z, ρ, e0, g⟩ => by
  simp only [evI] at g
  have g := g.bind
  rcases g.ofRes with ⟨d, ρ1, hr⟩ | ⟨c, p, ρ1, hr⟩
  · cases hd : d with
    | lst xs =>
      refine .inl ⟨Z, ρ, e0, g.eq.and fun d' ρ' H1 e1 s1 q v r => ?_⟩
      obtain ⟨q0, q⟩ := q
      rw [hr] at q0
      cases q0
      subst hd
      obtain ⟨a, vs, rfl, s, l⟩ := r.rw.lst
      exact ⟨a, rfl, ⟨vs, hK ▸ s⟩, q.now e1 _ _ (by rw [hK]; exact it_list) r⟩
    | tup xs =>
      refine .inr (.inl ⟨Z, ρ, e0, g.eq.and fun d' ρ' H1 e1 s1 q v r => ?_⟩)
      obtain ⟨q0, q⟩ := q
      rw [hr] at q0
      cases q0
      subst hd
      obtain ⟨a, vs, rfl, s, _, l⟩ := r.rw.tup
      exact ⟨a, rfl, ⟨vs, hK ▸ s⟩, q.now e1 _ _ (by rw [hK]; exact it_tup) r⟩
    | str z =>
      refine .inr (.inr ⟨Z, ρ, e0, g.eq.and fun d' ρ' H1 e1 s1 q v r => ?_⟩)
      obtain ⟨q0, q⟩ := q
      rw [hr] at q0
      cases q0
      subst hd
      cases r
      exact ⟨z, rfl, q.now e1 _ _ (it_str z) trivial⟩
    | _ =>
      subst hd
      refine .inl ⟨Z, ρ, e0, g.eq.and fun d' ρ' H1 e1 s1 q v r => ?_⟩
      obtain ⟨q0, q⟩ := q
      rw [hr] at q0
      cases q0
      exact (show False from q).elim
  · refine .inl ⟨Z, ρ, e0, g.eq.and fun d' ρ' H1 e1 s1 q v r => ?_⟩
    rw [hr] at q
    cases q.1
theorem i_rng {e : E} (hg : Gl X "range") (hm : X.mg "range" = none) (hs : starEach [x] X.env = [(false, eval x X.env)]) (h : PA X [x] (tCons (tE C W (evE Φ e)) tNil)) : PI X tg (.Call (.Name "range" p) [x] [] pos) (tI C W (evI Φ (.rng e))) := pi_imp (pi_range1 hg hm h hs) fun σ H R' ⟨Z, ρ, e0, g⟩ => by
  simp only [evI] at g
  refine ⟨Z, ρ, e0, g.bind.and fun d ρ1 H1 e1 s1 k v r => ?_⟩
  cases r with
  | int n =>
    dsimp only at k
    split at k
    · rename_i hz
      unfold rngOk at hz
      simp only [Bool.and_eq_true, decide_eq_true_eq] at hz
      exact ⟨n, rfl, by omega, by omega, k.now e1 _ _ (it_rng (by omega)) trivial⟩
    · exact (show False from k).elim
  | _ => exact (show False from k).elim
theorem i_rng2 {a b : E} (hg : Gl X "range") (hm : X.mg "range" = none) (hs : starEach [x, y] X.env = [(false, eval x X.env), (false, eval y X.env)]) (hs2 : starEach [y] X.env = [(false, eval y X.env)]) (h : PA X [x, y] (tCons (tE C W (evE Φ a)) (tCons (tE C W (evE Φ b)) tNil))) :
    PI X tg (.Call (.Name "range" p) [x, y] [] pos) (tI C W (evI Φ (.rng2 a b))) := pi_imp (pi_range2 hg hm h hs hs2) fun σ H R' ⟨Z, ρ, e0, g⟩ => by
  simp only [evI] at g
  refine ⟨Z, ρ, e0, g.bind.and fun d ρ1 H1 e1 s1 k v r => ?_⟩
  refine ⟨Z, ρ1, e1, k.bind.and fun d2 ρ2 H2 e2 s2 k2 w rw => ?_⟩
  cases r with
  | int m =>
    cases rw with
    | int n =>
      dsimp only at k2
      split at k2
      · rename_i hz
        unfold rngOk at hz
        simp only [Bool.and_eq_true, decide_eq_true_eq] at hz
        exact ⟨m, n, rfl, by omega, k2.now e2 _ _ (it_rng rfl) trivial⟩
      · exact (show False from k2).elim
    | _ => exact (show False from k2).elim
  | _ => exact (show False from k2).elim
theorem i_enum {e : E} (hK : X.K = C.K) (hg : Gl X "enumerate") (hm : X.mg "enumerate" = none) (hs : starEach [x] X.env = [(false, eval x X.env)]) (h : PA X [x] (tCons (tE C W (evE Φ e)) tNil)) : PI X (.Tuple elts kk tpos) (.Call (.Name "enumerate" p) [x] [] pos) (tI C W (evI Φ (.enum e))) :=
  pi_imp (pi_or (pi_enum hg hm h hs) (pi_enumT hg hm h hs)) fun σ H R' ⟨Z, ρ, e0, g⟩ => by
  simp only [evI] at g
  have g := g.bind
  rcases g.ofRes with ⟨d, ρ1, hr⟩ | ⟨c, p, ρ1, hr⟩
  · cases hd : d with
    | lst xs =>
      refine .inl ⟨Z, ρ, e0, g.eq.and fun d' ρ' H1 e1 s1 q v r => ?_⟩
      obtain ⟨q0, q⟩ := q
      rw [hr] at q0
      cases q0
      subst hd
      obtain ⟨a, vs, rfl, s, l⟩ := r.rw.lst
      exact ⟨a, vs, rfl, hK ▸ s, q.now e1 _ _ (by rw [hK]; exact it_enum) r⟩
    | tup xs =>
      refine .inr ⟨Z, ρ, e0, g.eq.and fun d' ρ' H1 e1 s1 q v r => ?_⟩
      obtain ⟨q0, q⟩ := q
      rw [hr] at q0
      cases q0
      subst hd
      obtain ⟨a, vs, rfl, s, _, l⟩ := r.rw.tup
      exact ⟨a, vs, rfl, hK ▸ s, q.now e1 _ _ (by rw [hK]; exact it_enumT l.length) r⟩
    | _ =>
      subst hd
      refine .inl ⟨Z, ρ, e0, g.eq.and fun d' ρ' H1 e1 s1 q v r => ?_⟩
      obtain ⟨q0, q⟩ := q
      rw [hr] at q0
      cases q0
      exact (show False from q).elim
  · refine .inl ⟨Z, ρ, e0, g.eq.and fun d' ρ' H1 e1 s1 q v r => ?_⟩
    rw [hr] at q
    cases q.1
theorem i_zip {a b : E} (hK : X.K = C.K) (hg : Gl X "zip") (hm : X.mg "zip" = none) (hs : starEach [x, y] X.env = (false, eval x X.env) :: starEach [y] X.env) (hs2 : starEach [y] X.env = [(false, eval y X.env)]) (h : PA X [x, y] (tCons (tE C W (evE Φ a)) (tCons (tE C W (evE Φ b)) tNil))) :
    PI X (.Tuple elts kk tpos) (.Call (.Name "zip" p) [x, y] [] pos) (tI C W (evI Φ (.zip a b))) := pi_imp (RZ.pi_zipA hg hm h (by rw [hs, hs2]) (by rw [hs2]; rfl)) fun σ H R' ⟨Z, ρ, e0, g⟩ => by
  simp only [evI] at g
  refine ⟨Z, ρ, e0, g.bind.and fun d ρ1 H1 e1 s1 k v r => ?_⟩
  refine ⟨Z, ρ1, e1, k.bind.and fun d2 ρ2 H2 e2 s2 k2 w rw => ?_⟩
  have r := s2.rp r
  cases d with
  | lst xs =>
    cases d2 with
    | lst ys =>
      obtain ⟨a', vs, rfl, s, l⟩ := r.rw.lst
      obtain ⟨b', us, rfl, s', l'⟩ := rw.rw.lst
      exact ⟨a', b', vs, us, rfl, .inl ⟨hK ▸ s, hK ▸ s', Good.now k2 e2 _ (fun H B => PLs C.K a' xs H B ∧ PLs C.K b' ys H B) (by rw [hK]; exact it_zip) ⟨r, rw⟩⟩⟩
    | _ => exact (show False from k2).elim
  | tup xs =>
    cases d2 with
    | tup ys =>
      obtain ⟨a', vs, rfl, s, _, l⟩ := r.rw.tup
      obtain ⟨b', us, rfl, s', _, l'⟩ := rw.rw.tup
      exact ⟨a', b', vs, us, rfl, .inr ⟨hK ▸ s, hK ▸ s', Good.now k2 e2 _ (fun H B => PTs' C.K a' xs H B ∧ PTs' C.K b' ys H B) (by rw [hK]; exact it_zipT) ⟨r, rw⟩⟩⟩
    | _ => exact (show False from k2).elim
  | _ => exact (show False from k2).elim
end
end Iv
set_option Elab.async false
set_option linter.all false
set_option maxRecDepth 100000
set_option maxHeartbeats 2000000
/-! Iv9: stores into slots; targets. -/
namespace Iv
open PySem PySem.Spec PyProof.Rows L2

section
variable {C : Cc} {W : WX} {Z Z' : Addr → Prop} {σ σ' σ'' : L2.St} {ρ ρ' ρ'' : Env} {H H' H'' : Hp}
theorem getElem?_lt {α : Type} {l : List α} {i : Nat} {x : α} (h : l[i]? = some x) : i < l.length := (List.getElem?_eq_some_iff.mp h).1
/-- who owns after a slot's store -/
theorem own_set {i : Nat} {v : V} {s : Slot} {b : Addr} (h : OwnA (σ.set i (some v)) (ρ.set i s) b) : ((∃ xs, s = .own xs) ∧ v = .ref b) ∨ ∃ j xs, j ≠ i ∧ ρ[j]? = some (.own xs) ∧ σ[j]? = some (some (V.ref b)) := by
  obtain ⟨j, xs, h1, h2⟩ := h
  by_cases e : i = j
  · subst e
    rw [List.getElem?_set_self (by simpa using getElem?_lt h1)] at h1
    rw [List.getElem?_set_self (by simpa using getElem?_lt h2)] at h2
    cases h1
    cases h2
    exact .inl ⟨⟨_, rfl⟩, rfl⟩
  · rw [List.getElem?_set_ne e] at h1 h2
    exact .inr ⟨j, xs, fun q => e q.symm, h1, h2⟩
theorem EnvR.setDat (e : EnvR C Z σ ρ H) {i : Nat} {v : V} {d : D} (hi : i < ρ.length) (hio : ∀ p ∈ C.io, p.1 ≠ i) (r : Rp C.K H (Bn Z σ ρ) v d) : EnvR C Z (σ.set i (some v)) (ρ.set i (.dat d)) H ∧ Stq σ ρ H (σ.set i (some v)) (ρ.set i (.dat d)) H := by
  have ow : ∀ b, OwnA (σ.set i (some v)) (ρ.set i (.dat d)) b → OwnA σ ρ b := fun b h => by
    rcases own_set h with ⟨⟨xs, q⟩, _⟩ | ⟨j, xs, _, h1, h2⟩
    · cases q
    · exact ⟨j, xs, h1, h2⟩
  have bn : ∀ b, Bn Z (σ.set i (some v)) (ρ.set i (.dat d)) b → Bn Z σ ρ b := fun b h => h.imp id (ow b)
  refine ⟨⟨by simp [e.len], fun j d' h => ?_, fun j xs h => ?_, fun j k a xs ys h1 h2 h3 h4 => ?_, e.zt, e.z0, fun p hp => ?_, e.keep, e.tr0, e.tab, fun b h => e.fresh b (ow b h)⟩, ⟨fun b o h _ n => ⟨h, fun q => n (ow b q)⟩, fun b o h => ⟨o, h⟩⟩⟩
  · by_cases q : i = j
    · subst q
      rw [List.getElem?_set_self hi] at h
      cases h
      exact ⟨v, List.getElem?_set_self (by rw [e.len]; exact hi), r.weak bn⟩
    · rw [List.getElem?_set_ne q] at h ⊢
      obtain ⟨w, h1, h2⟩ := e.dat j d' h
      exact ⟨w, h1, h2.weak bn⟩
  · have q : i ≠ j := fun q => by
      subst q
      rw [List.getElem?_set_self hi] at h
      cases h
    rw [List.getElem?_set_ne q] at h ⊢
    obtain ⟨a, vs, h1, h2, h3, h4⟩ := e.own j xs h
    exact ⟨a, vs, h1, h2, h3.weak bn, h4⟩
  · have q : i ≠ j := fun q => by
      subst q
      rw [List.getElem?_set_self hi] at h1
      cases h1
    have q2 : i ≠ k := fun q => by
      subst q
      rw [List.getElem?_set_self hi] at h2
      cases h2
    rw [List.getElem?_set_ne q] at h1 h3
    rw [List.getElem?_set_ne q2] at h2 h4
    exact e.inj j k a xs ys h1 h2 h3 h4
  · have q := (hio p hp).symm
    rw [List.getElem?_set_ne q, List.getElem?_set_ne q]
    exact e.io p hp
/-- a new list comes into a slot -/
theorem EnvR.setNew {p : Addr} {vs : List V} {xs : List D} (e : EnvR C (fun b => Z b ∨ b = p) σ ρ H) {i : Nat} (hi : i < ρ.length) (hio : ∀ p ∈ C.io, p.1 ≠ i) (z0 : ∀ b, C.Z0 b → Z b) (hz : ¬ Z p) (h0 : C.H0 p = none)
    (hp : H p = some (.lst vs)) (r : RpL C.K H (Bn (fun b => Z b ∨ b = p) σ ρ) vs xs) : EnvR C Z (σ.set i (some (.ref p))) (ρ.set i (.own xs)) H := by
  have hi' : i < σ.length := by rw [e.len]; exact hi
  have bn : ∀ b, Bn Z (σ.set i (some (.ref p))) (ρ.set i (.own xs)) b → Bn (fun b => Z b ∨ b = p) σ ρ b := fun b h => by
    rcases h with h | h
    · exact .inl (.inl h)
    · rcases own_set h with ⟨_, q⟩ | ⟨j, ys, _, h1, h2⟩
      · cases q
        exact .inl (.inr rfl)
      · exact .inr ⟨j, ys, h1, h2⟩
  have np : ∀ (j : Nat) (ys : List D), ρ[j]? = some (Slot.own ys) → σ[j]? ≠ some (some (V.ref p)) := fun j ys h1 h2 => by
    obtain ⟨a, us, g1, _, _, g4⟩ := e.own j ys h1
    rw [h2] at g1
    cases g1
    exact g4 (.inr rfl)
  refine ⟨by simp [e.len], fun j d' h => ?_, fun j ys h => ?_, fun j k a ys zs h1 h2 h3 h4 => ?_, fun b h => e.zt b (.inl h), z0, fun q hq => ?_, e.keep, e.tr0, e.tab, fun b h => ?_⟩
  · have q : i ≠ j := fun q => by
      subst q
      rw [List.getElem?_set_self hi] at h
      cases h
    rw [List.getElem?_set_ne q] at h ⊢
    obtain ⟨w, h1, h2⟩ := e.dat j d' h
    exact ⟨w, h1, h2.weak bn⟩
  · by_cases q : i = j
    · subst q
      rw [List.getElem?_set_self hi] at h
      cases h
      exact ⟨p, vs, List.getElem?_set_self hi', hp, r.weak bn, hz⟩
    · rw [List.getElem?_set_ne q] at h ⊢
      obtain ⟨a, us, h1, h2, h3, h4⟩ := e.own j ys h
      exact ⟨a, us, h1, h2, h3.weak bn, fun z => h4 (.inl z)⟩
  · by_cases q : i = j
    · by_cases q2 : i = k
      · exact q.symm.trans q2
      · subst q
        rw [List.getElem?_set_self hi'] at h3
        cases h3
        rw [List.getElem?_set_ne q2] at h2 h4
        exact (np k zs h2 h4).elim
    · by_cases q2 : i = k
      · subst q2
        rw [List.getElem?_set_self hi'] at h4
        cases h4
        rw [List.getElem?_set_ne q] at h1 h3
        exact (np j ys h1 h3).elim
      · rw [List.getElem?_set_ne q] at h1 h3
        rw [List.getElem?_set_ne q2] at h2 h4
        exact e.inj j k a ys zs h1 h2 h3 h4
  · have q := (hio q hq).symm
    rw [List.getElem?_set_ne q, List.getElem?_set_ne q]
    exact e.io _ hq
  · rcases own_set h with ⟨_, q⟩ | ⟨j, ys, _, h1, h2⟩
    · cases q
      exact .inr h0
    · exact e.fresh b ⟨j, ys, h1, h2⟩
/-- new: not of the entry's heap -/
theorem EnvR.new0 (e : EnvR C Z σ ρ H) {p : Addr} (h : H p = none) : C.H0 p = none := by
  cases q : C.H0 p with
  | none => rfl
  | some o =>
    by_cases hp : ∀ x ∈ C.io, x.2 ≠ p
    · obtain ⟨o', this⟩ := e.tr0 p o q
      rw [h] at this
      cases this
    · simp only [Classical.not_forall, Decidable.not_not] at hp
      obtain ⟨x, hx, hxp⟩ := hp
      obtain ⟨h1, xs, h2⟩ := e.io x hx
      obtain ⟨a, vs, g1, g2, _⟩ := e.own _ _ h2
      rw [h1] at g1
      cases g1
      rw [hxp, h] at g2
      cases g2
theorem own_upd {i : Nat} {xs ys : List D} (h : ρ[i]? = some (.own xs)) (b : Addr) : OwnA σ (ρ.set i (.own ys)) b ↔ OwnA σ ρ b := by
  constructor
  · rintro ⟨j, zs, h1, h2⟩
    by_cases q : i = j
    · subst q
      exact ⟨i, xs, h, h2⟩
    · rw [List.getElem?_set_ne q] at h1
      exact ⟨j, zs, h1, h2⟩
  · rintro ⟨j, zs, h1, h2⟩
    by_cases q : i = j
    · subst q
      exact ⟨i, ys, List.getElem?_set_self (getElem?_lt h), h2⟩
    · exact ⟨j, zs, by rw [List.getElem?_set_ne q]; exact h1, h2⟩
/-- a slot's own list gets another content -/
theorem EnvR.setOwn (e : EnvR C Z σ ρ H) {i : Nat} {a : Addr} {xs ys : List D} {us : List V} (hi : ρ[i]? = some (.own xs)) (ha : σ[i]? = some (some (V.ref a))) (r : RpL C.K H (Bn Z σ ρ) us ys) :
    EnvR C Z σ (ρ.set i (.own ys)) (upd H a (.lst us)) ∧ Stp σ ρ (ρ.set i (.own ys)) H (upd H a (.lst us)) := by
  have oa : OwnA σ ρ a := ⟨i, xs, hi, ha⟩
  have st : Stp σ ρ (ρ.set i (.own ys)) H (upd H a (.lst us)) := ⟨fun b o h _ n => ⟨by
    rw [upd_ne (fun q => by subst q; exact n oa)]
    exact h, fun q => n ((own_upd hi b).mp q)⟩, fun b o h => by
    by_cases z : b = a
    · subst z
      exact ⟨_, upd_same⟩
    · exact ⟨o, by rw [upd_ne z]; exact h⟩⟩
  refine ⟨⟨by simp [e.len], fun j d h => ?_, fun j zs h => ?_, fun j k b zs ws h1 h2 h3 h4 => ?_, fun b h => ?_, e.z0, fun p hp => ?_, fun b o h t n => ?_, fun b o h => (let ⟨o', q⟩ := e.tr0 b o h; st.tr b o' q), ?_, fun b h => e.fresh b ((own_upd hi b).mp h)⟩, st⟩
  · have q : i ≠ j := fun q => by
      subst q
      rw [List.getElem?_set_self (getElem?_lt hi)] at h
      cases h
    rw [List.getElem?_set_ne q] at h
    obtain ⟨w, h1, h2⟩ := e.dat j d h
    exact ⟨w, h1, st.rp h2⟩
  · by_cases q : i = j
    · subst q
      rw [List.getElem?_set_self (getElem?_lt hi)] at h
      cases h
      obtain ⟨b, vs, g1, _, _, g4⟩ := e.own i xs hi
      rw [ha] at g1
      cases g1
      exact ⟨a, us, ha, upd_same, st.rpl r, g4⟩
    · rw [List.getElem?_set_ne q] at h
      obtain ⟨b, vs, g1, g2, g3, g4⟩ := e.own j zs h
      have n : b ≠ a := fun z => by
        subst z
        exact q (e.inj i j _ xs zs hi h ha g1)
      exact ⟨b, vs, g1, by rw [upd_ne n]; exact g2, st.rpl g3, g4⟩
  · have : ∀ (l : Nat) (zs : List D), (ρ.set i (Slot.own ys))[l]? = some (Slot.own zs) → ∃ ws, ρ[l]? = some (Slot.own ws) := fun l zs h => by
      by_cases q : i = l
      · subst q
        exact ⟨xs, hi⟩
      · rw [List.getElem?_set_ne q] at h
        exact ⟨zs, h⟩
    obtain ⟨z1, q1⟩ := this j zs h1
    obtain ⟨z2, q2⟩ := this k ws h2
    exact e.inj j k b z1 z2 q1 q2 h3 h4
  · obtain ⟨o, q⟩ := e.zt b h
    by_cases z : b = a
    · subst z
      exact ⟨_, upd_same⟩
    · exact ⟨o, by rw [upd_ne z]; exact q⟩
  · obtain ⟨h1, zs, h2⟩ := e.io p hp
    by_cases q : i = p.1
    · exact ⟨h1, ys, by rw [← q]; exact List.getElem?_set_self (getElem?_lt hi)⟩
    · exact ⟨h1, zs, by rw [List.getElem?_set_ne q]; exact h2⟩
  · have q : b ≠ a := fun q => by
      subst q
      rcases e.fresh _ oa with ⟨p, hp, hb⟩ | z
      · exact n p hp hb
      · rw [h] at z
        cases z
    rw [upd_ne q]
    exact e.keep b o h t n
  · obtain ⟨a', vs, g1, g2, _, _⟩ := e.own i xs hi
    rw [ha] at g1
    cases g1
    exact tabs_upd e.tab g2
/-- a slot's own list becomes data -/
theorem EnvR.frz (e : EnvR C Z σ ρ H) {i : Nat} {xs : List D} (hi : ρ[i]? = some (.own xs)) (hio : ∀ p ∈ C.io, p.1 ≠ i) : EnvR C Z σ (ρ.set i (.dat (.lst xs))) H ∧ Stp σ ρ (ρ.set i (.dat (.lst xs))) H H := by
  obtain ⟨a, vs, h1, h2, h3, h4⟩ := e.own i xs hi
  have ow : ∀ b, OwnA σ (ρ.set i (.dat (.lst xs))) b → OwnA σ ρ b ∧ b ≠ a := fun b h => by
    obtain ⟨j, ys, g1, g2⟩ := h
    have q : i ≠ j := fun q => by
      subst q
      rw [List.getElem?_set_self (getElem?_lt hi)] at g1
      cases g1
    rw [List.getElem?_set_ne q] at g1
    exact ⟨⟨j, ys, g1, g2⟩, fun z => q (e.inj i j a xs ys hi g1 h1 (by rw [g2, z]))⟩
  have bn : ∀ b, Bn Z σ (ρ.set i (.dat (.lst xs))) b → Bn Z σ ρ b := fun b h => h.imp id fun h => (ow b h).1
  have me : σ.set i (some (V.ref a)) = σ := by
    obtain ⟨hl, hv⟩ := List.getElem?_eq_some_iff.mp h1
    rw [← hv]
    exact List.set_getElem_self hl
  have r : Rp C.K H (Bn Z σ (ρ.set i (.dat (.lst xs)))) (.ref a) (.lst xs) := .lst (.inl ⟨.inl h2, fun h => h.elim h4 fun h => (ow a h).2 rfl⟩) (h3.weak bn)
  have P : Stp σ ρ (ρ.set i (.dat (.lst xs))) H H := ⟨fun b o h _ n => ⟨h, fun q => n (ow b q).1⟩, fun b o h => ⟨o, h⟩⟩
  refine ⟨⟨by simp [e.len], fun j d' h => ?_, fun j ys h => ?_, fun j k a ys zs h1 h2 h3 h4 => ?_, e.zt, e.z0, fun p hp => ?_, e.keep, e.tr0, e.tab, fun b h => e.fresh b (ow b h).1⟩, P⟩
  · by_cases q : i = j
    · subst q
      rw [List.getElem?_set_self (getElem?_lt hi)] at h
      cases h
      exact ⟨_, h1, r⟩
    · rw [List.getElem?_set_ne q] at h
      obtain ⟨w, g1, g2⟩ := e.dat j d' h
      exact ⟨w, g1, g2.weak bn⟩
  · have q : i ≠ j := fun q => by
      subst q
      rw [List.getElem?_set_self (getElem?_lt hi)] at h
      cases h
    rw [List.getElem?_set_ne q] at h
    obtain ⟨b, us, g1, g2, g3, g4⟩ := e.own j ys h
    exact ⟨b, us, g1, g2, g3.weak bn, g4⟩
  · have q : i ≠ j := fun q => by
      subst q
      rw [List.getElem?_set_self (getElem?_lt hi)] at h1
      cases h1
    have q2 : i ≠ k := fun q => by
      subst q
      rw [List.getElem?_set_self (getElem?_lt hi)] at h2
      cases h2
    rw [List.getElem?_set_ne q] at h1
    rw [List.getElem?_set_ne q2] at h2
    exact e.inj j k a ys zs h1 h2 h3 h4
  · have q := (hio p hp).symm
    rw [List.getElem?_set_ne q]
    exact e.io p hp
end

/-! ### targets -/
mutual
/-- the slots that a target stores into -/
def T.ns : T → List Nat
  | .nm i => [i]
  | .tup ts => T.nsL ts
  | .sub _ _ => []
def T.nsL : List T → List Nat
  | [] => []
  | t :: ts => t.ns ++ T.nsL ts
end
def Off (ns : List Nat) (σ σ' : L2.St) : Prop := σ'.length = σ.length ∧ ∀ i, i ∉ ns → σ'[i]? = σ[i]?
theorem Off.refl {ns : List Nat} {σ : L2.St} : Off ns σ σ := ⟨rfl, fun _ _ => rfl⟩
theorem Off.app {n1 n2 : List Nat} {σ σ1 σ2 : L2.St} (a : Off n1 σ σ1) (b : Off n2 σ1 σ2) : Off (n1 ++ n2) σ σ2 :=
  ⟨b.1.trans a.1, fun i h => (b.2 i fun q => h (List.mem_append_right _ q)).trans (a.2 i fun q => h (List.mem_append_left _ q))⟩
def GoodU (C : Cc) (W : WX) (Z : Addr → Prop) (ns : List Nat) (σ : L2.St) (ρ : Env) (H : Hp) (r : R Unit) (k : L2.St → Env → Hp → Prop) : Prop := match r with
  | .ok _ ρ' => ∀ σ' H', EnvR C Z σ' ρ' H' → Stq σ ρ H σ' ρ' H' → Off ns σ σ' → k σ' ρ' H'
  | .exc c p ρ' => ∀ cls dd σ' H', EnvR C Z σ' ρ' H' → Stq σ ρ H σ' ρ' H' → Off ns σ σ' → ExR C H' (Bn Z σ' ρ') cls dd c p → W cls dd σ' H'
  | .stuck => False
section
variable {C : Cc} {W : WX} {Z : Addr → Prop} {ns n1 n2 : List Nat} {σ σ' : L2.St} {ρ ρ' : Env} {H H' : Hp}
theorem GoodU.ofR {α : Type} {r : R α} {f : α → Env → R Unit} {k : L2.St → Env → Hp → Prop} (h : GoodU C W Z ns σ ρ H (r.bind f) k) : Good C W Z σ ρ H r fun a ρ1 H1 => GoodU C W Z ns σ ρ1 H1 (f a ρ1) k := by
  cases r with
  | stuck => exact h
  | exc c p ρ1 => exact fun cls dd H1 e1 s1 => h cls dd σ H1 e1 s1 .refl
  | ok a ρ1 =>
    intro H1 e1 s1
    have h : GoodU C W Z ns σ ρ H (f a ρ1) k := h
    revert h
    cases f a ρ1 with
    | stuck => exact id
    | exc c p ρ2 => exact fun h cls dd σ2 H2 e2 s2 o x => h cls dd σ2 H2 e2 (s1.trans s2) o x
    | ok b ρ2 => exact fun h σ2 H2 e2 s2 o => h σ2 H2 e2 (s1.trans s2) o
theorem GoodU.bind {r : R Unit} {f : Unit → Env → R Unit} {k : L2.St → Env → Hp → Prop} (h : GoodU C W Z (n1 ++ n2) σ ρ H (r.bind f) k) : GoodU C W Z n1 σ ρ H r fun σ1 ρ1 H1 => GoodU C W Z n2 σ1 ρ1 H1 (f () ρ1) k := by
  cases r with
  | stuck => exact h
  | exc c p ρ1 => exact fun cls dd σ2 H2 e2 s2 o x => h cls dd σ2 H2 e2 s2 (o.app (.refl (ns := n2))) x
  | ok a ρ1 =>
    intro σ1 H1 e1 s1 o1
    have h : GoodU C W Z (n1 ++ n2) σ ρ H (f () ρ1) k := h
    revert h
    cases f () ρ1 with
    | stuck => exact id
    | exc c p ρ2 => exact fun h cls dd σ2 H2 e2 s2 o x => h cls dd σ2 H2 e2 (s1.trans s2) (o1.app o) x
    | ok b ρ2 => exact fun h σ2 H2 e2 s2 o => h σ2 H2 e2 (s1.trans s2) (o1.app o)
theorem GoodU.and {r : R Unit} {k k' : L2.St → Env → Hp → Prop} (h : GoodU C W Z ns σ ρ H r k) (f : ∀ σ1 ρ1 H1, EnvR C Z σ1 ρ1 H1 → Stq σ ρ H σ1 ρ1 H1 → Off ns σ σ1 → k σ1 ρ1 H1 → k' σ1 ρ1 H1) : GoodU C W Z ns σ ρ H r k' := by
  cases r with
  | stuck => exact h
  | exc c p ρ1 => exact h
  | ok a ρ1 => exact fun σ1 H1 e1 s1 o => f σ1 ρ1 H1 e1 s1 o (h σ1 H1 e1 s1 o)
end
def tG (C : Cc) (W : WX) (ns : List Nat) (g : D → Env → R Unit) : TG := fun v σ H Q => ∃ Z ρ d, EnvR C Z σ ρ H ∧ Rp C.K H (Bn Z σ ρ) v d ∧ GoodU C W Z ns σ ρ H (g d ρ) fun σ' _ H' => Q σ' H'
def tGs (C : Cc) (W : WX) (n : Nat) (ns : List Nat) (g : List D → Env → R Unit) : TGs := fun vs σ H Q => ∃ Z ρ ds, EnvR C Z σ ρ H ∧ RpL C.K H (Bn Z σ ρ) vs ds ∧ vs.length = n ∧ GoodU C W Z ns σ ρ H (g ds ρ) fun σ' _ H' => Q σ' H'
section
variable {X : Cx} {C : Cc} {W : WX} {Φ : Phi} {pos : Pos}
theorem _root_.L2.PG.imp {e : Expr} {t t' : TG} (h : PG X e t) (f : ∀ v σ H Q, t' v σ H Q → t v σ H Q) : PG X e t' := ⟨fun pins s σ H v u Q I r q => h.run pins s σ H v u Q I r (f _ _ _ _ q)⟩
theorem _root_.L2.PGs.imp {e : List Expr} {t t' : TGs} (h : PGs X e t) (f : ∀ v σ H Q, t' v σ H Q → t v σ H Q) : PGs X e t' := ⟨fun pins s σ H v u Q I r q => h.run pins s σ H v u Q I r (f _ _ _ _ q)⟩
theorem g_nm {i : Nat} {x : Str} (hio : ∀ p ∈ C.io, p.1 ≠ i) (h : PG X (.Name x pos) (gName i)) : PG X (.Name x pos) (tG C W (T.nm i).ns (evT Φ (.nm i))) := h.imp fun v σ H Q ⟨Z, ρ, d, e, r, g⟩ => by
  simp only [evT] at g
  split at g
  · rename_i s hs
    obtain ⟨e1, p1⟩ := e.setDat (getElem?_lt hs) hio r
    exact g _ _ e1 p1 ⟨by simp, fun j hj => List.getElem?_set_ne (fun q => hj (by simp [T.ns, q]))⟩
  · exact g.elim
theorem gs_nil : PGs X [] (tGs C W 0 (T.nsL []) (evTs Φ [])) := pgs_nil.imp fun vs σ H Q ⟨Z, ρ, ds, e, r, n, g⟩ => by
  cases r with
  | nil =>
    simp only [evTs] at g
    exact ⟨rfl, g _ _ e .refl .refl⟩
  | cons => simp at n
theorem gs_cons {t : T} {ts : List T} {x : Expr} {xs : List Expr} {n : Nat} (h : PG X x (tG C W t.ns (evT Φ t))) (hs : PGs X xs (tGs C W n (T.nsL ts) (evTs Φ ts))) (he : (assignEach (x :: xs) X.env).map (·.2) = assign x X.env :: (assignEach xs X.env).map (·.2)) :
    PGs X (x :: xs) (tGs C W (n + 1) (T.nsL (t :: ts)) (evTs Φ (t :: ts))) := (pgs_cons h hs he).imp fun vs σ H Q ⟨Z, ρ, ds, e, r, hn, g⟩ => by
  cases r with
  | nil => simp at hn
  | cons a b =>
    simp only [evTs, T.nsL] at g
    exact ⟨_, _, rfl, Z, ρ, _, e, a, g.bind.and fun σ1 ρ1 H1 e1 p1 _ k => ⟨Z, ρ1, _, e1, p1.rpl b, by simpa using hn, k⟩⟩
theorem _root_.L2.PG.or {e : Expr} {t t' : TG} (h : PG X e t) (h' : PG X e t') : PG X e fun v σ H Q => t v σ H Q ∨ t' v σ H Q := ⟨fun pins s σ H v u Q I r q => q.elim (h.run pins s σ H v u Q I r) (h'.run pins s σ H v u Q I r)⟩
theorem g_tup {ts : List T} {es : List Expr} {k : Nat} (hK : X.K = C.K) (hc : X.calm = true) (h : PGs X es (tGs C W es.length (T.nsL ts) (evTs Φ ts))) (hl : ts.length = es.length) (hn : (assignEach es X.env).length = es.length) (hst : (assignEach es X.env).findIdx? (·.1) = none) :
    PG X (.Tuple es k pos) (tG C W (T.tup ts).ns (evT Φ (.tup ts))) := ((pg_tup hc h hn hst).or (pg_unl hc h hn hst)).imp fun v σ H Q ⟨Z, ρ, d, e, r, g⟩ => by
  cases d with
  | tup ds =>
    simp only [evT, T.ns] at g
    split at g
    · rename_i hz
      obtain ⟨a, vs, rfl, s, _, l⟩ := r.rw.tup
      exact .inl ⟨a, vs, rfl, hK ▸ s, by rw [l.length, hz, hl], Z, ρ, ds, e, l, by rw [l.length, hz, hl], g⟩
    · exact g.elim
  | lst ds =>
    simp only [evT, T.ns] at g
    split at g
    · rename_i hz
      obtain ⟨a, vs, rfl, s, l⟩ := r.rw.lst
      exact .inr ⟨a, vs, rfl, hK ▸ s, by rw [l.length, hz, hl], Z, ρ, ds, e, l, by rw [l.length, hz, hl], g⟩
    · exact g.elim
  | _ =>
    simp only [evT] at g
    exact g.elim
theorem _root_.L2.PE.var {i : Nat} {x : Expr} (h : PE X x (tVar i)) : PE X x (tVar i) := h
theorem ixN_set {xs : List D} {n : Int} {d : D} {ys : List D} (h : setAt xs (.int n) d = some ys) : ∃ j, ixN xs.length n = some j ∧ ys = xs.set j d := by
  simp only [setAt] at h
  cases q : ixN xs.length n with
  | none =>
    rw [q] at h
    cases h
  | some j =>
    rw [q] at h
    cases h
    exact ⟨j, rfl, rfl⟩
theorem g_sub {i : Nat} {kE : E} {o k : Expr} (ho : PE X o (tVar i)) (hk : PE X k (tE C W (evE Φ kE)))
    (ha : ∀ v, assign (.Subscript o k pos) X.env v = (do
      let ov ← holding [v] (eval o X.env)
      let iv ← holding [v, ov] (eval k X.env)
      standAt pos
      holding [v, ov, iv] (setItem ov iv v)
      release [v, ov, iv] [])) : PG X (.Subscript o k pos) (tG C W (T.sub i kE).ns (evT Φ (.sub i kE))) := (pg_sub ho hk set_list ha).imp fun v σ H Q ⟨Z, ρ, d, e, r, g⟩ => by
  simp only [evT] at g
  split at g
  · rename_i xs0 hs0
    obtain ⟨a, vs0, h1, _, _, _⟩ := e.own i xs0 hs0
    refine ⟨_, h1, Z, ρ, e, g.ofR.and fun kv ρ1 H1 e1 s1 g1 w rw => ?_⟩
    split at g1
    · rename_i xs hs
      split at g1
      · rename_i ys hy
        cases kv with
        | int n =>
          cases rw
          obtain ⟨j, hj, rfl⟩ := ixN_set hy
          obtain ⟨a', vs, h1', h2, h3, h4⟩ := e1.own i xs hs
          rw [h1] at h1'
          cases h1'
          refine ⟨a, vs, n, j, rfl, rfl, h2, by rw [h3.length]; exact hj, ?_⟩
          obtain ⟨e2, s2⟩ := e1.setOwn hs h1 (h3.set j (s1.rp r))
          exact g1 _ _ e2 s2 .refl
        | _ => simp [setAt] at hy
      · exact g1.elim
    · exact g1.elim
  · exact g.elim
end
end Iv
set_option Elab.async false
set_option linter.all false
set_option maxRecDepth 100000
set_option maxHeartbeats 2000000
/-! Iv10: list comprehensions. -/
namespace Iv
open PySem PySem.Spec PyProof.Rows L2

theorem wipeE_length (ρ : Env) : ∀ ow, (wipeE ρ ow).length = ρ.length
  | [] => rfl
  | i :: r => by rw [wipeE, List.length_set, wipeE_length ρ r]
theorem wipeE_out {ρ : Env} {i : Nat} : ∀ {ow : List Nat}, i ∉ ow → (wipeE ρ ow)[i]? = ρ[i]?
  | [], _ => rfl
  | v :: vs, h => by
    rw [wipeE, List.getElem?_set_ne (fun e => h (by rw [e]; exact List.mem_cons_self))]
    exact wipeE_out fun m => h (List.mem_cons_of_mem _ m)
theorem wipeE_in {ρ : Env} {i : Nat} {s : Slot} : ∀ {ow : List Nat}, i ∈ ow → (wipeE ρ ow)[i]? = some s → s = .none
  | v :: vs, h, e => by
    rw [wipeE] at e
    by_cases q : v = i
    · subst q
      have hl : v < (wipeE ρ vs).length := by simpa using getElem?_lt e
      rw [List.getElem?_set_self hl] at e
      cases e
      rfl
    · rw [List.getElem?_set_ne q] at e
      exact wipeE_in ((List.mem_cons.mp h).resolve_left (fun z => q z.symm)) e
theorem wipe_in {σ : L2.St} {i : Nat} {v : V} {ow : List Nat} (h : i ∈ ow) : (wipe σ ow)[i]? ≠ some (some v) := fun e => (wipe_some e).2 h
theorem backE_length (ρ0 ρ : Env) : ∀ ow, (backE ρ0 ρ ow).length = ρ.length
  | [] => rfl
  | i :: r => by rw [backE, List.length_set, backE_length ρ0 ρ r]
theorem backE_out {ρ0 ρ : Env} {i : Nat} : ∀ {ow : List Nat}, i ∉ ow → (backE ρ0 ρ ow)[i]? = ρ[i]?
  | [], _ => rfl
  | v :: vs, h => by
    rw [backE, List.getElem?_set_ne (fun e => h (by rw [e]; exact List.mem_cons_self))]
    exact backE_out fun m => h (List.mem_cons_of_mem _ m)
theorem backE_in {ρ0 ρ : Env} {i : Nat} {s : Slot} (h0 : ρ0[i]? = some s) (hl : i < ρ.length) : ∀ {ow : List Nat}, i ∈ ow → (backE ρ0 ρ ow)[i]? = some s
  | v :: vs, h => by
    rw [backE]
    by_cases q : v = i
    · subst q
      rw [List.getElem?_set_self (by rw [backE_length]; exact hl), List.getD_eq_getElem?_getD, h0]
      rfl
    · rw [List.getElem?_set_ne q]
      exact backE_in h0 hl ((List.mem_cons.mp h).resolve_left (fun z => q z.symm))
theorem noOwn_at {ρ : Env} {ow : List Nat} {i : Nat} (h : noOwn ρ ow = true) (hi : i ∈ ow) : ∃ s, ρ[i]? = some s ∧ ∀ xs, s ≠ .own xs := by
  unfold noOwn at h
  have h := List.all_eq_true.mp h i hi
  split at h
  · cases h
  · rename_i _ s n hs
    exact ⟨s, hs, fun xs e => n xs (by rw [e])⟩
  · cases h
section
variable {C : Cc} {W : WX} {Z : Addr → Prop} {σ : L2.St} {ρ : Env} {H H' : Hp} {ow : List Nat}
theorem own_wipe (h : noOwn ρ ow = true) (b : Addr) : OwnA (wipe σ ow) (wipeE ρ ow) b ↔ OwnA σ ρ b := by
  constructor
  · rintro ⟨i, xs, h1, h2⟩
    have hn : i ∉ ow := fun z => by cases wipeE_in z h1
    rw [wipeE_out hn] at h1
    exact ⟨i, xs, h1, (wipe_some h2).1⟩
  · rintro ⟨i, xs, h1, h2⟩
    have hn : i ∉ ow := fun z => by
      obtain ⟨s, e, n⟩ := noOwn_at h z
      rw [h1] at e
      cases e
      exact n xs rfl
    exact ⟨i, xs, by rw [wipeE_out hn]; exact h1, by rw [wipe_out hn]; exact h2⟩
theorem EnvR.wipe (e : EnvR C Z σ ρ H) (h : noOwn ρ ow = true) : EnvR C Z (L2.wipe σ ow) (wipeE ρ ow) H := by
  have bn : ∀ b, Bn Z (L2.wipe σ ow) (wipeE ρ ow) b → Bn Z σ ρ b := fun b q => q.imp id (own_wipe h b).mp
  have out : ∀ {i s}, (wipeE ρ ow)[i]? = some s → s ≠ .none → i ∉ ow := fun h n z => n (wipeE_in z h)
  refine ⟨by rw [wipe_length, wipeE_length]; exact e.len, fun i d q => ?_, fun i xs q => ?_, fun i j a xs ys h1 h2 h3 h4 => ?_, e.zt, e.z0, fun p hp => ?_, e.keep, e.tr0, e.tab, fun b q => e.fresh b ((own_wipe h b).mp q)⟩
  · have n := out q (by simp)
    rw [wipeE_out n] at q
    obtain ⟨v, g1, g2⟩ := e.dat i d q
    exact ⟨v, by rw [wipe_out n]; exact g1, g2.weak bn⟩
  · have n := out q (by simp)
    rw [wipeE_out n] at q
    obtain ⟨a, vs, g1, g2, g3, g4⟩ := e.own i xs q
    exact ⟨a, vs, by rw [wipe_out n]; exact g1, g2, g3.weak bn, g4⟩
  · have n1 := out h1 (by simp)
    have n2 := out h2 (by simp)
    rw [wipeE_out n1] at h1
    rw [wipeE_out n2] at h2
    exact e.inj i j a xs ys h1 h2 (wipe_some h3).1 (wipe_some h4).1
  · obtain ⟨h1, xs, h2⟩ := e.io p hp
    have n : p.1 ∉ ow := fun z => by
      obtain ⟨s, g, n⟩ := noOwn_at h z
      rw [h2] at g
      cases g
      exact n xs rfl
    exact ⟨by rw [wipe_out n]; exact h1, xs, by rw [wipeE_out n]; exact h2⟩
/-- what is banned may change -/
theorem EnvR.updZ (e : EnvR C Z σ ρ H) {p : Addr} {o : HO} {us : List V} (hz : Z p) (h0 : C.H0 p = none) (hu : H p = some (.lst us)) : EnvR C Z σ ρ (upd H p o) := by
  have kp : ∀ b x, H b = some x → Nt x → ¬ Bn Z σ ρ b → upd H p o b = some x ∧ ¬ Bn Z σ ρ b := fun b x h _ n => ⟨by
    rw [upd_ne (fun q => by subst q; exact n (.inl hz))]
    exact h, n⟩
  refine ⟨e.len, fun i d q => ?_, fun i xs q => ?_, e.inj, fun b q => ?_, e.z0, e.io, fun b x q t n => ?_, fun b x q => ?_, tabs_upd e.tab hu, e.fresh⟩
  · obtain ⟨v, g1, g2⟩ := e.dat i d q
    exact ⟨v, g1, g2.keep kp⟩
  · obtain ⟨a, vs, g1, g2, g3, g4⟩ := e.own i xs q
    exact ⟨a, vs, g1, by rw [upd_ne (fun z => by subst z; exact g4 hz)]; exact g2, g3.keep kp, g4⟩
  · by_cases z : b = p
    · subst z
      exact ⟨o, upd_same⟩
    · obtain ⟨x, hx⟩ := e.zt b q
      exact ⟨x, by rw [upd_ne z]; exact hx⟩
  · rw [upd_ne (fun z => by subst z; rw [h0] at q; cases q)]
    exact e.keep b x q t n
  · obtain ⟨o', z⟩ := e.tr0 b x q
    by_cases y : b = p
    · subst y
      exact ⟨o, upd_same⟩
    · exact ⟨o', by rw [upd_ne y]; exact z⟩
/-- behind a comprehension -/
theorem EnvR.back {Z1 : Addr → Prop} {ρ1 : Env} {H1 : Hp} (e1 : EnvR C Z σ ρ1 H1) (e : EnvR C Z1 (L2.wipe σ ow) (wipeE ρ ow) H) (s : Stq σ ρ1 H1 (L2.wipe σ ow) (wipeE ρ ow) H) (n1 : noOwn ρ1 ow = true)
    (hz : ∀ b o, H1 b = some o → Z1 b → Z b) : EnvR C Z1 σ (backE ρ1 (wipeE ρ ow) ow) H ∧ ∀ b, OwnA σ (backE ρ1 (wipeE ρ ow) ow) b ↔ OwnA (L2.wipe σ ow) (wipeE ρ ow) b := by
  have hlen : (wipeE ρ ow).length = ρ1.length := by
    rw [e1.len.symm, e.len.symm, wipe_length]
  have bin : ∀ {i}, i ∈ ow → ∃ s, ρ1[i]? = some s ∧ (∀ xs, s ≠ .own xs) ∧ (backE ρ1 (wipeE ρ ow) ow)[i]? = some s := fun {i} hi => by
    obtain ⟨s, g, n⟩ := noOwn_at n1 hi
    exact ⟨s, g, n, backE_in g (by rw [hlen]; exact getElem?_lt g) hi⟩
  have oiff : ∀ b, OwnA σ (backE ρ1 (wipeE ρ ow) ow) b ↔ OwnA (L2.wipe σ ow) (wipeE ρ ow) b := fun b => by
    constructor
    · rintro ⟨i, xs, h1, h2⟩
      have n : i ∉ ow := fun z => by
        obtain ⟨s, _, n, g⟩ := bin z
        rw [h1] at g
        cases g
        exact n xs rfl
      rw [backE_out n] at h1
      exact ⟨i, xs, h1, by rw [wipe_out n]; exact h2⟩
    · rintro ⟨i, xs, h1, h2⟩
      have n : i ∉ ow := fun z => by cases wipeE_in z h1
      exact ⟨i, xs, by rw [backE_out n]; exact h1, (wipe_some h2).1⟩
  have bn : ∀ b, Bn Z1 σ (backE ρ1 (wipeE ρ ow) ow) b → Bn Z1 (L2.wipe σ ow) (wipeE ρ ow) b := fun b q => q.imp id (oiff b).mp
  refine ⟨⟨?_, fun i d q => ?_, fun i xs q => ?_, fun i j a xs ys h1 h2 h3 h4 => ?_, e.zt, e.z0, fun p hp => ?_, e.keep, e.tr0, e.tab, fun b q => e.fresh b ((oiff b).mp q)⟩, oiff⟩
  · rw [backE_length, hlen]
    exact e1.len
  · by_cases hi : i ∈ ow
    · obtain ⟨s', g, _, g2⟩ := bin hi
      rw [q] at g2
      cases g2
      obtain ⟨v, k1, k2⟩ := e1.dat i d g
      exact ⟨v, k1, k2.keep fun b o hb t hn => ⟨(s.keep b o hb t fun z => hn (.inr z)).1, fun z => (bn b z).elim (fun z => hn (.inl (hz b o hb z))) (s.keep b o hb t fun z => hn (.inr z)).2⟩⟩
    · rw [backE_out hi] at q
      obtain ⟨v, k1, k2⟩ := e.dat i d q
      exact ⟨v, (wipe_some k1).1, k2.weak bn⟩
  · have n : i ∉ ow := fun z => by
      obtain ⟨s, _, n, g⟩ := bin z
      rw [q] at g
      cases g
      exact n xs rfl
    rw [backE_out n] at q
    obtain ⟨a, vs, g1, g2, g3, g4⟩ := e.own i xs q
    exact ⟨a, vs, (wipe_some g1).1, g2, g3.weak bn, g4⟩
  · have on : ∀ {i xs}, (backE ρ1 (wipeE ρ ow) ow)[i]? = some (.own xs) → i ∉ ow := fun {i xs} h z => by
      obtain ⟨s, _, n, g⟩ := bin z
      rw [h] at g
      cases g
      exact n xs rfl
    have n1 := on h1
    have n2 := on h2
    rw [backE_out n1] at h1
    rw [backE_out n2] at h2
    exact e.inj i j a xs ys h1 h2 (by rw [wipe_out n1]; exact h3) (by rw [wipe_out n2]; exact h4)
  · obtain ⟨h1, xs, h2⟩ := e.io p hp
    have n : p.1 ∉ ow := fun z => by cases wipeE_in z h2
    exact ⟨(wipe_some h1).1, xs, by rw [backE_out n]; exact h2⟩
theorem wipe_eq {σ σ2 : L2.St} {ns : List Nat} (o : Off ns (L2.wipe σ ow) σ2) (h : ∀ i ∈ ns, i ∈ ow) : L2.wipe σ2 ow = L2.wipe σ ow := by
  have wi : ∀ (τ : L2.St) (i : Nat), i ∈ ow → (L2.wipe τ ow)[i]? = if i < τ.length then some none else none := fun τ i hi => by
    cases q : (L2.wipe τ ow)[i]? with
    | none =>
      have := List.getElem?_eq_none_iff.mp q
      rw [wipe_length] at this
      rw [if_neg (by omega)]
    | some x =>
      have := getElem?_lt q
      rw [wipe_length] at this
      rw [if_pos this]
      cases x with
      | none => rfl
      | some v => exact (wipe_in hi q).elim
  have hl := o.1
  rw [wipe_length] at hl
  apply List.ext_getElem?
  intro i
  by_cases hi : i ∈ ow
  · rw [wi _ _ hi, wi _ _ hi, hl]
  · rw [wipe_out hi, o.2 i (fun z => hi (h i z))]
end

def noW : WX := fun _ _ _ _ => False
theorem noExc_ok {α β : Type} {C : Cc} {W : WX} {Z : Addr → Prop} {σ : L2.St} {ρ : Env} {H : Hp} {r : R α} {f : α → Env → R β} {k : β → Env → Hp → Prop} (h : Good C W Z σ ρ H (noExc (r.bind f)) k) : ∃ a ρ2, r = .ok a ρ2 ∧ Good C W Z σ ρ H (noExc (f a ρ2)) k := by
  cases r with
  | ok a ρ2 => exact ⟨a, ρ2, rfl, h⟩
  | exc c p ρ2 => exact h.elim
  | stuck => exact h.elim
theorem bind_ok {α β : Type} {r : R α} {f : α → Env → R β} {b : β} {ρ' : Env} (h : r.bind f = .ok b ρ') : ∃ a ρ1, r = .ok a ρ1 ∧ f a ρ1 = .ok b ρ' := by
  cases r with
  | ok a ρ1 => exact ⟨a, ρ1, rfl, h⟩
  | exc c p ρ1 => cases h
  | stuck => cases h
theorem compL_ok {g : D → Env → R Unit} {c : Env → R Bool} {e : Env → R D} {ow : List Nat} {x : D} {r acc : List D} {ρ ρ2 : Env} {ys : List D} (h : compL g c e ow (x :: r) acc ρ = .ok ys ρ2) :
    noOwn ρ ow = true ∧ ∃ ρ1 b ρ3, g x (wipeE ρ ow) = .ok () ρ1 ∧ c ρ1 = .ok b ρ3 ∧ ((b = false ∧ compL g c e ow r acc ρ3 = .ok ys ρ2) ∨ (b = true ∧ ∃ d ρ4, e ρ3 = .ok d ρ4 ∧ acc.length < line ∧ compL g c e ow r (acc ++ [d]) ρ4 = .ok ys ρ2)) := by
  rw [compL] at h
  split at h
  · rename_i hn
    obtain ⟨_, ρ1, h1, h⟩ := bind_ok h
    obtain ⟨b, ρ3, h2, h⟩ := bind_ok h
    refine ⟨hn, ρ1, b, ρ3, h1, h2, ?_⟩
    cases b with
    | false => exact .inl ⟨rfl, h⟩
    | true =>
      obtain ⟨d, ρ4, h3, h⟩ := bind_ok (show (e ρ3).bind _ = _ from h)
      split at h
      · rename_i hl
        exact .inr ⟨rfl, d, ρ4, h3, hl, h⟩
      · cases h
  · cases h
theorem compL_no {g : D → Env → R Unit} {c : Env → R Bool} {e : Env → R D} {ow : List Nat} {xs acc : List D} {ρ ρ2 : Env} {ys : List D} (h : compL g c e ow xs acc ρ = .ok ys ρ2) : noOwn ρ ow = true := by
  cases xs with
  | nil =>
    rw [compL] at h
    split at h
    · assumption
    · cases h
  | cons x r => exact (compL_ok h).1
theorem drop_cons {α : Type} {xs : List α} {i : Nat} {x : α} (h : xs[i]? = some x) : xs.drop i = x :: xs.drop (i + 1) := by
  obtain ⟨h1, h2⟩ := List.getElem?_eq_some_iff.mp h
  rw [← h2]
  exact List.drop_eq_getElem_cons h1

section
variable {X : Cx} {C : Cc} {W : WX} {Φ : Phi} {pos : Pos}
theorem comp_read {ow : List Nat} {t : T} {it : It} {ifs : Option E} {e : E} (hns : ∀ i ∈ t.ns, i ∈ ow) {σ : L2.St} {H : Hp} {Q : VK} (h : tL C W (evL Φ (.comp ow t it ifs e)) σ H Q) :
    tLc (tI C W (evI Φ it)) (tG C noW t.ns (evT Φ t)) (tT C noW (evIf Φ ifs)) (tE C noW (evE Φ e)) ow σ H Q := by
  obtain ⟨Z, ρ, e0, g⟩ := h
  simp only [evL] at g
  refine ⟨Z, ρ, e0, g.bind.and fun xs ρ1 H1 e1 s1 k J P hJ hP D hD => ?_⟩
  have hDH : H D = none := back_of e0 e1 s1 D hD
  have hD0 := e0.new0 hDH
  obtain ⟨ys, ρ2, hc, k⟩ := noExc_ok k
  have n1 := compL_no hc
  have hZD : ∀ b o, H1 b = some o → (Z b ∨ b = D) → Z b := fun b o h z => z.elim id fun z => by
    subst z
    rw [hD] at h
    cases h
  refine ⟨fun i m H' => m = xs.length - i ∧ i ≤ xs.length ∧ ∃ ρi acc vs, EnvR C (fun b => Z b ∨ b = D) (L2.wipe σ ow) (wipeE ρi ow) H' ∧ compL (evT Φ t) (evIf Φ ifs) (evE Φ e) ow (xs.drop i) acc ρi = .ok ys ρ2 ∧
    H' D = some (.lst vs) ∧ RpL C.K H' (Bn (fun b => Z b ∨ b = D) (L2.wipe σ ow) (wipeE ρi ow)) vs acc ∧ Stq σ ρ1 H1 (L2.wipe σ ow) (wipeE ρi ow) H', ⟨xs.length, rfl, Nat.zero_le _, ρ1, [], [], (e1.addZ hD).wipe n1, hc, upd_same, .nil, ?_⟩, ?_⟩
  · have s := same_upd (H := H1) (o := HO.lst []) hD
    exact ⟨fun b o h _ n => ⟨s b o h, fun z => n ((own_wipe n1 b).mp z)⟩, fun b o h => ⟨o, s b o h⟩⟩
  · rintro i m H' ⟨rfl, hi, ρi, acc, vs, e', hc', hv, rv, sq⟩
    have ni := compL_no hc'
    have pk : P H' (Bn (fun b => Z b ∨ b = D) (L2.wipe σ ow) (wipeE ρi ow)) := hJ.keep _ _ _ _ hP fun b o h t n => ⟨(sq.keep b o h t fun z => n (.inr z)).1, fun z => z.elim (fun z => n (.inl (hZD b o h z))) (sq.keep b o h t fun z => n (.inr z)).2⟩
    by_cases hlt : i < xs.length
    · refine .inr ⟨hJ.go i H' _ pk hlt, fun H'' => xs.length - (i + 1) = xs.length - (i + 1) ∧ i + 1 ≤ xs.length ∧ ∃ ρi acc vs, EnvR C (fun b => Z b ∨ b = D) (L2.wipe σ ow) (wipeE ρi ow) H'' ∧ compL (evT Φ t) (evIf Φ ifs) (evE Φ e) ow (xs.drop (i + 1)) acc ρi = .ok ys ρ2 ∧
        H'' D = some (.lst vs) ∧ RpL C.K H'' (Bn (fun b => Z b ∨ b = D) (L2.wipe σ ow) (wipeE ρi ow)) vs acc ∧ Stq σ ρ1 H1 (L2.wipe σ ow) (wipeE ρi ow) H'', fun H'' q => ⟨_, by omega, q⟩, fun v H2 y => ?_⟩
      obtain ⟨d, hd, sm, rd⟩ := hJ.yld i H' _ v H2 pk e'.there hlt y
      rw [drop_cons hd] at hc'
      obtain ⟨_, ρ3, b, ρ4, c1, c2, c3⟩ := compL_ok hc'
      refine ⟨_, wipeE ρi ow, d, e'.grow sm, rd, ?_⟩
      rw [c1]
      intro σ3 H3 e3 s3 o3
      refine ⟨wipe_eq o3 hns, _, ρ3, e3, ?_⟩
      rw [c2]
      intro H4 e4 s4
      have sA : Stq (L2.wipe σ ow) (wipeE ρi ow) H' σ3 ρ4 H4 := ((Stq.same sm).trans s3).trans s4
      have nD : ∀ {τ : L2.St} {ϱ : Env} {G : Hp}, EnvR C (fun b => Z b ∨ b = D) τ ϱ G → ¬ OwnA τ ϱ D := fun {τ ϱ G} e z => by
        obtain ⟨j, zs, g1, g2⟩ := z
        obtain ⟨a, us, g3, _, _, g4⟩ := e.own j zs g1
        rw [g2] at g3
        cases g3
        exact g4 (.inr rfl)
      rcases c3 with ⟨rfl, c3⟩ | ⟨rfl, d2, ρ5, c3, c4, c5⟩
      · simp only [Bool.false_eq_true, if_false]
        have n4 := compL_no c3
        refine ⟨trivial, hlt, ρ4, acc, vs, ?_, c3, (sA.keep D _ hv (nt_lst _) (nD e')).1, ?_, ?_⟩
        · have := e4.wipe n4
          rw [wipe_eq o3 hns] at this
          exact this
        · refine (sA.rpl rv).weak fun b z => z.imp id fun z => ?_
          rw [← wipe_eq o3 hns] at z
          exact (own_wipe n4 b).mp z
        · have := sq.trans sA
          refine ⟨fun b o h t n => ⟨(this.keep b o h t n).1, fun z => (this.keep b o h t n).2 ?_⟩, this.tr⟩
          rw [← wipe_eq o3 hns] at z
          exact (own_wipe n4 b).mp z
      · simp only [if_true]
        refine ⟨_, ρ4, e4, ?_⟩
        rw [c3]
        intro H5 e5 s5 y5 r5
        have sB := sA.trans s5
        have n5 := compL_no c5
        refine ⟨vs, (sB.keep D _ hv (nt_lst _) (nD e')).1, by rw [rv.length]; exact c4, trivial, hlt, ρ5, acc ++ [d2], vs ++ [y5], ?_, c5, upd_same, ?_, ?_⟩
        · have := (e5.updZ (o := .lst (vs ++ [y5])) (.inr rfl) hD0 (sB.keep D _ hv (nt_lst _) (nD e')).1).wipe n5
          rw [wipe_eq o3 hns] at this
          exact this
        · refine (((sB.rpl rv).append (.one r5)).keep fun b o h _ n => ⟨?_, n⟩).weak fun b z => z.imp id fun z => ?_
          · rw [upd_ne (fun q => by subst q; exact n (.inl (.inr rfl)))]
            exact h
          · rw [← wipe_eq o3 hns] at z
            exact (own_wipe n5 b).mp z
        · have := sq.trans sB
          refine ⟨fun b o h t n => ⟨?_, fun z => (this.keep b o h t n).2 ?_⟩, fun b o h => ?_⟩
          · rw [upd_ne (fun q => by subst q; rw [hD] at h; cases h)]
            exact (this.keep b o h t n).1
          · rw [← wipe_eq o3 hns] at z
            exact (own_wipe n5 b).mp z
          · rw [upd_ne (fun q => by subst q; rw [hD] at h; cases h)]
            exact this.tr b o h
    · have hie : i = xs.length := by omega
      refine .inl ⟨hJ.stop i H' _ pk (by omega), ?_⟩
      rw [hie, List.drop_length, compL, if_pos ni] at hc'
      cases hc'
      obtain ⟨eb, ob⟩ := e1.back e' sq n1 hZD
      refine k H' (eb.weakZ (fun b z => .inl z) e1.z0) ⟨fun b o h t n => ⟨(sq.keep b o h t n).1, fun z => (sq.keep b o h t n).2 ((ob b).mp z)⟩, sq.tr⟩ D vs hDH eb hv ?_
      exact rv.weak fun b z => z.imp id (ob b).mp
/-- a comprehension's tests -/
theorem ts_none : PTs X [] (tT C W (evIf Φ none)) := ⟨fun pins s σ H Q I h => pts_nil.run pins s σ H Q I (by
  obtain ⟨Z, ρ, e, g⟩ := h
  simp only [evIf] at g
  exact g.now e)⟩
theorem ts_one {c : E} {x : Expr} (h : PT X x (tT C W (evC Φ c))) : PTs X [x] (tT C W (evIf Φ (some c))) := ⟨fun pins s σ H Q I q => (pts_one h).run pins s σ H Q I (by
  obtain ⟨Z, ρ, e, g⟩ := q
  simp only [evIf] at g
  exact ⟨Z, ρ, e, g⟩)⟩
theorem l_comp {elt tg iter : Expr} {ifx : List Expr} {scope : Scope} {own : List (Str × Nat)} {t : T} {it : It} {ifs : Option E} {e : E} (hc : X.calm = true) (hN : X.N.Nodup) (hi : PI X tg iter (tI C W (evI Φ it))) (ok : BlkOk X.N X.env.scope scope own)
    (hg : ∀ (s : Shared) (H : Hp) (A : Addr) (cl : List (Str × Addr)) (fp : List Addr), PG (X.blk s H scope (compEnvC scope cl A X.env) fp) tg (tG C noW t.ns (evT Φ t)))
    (ht : ∀ (s : Shared) (H : Hp) (A : Addr) (cl : List (Str × Addr)) (fp : List Addr), PTs (X.blk s H scope (compEnvC scope cl A X.env) fp) ifx (tT C noW (evIf Φ ifs)))
    (he : ∀ (s : Shared) (H : Hp) (A : Addr) (cl : List (Str × Addr)) (fp : List Addr), PE (X.blk s H scope (compEnvC scope cl A X.env) fp) elt (tE C noW (evE Φ e)))
    (hs : ∀ x, foldedSetIterable iter X.env x = pure x) (hns : ∀ i ∈ t.ns, i ∈ own.map (·.2)) :
    PE X (.ListComp elt [⟨tg, iter, ifx, 0⟩] scope pos) (tL C W (evL Φ (.comp (own.map (·.2)) t it ifs e))) := (pe_lc hc hN hi ok hg ht he hs).imp fun σ H Q h => comp_read hns h
theorem _root_.L2.PS.imp {e : Stmt} {t t' : TS} (h : PS X e t) (f : ∀ D σ H, t' D σ H → t D σ H) : PS X e t' := ⟨fun pins s σ H D I q => h.run pins s σ H D I (f _ _ _ q)⟩
theorem s_setLc {i : Nat} {y : Str} {py spos : Pos} {elt tg iter : Expr} {ifx : List Expr} {scope : Scope} {own : List (Str × Nat)} {t : T} {it : It} {ifs : Option E} {e : E} (hc : X.calm = true) (hN : X.N.Nodup) (hy : X.N[i]? = some y) (hyl : X.env.scope.names.lookup y = some .local)
    (hsw : swapsWith (.ListComp elt [⟨tg, iter, ifx, 0⟩] scope pos) (some (.Name y py)) spos.line X.env = pure true) (hi : PI X tg iter (tI C W (evI Φ it))) (ok : BlkOk X.N X.env.scope scope own)
    (hg : ∀ (s : Shared) (H : Hp) (A : Addr) (cl : List (Str × Addr)) (fp : List Addr), PG (X.blk s H scope (compEnvC scope cl A X.env) fp) tg (tG C noW t.ns (evT Φ t)))
    (ht : ∀ (s : Shared) (H : Hp) (A : Addr) (cl : List (Str × Addr)) (fp : List Addr), PTs (X.blk s H scope (compEnvC scope cl A X.env) fp) ifx (tT C noW (evIf Φ ifs)))
    (he : ∀ (s : Shared) (H : Hp) (A : Addr) (cl : List (Str × Addr)) (fp : List Addr), PE (X.blk s H scope (compEnvC scope cl A X.env) fp) elt (tE C noW (evE Φ e)))
    (hs : ∀ x, foldedSetIterable iter X.env x = pure x) (hns : ∀ i ∈ t.ns, i ∈ own.map (·.2)) :
    PS X (.Assign [.Name y py] (.ListComp elt [⟨tg, iter, ifx, 0⟩] scope pos) spos) (tAsg (tL C W (evL Φ (.comp (own.map (·.2)) t it ifs e))) (gName i)) := (ps_setLc hc hN hy hyl hsw hi ok hg ht he hs).imp fun D σ H h => comp_read hns h
end
end Iv
set_option Elab.async false
set_option linter.all false
set_option maxRecDepth 100000
set_option maxHeartbeats 2000000
/-! Iv11: arguments, statements. -/
namespace Iv
open PySem PySem.Spec PyProof.Rows L2

/-! ### arguments -/
/-- Zi: what was banned ahead; Z': what is banned behind -/
inductive AvL (C : Cc) (Z' : Addr → Prop) (σ : L2.St) (ρ : Env) (H : Hp) : (Addr → Prop) → List V → List AV → Prop
  | nil {Zi : Addr → Prop} : AvL C Z' σ ρ H Zi [] []
  | dat {Zi : Addr → Prop} {v : V} {d : D} {vs : List V} {as : List AV} : Rp C.K H (Bn Z' σ ρ) v d → AvL C Z' σ ρ H Zi vs as → AvL C Z' σ ρ H Zi (v :: vs) (.dat d :: as)
  | io {Zi : Addr → Prop} {v : V} {i : Nat} {vs : List V} {as : List AV} : σ[i]? = some (some v) → AvL C Z' σ ρ H Zi vs as → AvL C Z' σ ρ H Zi (v :: vs) (.io i :: as)
  | tmp {Zi : Addr → Prop} {p : Addr} {us : List V} {xs : List D} {vs : List V} {as : List AV} : ¬ Zi p → Z' p → H p = some (.lst us) → RpL C.K H (Bn Z' σ ρ) us xs → C.H0 p = none → AvL C Z' σ ρ H (fun b => Zi b ∨ b = p) vs as → AvL C Z' σ ρ H Zi (.ref p :: vs) (.tmp xs :: as)
def tA (C : Cc) (W : WX) (g : Env → R AV) : TE := fun σ H Q => ∃ Z ρ, EnvR C Z σ ρ H ∧ Good C W Z σ ρ H (g ρ) fun a ρ' H' => ∀ v Z', (∀ b, Z b → Z' b) → (∀ b o, H b = some o → Z' b → Z b) → EnvR C Z' σ ρ' H' → AvL C Z' σ ρ' H' Z [v] [a] → Q v H'
def tAs (C : Cc) (W : WX) (g : Env → R (List AV)) : TA := fun σ H Q => ∃ Z ρ, EnvR C Z σ ρ H ∧ Good C W Z σ ρ H (g ρ) fun as ρ' H' => ∀ vs Z', (∀ b, Z b → Z' b) → (∀ b o, H b = some o → Z' b → Z b) → EnvR C Z' σ ρ' H' → AvL C Z' σ ρ' H' Z vs as → Q vs H'
section
variable {C : Cc} {W : WX} {Z Zi Z1 Z2 : Addr → Prop} {σ : L2.St} {ρ ρ1 ρ2 : Env} {H H1 H2 : Hp} {vs : List V} {as : List AV}
theorem Stq.bnZ {σ1 : L2.St} (s : Stq σ ρ H σ1 ρ1 H1) (hz : ∀ b o, H b = some o → Z2 b → Z1 b) (b : Addr) (o : HO) (e : H b = some o) (t : Nt o) (n : ¬ Bn Z1 σ ρ b) : H1 b = some o ∧ ¬ Bn Z2 σ1 ρ1 b :=
  let q := s.keep b o e t fun z => n (.inr z)
  ⟨q.1, fun z => z.elim (fun z => n (.inl (hz b o e z))) q.2⟩
theorem EnvR.nown (e : EnvR C Z σ ρ H) {p : Addr} (h : Z p) : ¬ OwnA σ ρ p := fun z => by
  obtain ⟨j, zs, g1, g2⟩ := z
  obtain ⟨a, us, g3, _, _, g4⟩ := e.own j zs g1
  rw [g2] at g3
  cases g3
  exact g4 h
/-- the arguments behind further steps -/
theorem AvL.step (h : AvL C Z1 σ ρ1 H1 Zi vs as) (e1 : EnvR C Z1 σ ρ1 H1) (s : Stq σ ρ1 H1 σ ρ2 H2) (up : ∀ b, Z1 b → Z2 b) (hz : ∀ b o, H1 b = some o → Z2 b → Z1 b) : AvL C Z2 σ ρ2 H2 Zi vs as := by
  induction h with
  | nil => exact .nil
  | dat r _ ih => exact .dat (r.keep (s.bnZ hz)) ih
  | io r _ ih => exact .io r ih
  | tmp n z hp r h0 _ ih => exact .tmp n (up _ z) (s.keep _ _ hp (nt_lst _) (e1.nown z)).1 (r.keep (s.bnZ hz)) h0 ih
theorem AvL.zi (h : AvL C Z1 σ ρ H Zi vs as) : ∀ {Zj : Addr → Prop}, (∀ b, Zj b → Zi b) → AvL C Z1 σ ρ H Zj vs as := by
  induction h with
  | nil => exact fun _ => .nil
  | dat r _ ih => exact fun w => .dat r (ih w)
  | io r _ ih => exact fun w => .io r (ih w)
  | tmp n z hp r h0 _ ih => exact fun w => .tmp (fun q => n (w _ q)) z hp r h0 (ih fun b q => q.imp (w b) id)
theorem AvL.one {v : V} {a : AV} (h : AvL C Z1 σ ρ H Zi [v] [a]) (t : AvL C Z1 σ ρ H Z2 vs as) (hz : ∀ b, Zi b → Z2 b) (hp : ∀ b xs, a = .tmp xs → v = .ref b → Z2 b) : AvL C Z1 σ ρ H Zi (v :: vs) (a :: as) := by
  cases h with
  | dat r _ => exact .dat r (t.zi hz)
  | io r _ => exact .io r (t.zi hz)
  | tmp n z q r h0 _ => exact .tmp n z q r h0 (t.zi fun b w => w.elim (hz b) fun w => by
      subst w
      exact hp _ _ rfl rfl)
theorem AvL.tmpZ {v : V} {xs : List D} {b : Addr} (h : AvL C Z1 σ ρ H Zi [v] [.tmp xs]) (hv : v = .ref b) : Z1 b := by
  cases h with
  | tmp n z q r h0 _ =>
    cases hv
    exact z
end
section
variable {X : Cx} {C : Cc} {W : WX} {Φ : Phi} {x y : Expr} {xs : List Expr} {pos : Pos}
theorem a_ex {e : E} (h : PE X x (tE C W (evE Φ e))) : PE X x (tA C W (evA Φ (.ex e))) := h.imp fun σ H Q ⟨Z, ρ, e0, g⟩ => by
  simp only [evA] at g
  exact ⟨Z, ρ, e0, g.bind.and fun d ρ1 H1 e1 s1 k v r => k.now e1 v Z (fun _ z => z) (fun _ _ _ z => z) e1 (.dat r .nil)⟩
theorem a_io {i : Nat} (h : PE X x (tVar i)) : PE X x (tA C W (evA Φ (.io i))) := h.imp fun σ H Q ⟨Z, ρ, e, g⟩ => by
  simp only [evA] at g
  split at g
  · rename_i ys hi
    obtain ⟨a, vs, h1, _⟩ := e.own i ys hi
    exact ⟨_, h1, g.now e _ Z (fun _ z => z) (fun _ _ _ z => z) e (.io h1 .nil)⟩
  · exact g.elim
theorem a_fr {l : LE} (h : PE X x (tL C W (evL Φ l))) : PE X x (tA C W (evA Φ (.fr l))) := h.imp fun σ H Q ⟨Z, ρ, e, g⟩ => by
  simp only [evA] at g
  refine ⟨Z, ρ, e, g.bind.and fun ds ρ1 H1 e1 s1 k p vs hp e2 h2 r => ?_⟩
  exact k.now e1 (.ref p) _ (fun b z => .inl z) (fun b o h z => z.elim id fun z => by
    subst z
    rw [hp] at h
    cases h) e2 (.tmp (fun z => by
    obtain ⟨o, q⟩ := e.zt p z
    rw [hp] at q
    cases q) (.inr rfl) h2 r (e.new0 hp) .nil)
theorem as_nil : PA X [] (tAs C W (evAs Φ [])) := pa_nil.imp fun σ H Q ⟨Z, ρ, e, g⟩ => by
  simp only [evAs] at g
  exact g.now e _ Z (fun _ z => z) (fun _ _ _ z => z) e .nil
theorem as_cons {a : A} {as : List A} (hc : PA X (x :: xs) (tCons (tA C W (evA Φ a)) (tAs C W (evAs Φ as)))) : PA X (x :: xs) (tAs C W (evAs Φ (a :: as))) := hc.imp fun σ H Q ⟨Z, ρ, e, g⟩ => by
  simp only [evAs] at g
  refine ⟨Z, ρ, e, g.bind.and fun av ρ1 H1 e1 s1 k v Z1 up hz e1' r => ?_⟩
  refine ⟨Z1, ρ1, e1', (k.bind.upZ up e1.z0).and fun avs ρ2 H2 e2 s2 k2 vs Z2 up2 hz2 e2' rs => ?_⟩
  have hzz : ∀ b o, H b = some o → Z2 b → Z b := fun b o h z => by
    obtain ⟨o', h'⟩ := s1.tr b o h
    exact hz b o h (hz2 b o' h' z)
  refine k2.now (e2.weakZ up e1.z0) _ Z2 (fun b z => up2 b (up b z)) hzz e2' ?_
  exact (r.step e1' s2 up2 hz2).one rs up fun b ys ha hv => by
    subst ha
    exact r.tmpZ hv
end

/-! ### statements -/
/-- the lists that a def was lent, as they stand -/
def IoR (C : Cc) (B : Addr → Prop) (ρ : Env) (H : Hp) : Prop := ∀ q ∈ C.io, ∀ xs, ρ[q.1]? = some (.own xs) → ∃ us, H q.2 = some (.lst us) ∧ RpL C.K H B us xs
/-- what a def hands back -/
def RetOk (C : Cc) (Z : Addr → Prop) (ρ : Env) (H : Hp) (v : V) (d : D) : Prop := Rp C.K H (fun b => Z b ∨ ∃ p ∈ C.io, p.2 = b) v d ∧
  (C.fr = true → ∃ p vs ds, v = .ref p ∧ d = .lst ds ∧ H p = some (.lst vs) ∧ C.H0 p = none ∧ RpL C.K H (fun b => (Z b ∨ ∃ p ∈ C.io, p.2 = b) ∨ b = p) vs ds ∧ IoR C (fun b => (Z b ∨ ∃ p ∈ C.io, p.2 = b) ∨ b = p) ρ H)
def GoodS (C : Cc) (W : WX) (Z : Addr → Prop) (σ : L2.St) (ρ : Env) (H : Hp) (r : SR) (D : Ends) : Prop := match r with
  | .nx ρ' => ∀ σ' H', EnvR C Z σ' ρ' H' → Stq σ ρ H σ' ρ' H' → D.nx σ' H'
  | .bk ρ' => ∀ σ' H', EnvR C Z σ' ρ' H' → Stq σ ρ H σ' ρ' H' → D.bk σ' H'
  | .ct ρ' => ∀ σ' H', EnvR C Z σ' ρ' H' → Stq σ ρ H σ' ρ' H' → D.ct σ' H'
  | .rt d ρ' => ∀ σ' H' v, EnvR C Z σ' ρ' H' → Stq σ ρ H σ' ρ' H' → RetOk C Z ρ' H' v d → D.rt v H'
  | .exc c p ρ' => ∀ cls dd σ' H', EnvR C Z σ' ρ' H' → Stq σ ρ H σ' ρ' H' → ExR C H' (Bn Z σ' ρ') cls dd c p → W cls dd σ' H'
  | .stuck => False
def tS (C : Cc) (W : WX) (g : Env → SR) : TS := fun D σ H => ∃ Z ρ, EnvR C Z σ ρ H ∧ GoodS C W Z σ ρ H (g ρ) D
section
variable {C : Cc} {W : WX} {Z : Addr → Prop} {ns : List Nat} {σ σ1 : L2.St} {ρ ρ1 : Env} {H H1 : Hp} {D : Ends}
theorem GoodS.shift {r : SR} (s : Stq σ ρ H σ1 ρ1 H1) (h : GoodS C W Z σ ρ H r D) : GoodS C W Z σ1 ρ1 H1 r D := by
  cases r with
  | nx ρ2 => exact fun σ2 H2 e2 s2 => h σ2 H2 e2 (s.trans s2)
  | bk ρ2 => exact fun σ2 H2 e2 s2 => h σ2 H2 e2 (s.trans s2)
  | ct ρ2 => exact fun σ2 H2 e2 s2 => h σ2 H2 e2 (s.trans s2)
  | rt d ρ2 => exact fun σ2 H2 v e2 s2 => h σ2 H2 v e2 (s.trans s2)
  | exc c p ρ2 => exact fun cls dd σ2 H2 e2 s2 => h cls dd σ2 H2 e2 (s.trans s2)
  | stuck => exact h
theorem GoodS.ofR {α : Type} {r : R α} {k : α → Env → SR} (h : GoodS C W Z σ ρ H (r.seq k) D) : Good C W Z σ ρ H r fun a ρ1 H1 => GoodS C W Z σ ρ1 H1 (k a ρ1) D := by
  cases r with
  | ok a ρ1 => exact fun H1 e1 s1 => GoodS.shift s1 (show GoodS C W Z σ ρ H (k a ρ1) D from h)
  | exc c p ρ1 => exact fun cls dd H1 e1 s1 => h cls dd σ H1 e1 s1
  | stuck => exact h
theorem GoodS.ofU {r : R Unit} {k : Unit → Env → SR} (h : GoodS C W Z σ ρ H (r.seq k) D) : GoodU C W Z ns σ ρ H r fun σ1 ρ1 H1 => GoodS C W Z σ1 ρ1 H1 (k () ρ1) D := by
  cases r with
  | ok a ρ1 => exact fun σ1 H1 e1 s1 _ => GoodS.shift s1 (show GoodS C W Z σ ρ H (k () ρ1) D from h)
  | exc c p ρ1 => exact fun cls dd σ1 H1 e1 s1 _ => h cls dd σ1 H1 e1 s1
  | stuck => exact h
theorem GoodS.seq {r : SR} {k : Env → SR} (h : GoodS C W Z σ ρ H (r.seq k) D) : GoodS C W Z σ ρ H r { D with nx := tS C W k D } := by
  cases r with
  | nx ρ2 => exact fun σ2 H2 e2 s2 => ⟨Z, ρ2, e2, GoodS.shift s2 (show GoodS C W Z σ ρ H (k ρ2) D from h)⟩
  | bk ρ2 => exact h
  | ct ρ2 => exact h
  | rt d ρ2 => exact h
  | exc c p ρ2 => exact h
  | stuck => exact h
theorem GoodS.nxt (e : EnvR C Z σ1 ρ1 H1) (s : Stq σ ρ H σ1 ρ1 H1) (h : GoodS C W Z σ ρ H (.nx ρ1) D) : D.nx σ1 H1 := h σ1 H1 e s
end
section
variable {X : Cx} {C : Cc} {W : WX} {Φ : Phi} {x y : Expr} {st : Stmt} {rest sts sts' : List Stmt} {pos : Pos}
theorem _root_.L2.PSs.imp {e : List Stmt} {t t' : TS} (h : PSs X e t) (f : ∀ D σ H, t' D σ H → t D σ H) : PSs X e t' := ⟨fun pins s σ H D I q => h.run pins s σ H D I (f _ _ _ q)⟩
theorem ss_nil : PSs X [] (tS C W (evS.go Φ [])) := pss_nil.imp fun D σ H ⟨Z, ρ, e, g⟩ => by
  simp only [evS.go] at g
  exact g.nxt e .refl
theorem ss_cons {s : S} {ss : List S} (h : PS X st (tS C W (evS Φ s))) (hs : PSs X rest (tS C W (evS.go Φ ss))) : PSs X (st :: rest) (tS C W (evS.go Φ (s :: ss))) := (pss_cons h hs).imp fun D σ H ⟨Z, ρ, e, g⟩ => by
  simp only [evS.go] at g
  exact ⟨Z, ρ, e, g.seq⟩
/-- no code -/
theorem ss_frz {i : Nat} {ss : List S} (hio : ∀ p ∈ C.io, p.1 ≠ i) (hs : PSs X rest (tS C W (evS.go Φ ss))) : PSs X rest (tS C W (evS.go Φ (.frz i :: ss))) := hs.imp fun D σ H ⟨Z, ρ, e, g⟩ => by
  simp only [evS.go, evS] at g
  unfold frzE at g
  split at g
  · rename_i xs hx
    obtain ⟨e1, s1⟩ := e.frz hx hio
    exact ⟨Z, _, e1, GoodS.shift s1 g⟩
  · exact ⟨Z, ρ, e, g⟩
theorem s_pass : PS X (.Pass pos) (tS C W (evS Φ .pass)) := ps_pass.imp fun D σ H ⟨Z, ρ, e, g⟩ => by
  simp only [evS] at g
  exact g.nxt e .refl
theorem s_doc {z : Str} {j p p'} : PS X (.Expr (.Constant (.str z) j p) p') (tS C W (evS Φ .pass)) := ps_doc.imp fun D σ H ⟨Z, ρ, e, g⟩ => by
  simp only [evS] at g
  exact g.nxt e .refl
theorem s_brk : PS X (.Break pos) (tS C W (evS Φ .brk)) := ps_break.imp fun D σ H ⟨Z, ρ, e, g⟩ => by
  simp only [evS] at g
  exact g _ _ e .refl
theorem s_cont : PS X (.Continue pos) (tS C W (evS Φ .cont)) := ps_continue.imp fun D σ H ⟨Z, ρ, e, g⟩ => by
  simp only [evS] at g
  exact g _ _ e .refl
theorem s_never : PS X st (tS C W (evS Φ .never)) := ps_never.imp fun D σ H ⟨Z, ρ, e, g⟩ => by
  simp only [evS] at g
  exact g
theorem s_expr {e : E} (h : PE X x (tE C W (evE Φ e))) (hs : swapsWith x none pos.line X.env = pure false) : PS X (.Expr x pos) (tS C W (evS Φ (.expr e))) := (ps_expr h hs).imp fun D σ H ⟨Z, ρ, e0, g⟩ => by
  simp only [evS] at g
  exact ⟨Z, ρ, e0, g.ofR.and fun d ρ1 H1 e1 s1 k v r => k.nxt e1 .refl⟩
theorem s_if {c : E} {a b : List S} (hc : PT X x (tT C W (evC Φ c))) (ha : PSs X sts (tS C W (evS.go Φ a))) (hb : PSs X sts' (tS C W (evS.go Φ b))) : PS X (.If x sts sts' pos) (tS C W (evS Φ (.ifs c a b))) := (ps_if hc ha hb).imp fun D σ H ⟨Z, ρ, e0, g⟩ => by
  simp only [evS] at g
  refine ⟨Z, ρ, e0, g.ofR.and fun k ρ1 H1 e1 s1 g1 => ?_⟩
  cases k with
  | true => exact ⟨Z, ρ1, e1, g1⟩
  | false => exact ⟨Z, ρ1, e1, g1⟩

/-! ### stores -/
theorem asg_read {t : T} {e : E} {D : Ends} {σ : L2.St} {H : Hp} (h : tS C W (evS Φ (.asg t e)) D σ H) : tAsg (tE C W (evE Φ e)) (tG C W t.ns (evT Φ t)) D σ H := by
  obtain ⟨Z, ρ, e0, g⟩ := h
  simp only [evS] at g
  exact ⟨Z, ρ, e0, g.ofR.and fun d ρ1 H1 e1 s1 k v r => ⟨Z, ρ1, d, e1, r, k.ofU.and fun σ2 ρ2 H2 e2 s2 _ k2 => k2.nxt e2 .refl⟩⟩
theorem asgN_read {i : Nat} {e : E} (hio : ∀ p ∈ C.io, p.1 ≠ i) {D : Ends} {σ : L2.St} {H : Hp} (h : tS C W (evS Φ (.asg (.nm i) e)) D σ H) : tAsg (tE C W (evE Φ e)) (gName i) D σ H := by
  obtain ⟨Z, ρ, e0, g⟩ := h
  simp only [evS] at g
  refine ⟨Z, ρ, e0, g.ofR.and fun d ρ1 H1 e1 s1 k v r => ?_⟩
  simp only [evT] at k
  split at k
  · rename_i s hs
    obtain ⟨e2, s2⟩ := e1.setDat (getElem?_lt hs) hio r
    exact k.nxt e2 s2
  · exact k.elim
theorem asgL_read {i : Nat} {l : LE} (hio : ∀ p ∈ C.io, p.1 ≠ i) {D : Ends} {σ : L2.St} {H : Hp} (h : tS C W (evS Φ (.asg (.nm i) (.ofL l))) D σ H) : tAsg (tL C W (evL Φ l)) (gName i) D σ H := by
  obtain ⟨Z, ρ, e0, g⟩ := h
  simp only [evS, evE] at g
  refine ⟨Z, ρ, e0, g.ofR.bind.and fun ds ρ1 H1 e1 s1 k p vs hp e2 h2 r => ?_⟩
  have k := k.now e1
  simp only [evT] at k
  split at k
  · rename_i s hs
    have hz : ¬ Z p := fun z => by
      obtain ⟨o, q⟩ := e0.zt p z
      rw [hp] at q
      cases q
    have np : ¬ OwnA σ ρ1 p := fun z => e2.nown (.inr rfl) z
    have rr : Rp C.K H1 (Bn Z σ ρ1) (.ref p) (.lst ds) := .lst (.inl ⟨.inl h2, fun z => z.elim hz np⟩) (r.weak fun b z => z.imp .inl id)
    obtain ⟨e3, s3⟩ := e1.setDat (getElem?_lt hs) hio rr
    exact k.nxt e3 s3
  · exact k.elim
/-- a new list into a slot, the step -/
theorem new_step {Z : Addr → Prop} {σ σ0 : L2.St} {ρ ρ0 : Env} {H H0 : Hp} {i : Nat} {p : Addr} {xs : List D} (s : Stq σ0 ρ0 H0 σ ρ H) (hp : H0 p = none) : Stq σ0 ρ0 H0 (σ.set i (some (.ref p))) (ρ.set i (.own xs)) H :=
  ⟨fun b o h t n => ⟨(s.keep b o h t n).1, fun z => by
    rcases own_set z with ⟨_, q⟩ | ⟨j, ys, _, h1, h2⟩
    · cases q
      rw [hp] at h
      cases h
    · exact (s.keep b o h t n).2 ⟨j, ys, h1, h2⟩⟩, s.tr⟩
theorem asgo_read {i : Nat} {l : LE} (hio : ∀ p ∈ C.io, p.1 ≠ i) {D : Ends} {σ : L2.St} {H : Hp} (h : tS C W (evS Φ (.asgo i l)) D σ H) : tAsg (tL C W (evL Φ l)) (gName i) D σ H := by
  obtain ⟨Z, ρ, e0, g⟩ := h
  simp only [evS] at g
  cases hr : evL Φ l ρ with
  | stuck =>
    rw [hr] at g
    exact g.elim
  | exc c p ρ1 =>
    rw [hr] at g
    refine ⟨Z, ρ, e0, ?_⟩
    rw [hr]
    exact fun cls dd H1 e1 s1 x => g cls dd σ H1 e1 s1 x
  | ok ds ρ1 =>
    rw [hr] at g
    refine ⟨Z, ρ, e0, ?_⟩
    rw [hr]
    intro H1 e1 s1 p vs hp e2 h2 r
    have g : GoodS C W Z σ ρ H (if i < ρ1.length then .nx (ρ1.set i (.own ds)) else .stuck) D := g
    split at g
    · rename_i hi
      have hz : ¬ Z p := fun z => by
        obtain ⟨o, q⟩ := e0.zt p z
        rw [hp] at q
        cases q
      exact g.nxt (e2.setNew hi hio e0.z0 hz (e0.new0 hp) h2 r) (new_step (Z := Z) s1 hp)
    · exact g.elim
theorem s_set {i : Nat} {z : Str} {pos' : Pos} {e : E} (hio : ∀ p ∈ C.io, p.1 ≠ i) (hN : X.N.Nodup) (hi : X.N[i]? = some z) (hx : Loc X.env.scope z) (hf : X.fn z = true ∨ X.env.scope.names.lookup z = some .local) (h : PE X x (tE C W (evE Φ e)))
    (hs : swapsWith x (some (.Name z pos')) pos.line X.env = pure false) : PS X (.Assign [.Name z pos'] x pos) (tS C W (evS Φ (.asg (.nm i) e))) := (ps_set hN hi hx h hs hf).imp fun D σ H h => asgN_read hio h
theorem s_seto {i : Nat} {z : Str} {pos' : Pos} {l : LE} (hio : ∀ p ∈ C.io, p.1 ≠ i) (hN : X.N.Nodup) (hi : X.N[i]? = some z) (hx : Loc X.env.scope z) (hf : X.fn z = true ∨ X.env.scope.names.lookup z = some .local) (h : PE X x (tL C W (evL Φ l)))
    (hs : swapsWith x (some (.Name z pos')) pos.line X.env = pure false) : PS X (.Assign [.Name z pos'] x pos) (tS C W (evS Φ (.asgo i l))) := (ps_set hN hi hx h hs hf).imp fun D σ H h => asgo_read hio h
theorem s_asg {t : T} {e : E} (h : PE X x (tE C W (evE Φ e))) (ht : PG X y (tG C W t.ns (evT Φ t))) (hs : swapsWithSole [y] x pos.line X.env = pure false) (hw : swappedStores [y] x X.env = pure none)
    (h1 : (assignEach [y] X.env).map (·.2) = [assign y X.env]) : PS X (.Assign [y] x pos) (tS C W (evS Φ (.asg t e))) := (ps_asg h ht hs hw h1).imp fun D σ H h => asg_read h
/-- a pair of names, stored from the right -/
theorem putA_ok {Z' : Addr → Prop} {σ σ0 : L2.St} {ρ ρ0 ρ' : Env} {H H0 : Hp} {i : Nat} {v : V} {a : AV} {Z : Addr → Prop} (hio : ∀ p ∈ C.io, p.1 ≠ i) (e : EnvR C Z' σ ρ H) (z0 : ∀ b, C.Z0 b → Z b) (r : AvL C Z' σ ρ H Z [v] [a])
    (hz : ∀ b, Z b → Z' b) (hp : putA ρ i a = some ρ') (s : Stq σ0 ρ0 H0 σ ρ H) (hn : ∀ b o, H0 b = some o → Z' b → Z b) :
    ∃ Z1 : Addr → Prop, EnvR C Z1 (σ.set i (some v)) ρ' H ∧ Stq σ0 ρ0 H0 (σ.set i (some v)) ρ' H ∧ (∀ b, Z b → Z1 b) ∧ (∀ b, Z1 b → Z' b) ∧ (∀ b, Z' b → Z1 b ∨ ∃ xs, a = .tmp xs ∧ v = .ref b) := by
  cases r with
  | dat r _ =>
    rw [putA] at hp
    split at hp
    · rename_i hl
      cases hp
      obtain ⟨e1, s1⟩ := e.setDat hl hio r
      exact ⟨Z', e1, s.trans s1, hz, fun b h => h, fun b h => .inl h⟩
    · cases hp
  | io r _ => cases hp
  | tmp n z q r h0 _ =>
    rename_i p us xs _
    rw [putA] at hp
    split at hp
    · rename_i hl
      cases hp
      have e' : EnvR C (fun b => (Z' b ∧ b ≠ p) ∨ b = p) σ ρ H := e.weakZ (fun b w => w.elim (fun w => w.1) fun w => by rw [w]; exact z) (fun b w => by
        by_cases q : b = p
        · exact .inr q
        · exact .inl ⟨hz b (z0 b w), q⟩)
      have z0' : ∀ b, C.Z0 b → Z' b ∧ b ≠ p := fun b w => ⟨hz b (z0 b w), fun q => by
        subst q
        exact n (z0 _ w)⟩
      have hp0 : H0 p = none := by
        cases w : H0 p with
        | none => rfl
        | some o => exact (n (hn p o w z)).elim
      exact ⟨fun b => Z' b ∧ b ≠ p, e'.setNew hl hio z0' (fun w => w.2 rfl) h0 q (r.weak fun b w => w.imp (fun w => w.elim (fun w => w.1) fun w => by rw [w]; exact z) id), new_step (Z := Z) s hp0, fun b w => ⟨hz b w, fun q => by
        subst q
        exact n w⟩, fun b w => w.1, fun b w => by
        by_cases q : b = p
        · subst q
          exact .inr ⟨_, rfl, rfl⟩
        · exact .inl ⟨w, q⟩⟩
    · cases hp
theorem AvL.tail {Z1 Zi : Addr → Prop} {σ : L2.St} {ρ : Env} {H : Hp} {v : V} {a : AV} {vs : List V} {as : List AV} (h : AvL C Z1 σ ρ H Zi (v :: vs) (a :: as)) : AvL C Z1 σ ρ H Zi [v] [a] ∧ ∃ Zj, (∀ b, Zi b → Zj b) ∧ (∀ b xs, a = .tmp xs → v = .ref b → Zj b) ∧ AvL C Z1 σ ρ H Zj vs as := by
  cases h with
  | dat r t => exact ⟨.dat r .nil, Zi, fun _ h => h, fun b xs q => (nomatch q), t⟩
  | io r t => exact ⟨.io r .nil, Zi, fun _ h => h, fun b xs q => (nomatch q), t⟩
  | tmp n z q r h0 t => exact ⟨.tmp n z q r h0 .nil, _, fun _ h => .inl h, fun b xs q w => by
      cases w
      exact .inr rfl, t⟩
theorem putA_own {σ : L2.St} {ρ ρ' : Env} {i : Nat} {v : V} {a : AV} {b : Addr} (hp : putA ρ i a = some ρ') (h : OwnA (σ.set i (some v)) ρ' b) : (∃ xs, a = .tmp xs ∧ v = .ref b) ∨ OwnA σ ρ b := by
  cases a with
  | dat d =>
    rw [putA] at hp
    split at hp
    · cases hp
      rcases own_set h with ⟨⟨_, q⟩, _⟩ | ⟨j, ys, _, h1, h2⟩
      · cases q
      · exact .inr ⟨j, ys, h1, h2⟩
    · cases hp
  | io k => cases hp
  | tmp xs =>
    rw [putA] at hp
    split at hp
    · cases hp
      rcases own_set h with ⟨_, q⟩ | ⟨j, ys, _, h1, h2⟩
      · exact .inl ⟨xs, rfl, q⟩
      · exact .inr ⟨j, ys, h1, h2⟩
    · cases hp
theorem par_read {i j : Nat} {a b : A} (hi : ∀ p ∈ C.io, p.1 ≠ i) (hj : ∀ p ∈ C.io, p.1 ≠ j) {D : Ends} {σ : L2.St} {H : Hp} (h : tS C W (evS Φ (.par i j a b)) D σ H) : tPar i j (tCons (tA C W (evA Φ a)) (tCons (tA C W (evA Φ b)) tNil)) D σ H := by
  obtain ⟨Z, ρ, e0, g⟩ := h
  simp only [evS] at g
  refine ⟨Z, ρ, e0, ?_⟩
  cases hr : evA Φ a ρ with
  | stuck =>
    rw [hr] at g
    exact g.elim
  | exc c p ρ1 =>
    rw [hr] at g
    exact fun cls dd H1 e1 s1 x => g cls dd σ H1 e1 s1 x
  | ok x ρ1 =>
    rw [hr] at g
    intro H1 e1 s1 v Z1 up1 hz1 e1' r1
    have g : GoodS C W Z σ ρ H ((evA Φ b ρ1).seq fun y ρ2 => match putA ρ2 i x with | some ρ3 => (match putA ρ3 j y with | some ρ4 => .nx ρ4 | none => .stuck) | none => .stuck) D := g
    refine ⟨Z1, ρ1, e1', ?_⟩
    cases hr2 : evA Φ b ρ1 with
    | stuck =>
      rw [hr2] at g
      exact g.elim
    | exc c p ρ2 =>
      rw [hr2] at g
      intro cls dd H2 e2 s2 x
      refine g cls dd σ H2 (e2.weakZ up1 e0.z0) (s1.trans s2) ?_
      obtain ⟨x1, d, vfs, x2, x3, x4⟩ := x
      exact ⟨x1, d, vfs, x2, x3, Paired.mapP x4 fun a b q => ⟨q.1, q.2.weak fun b q => q.imp (up1 b) id⟩⟩
    | ok y ρ2 =>
      rw [hr2] at g
      intro H2 e2 s2 w Z2 up2 hz2 e2' r2
      refine ⟨v, w, rfl, ?_⟩
      have g : GoodS C W Z σ ρ H (match putA ρ2 i x with | some ρ3 => (match putA ρ3 j y with | some ρ4 => .nx ρ4 | none => .stuck) | none => .stuck) D := g
      cases hp1 : putA ρ2 i x with
      | none =>
        rw [hp1] at g
        exact g.elim
      | some ρ3 =>
        simp only [hp1] at g
        cases hp2 : putA ρ3 j y with
        | none =>
          rw [hp2] at g
          exact g.elim
        | some ρ4 =>
          simp only [hp2] at g
          have hz12 : ∀ b o, H b = some o → Z2 b → Z b := fun b o h z => by
            obtain ⟨o', h'⟩ := s1.tr b o h
            exact hz1 b o h (hz2 b o' h' z)
          have r1' := r1.step e1' s2 up2 hz2
          obtain ⟨Z3, e3, s3, z3, z3d, z3u⟩ := putA_ok hi e2' e0.z0 r1' (fun b z => up2 b (up1 b z)) hp1 (s1.trans s2) hz12
          have bn : ∀ b, Bn Z3 (σ.set i (some v)) ρ3 b → Bn Z2 σ ρ2 b := fun b z => by
            rcases z with z | z
            · exact .inl (z3d b z)
            · rcases putA_own hp1 z with ⟨xs, q1, q2⟩ | z
              · subst q1
                exact .inl (r1'.tmpZ q2)
              · exact .inr z
          have r2' : AvL C Z3 (σ.set i (some v)) ρ3 H2 Z [w] [y] := by
            cases r2 with
            | dat r _ => exact .dat (r.weak bn) .nil
            | io r _ => cases hp2
            | tmp n z q r h0 _ => exact .tmp (fun k => n (up1 _ k)) ((z3u _ z).resolve_right fun ⟨xs, q1, q2⟩ => by
                subst q1
                exact n (r1.tmpZ q2)) q (r.weak bn) h0 .nil
          obtain ⟨Z4, e4, s4, z4, _, _⟩ := putA_ok hj e3 e0.z0 r2' z3 hp2 s3 fun b o h z => hz12 b o h (z3d b z)
          exact g.nxt (e4.weakZ z4 e0.z0) s4
theorem s_par {i j : Nat} {a b : A} {x1 x2 : Str} {px py pt : Pos} {kt k2 pt2} (hio : ∀ p ∈ C.io, p.1 ≠ i) (hjo : ∀ p ∈ C.io, p.1 ≠ j) (hc : X.calm = true) (hN : X.N.Nodup) (hi : X.N[i]? = some x1) (hj : X.N[j]? = some x2) (hij : i ≠ j)
    (hx : X.env.scope.names.lookup x1 = some .local) (hy : X.env.scope.names.lookup x2 = some .local) (ha : PA X [x, y] (tCons (tA C W (evA Φ a)) (tCons (tA C W (evA Φ b)) tNil)))
    (hw : swappedStores [.Tuple [.Name x1 px, .Name x2 py] kt pt] (.Tuple [x, y] k2 pt2) X.env = pure (some [x1, x2]))
    (hs : swapsWithSole [.Tuple [.Name x1 px, .Name x2 py] kt pt] (.Tuple [x, y] k2 pt2) pos.line X.env = pure false) :
    PS X (.Assign [.Tuple [.Name x1 px, .Name x2 py] kt pt] (.Tuple [x, y] k2 pt2) pos) (tS C W (evS Φ (.par i j a b))) := (ps_par hc hN hi hj hij hx hy ha hw hs).imp fun D σ H h => par_read hio hjo h

/-! ### return -/
theorem bn_io {Z : Addr → Prop} {σ : L2.St} {ρ : Env} {H : Hp} (e : EnvR C Z σ ρ H) (b : Addr) (h : Z b ∨ ∃ p ∈ C.io, p.2 = b) : Bn Z σ ρ b := h.imp id fun ⟨p, hp, hb⟩ => by
  obtain ⟨h1, xs, h2⟩ := e.io p hp
  exact ⟨p.1, xs, h2, by rw [h1, hb]⟩
theorem EnvR.ior {Z B : Addr → Prop} {σ : L2.St} {ρ : Env} {H : Hp} (e : EnvR C Z σ ρ H) (w : ∀ b, B b → Bn Z σ ρ b) : IoR C B ρ H := fun q hq xs h => by
  obtain ⟨h1, ys, h2⟩ := e.io q hq
  obtain ⟨a, us, g1, g2, g3, _⟩ := e.own _ _ h
  rw [h1] at g1
  cases g1
  exact ⟨us, g2, g3.weak w⟩
theorem s_ret {e : E} (hf : C.fr = false) (h : PE X x (tE C W (evE Φ e))) : PS X (.Return (some x) pos) (tS C W (evS Φ (.ret (.ex e)))) := (ps_ret h).imp fun D σ H ⟨Z, ρ, e0, g⟩ => by
  simp only [evS] at g
  exact ⟨Z, ρ, e0, g.ofR.and fun d ρ1 H1 e1 s1 k v r => k σ H1 v e1 .refl ⟨r.weak (bn_io e1), fun z => by rw [hf] at z; cases z⟩⟩
theorem s_retN (hf : C.fr = false) : PS X (.Return none pos) (tS C W (evS Φ (.ret (.ex (.cst .non))))) := ps_retN.imp fun D σ H ⟨Z, ρ, e0, g⟩ => by
  simp only [evS, evE] at g
  exact g σ H .non e0 .refl ⟨.non, fun z => by rw [hf] at z; cases z⟩
theorem s_retL {l : LE} (h : PE X x (tL C W (evL Φ l))) : PS X (.Return (some x) pos) (tS C W (evS Φ (.ret (.ex (.ofL l))))) := (ps_ret h).imp fun D σ H ⟨Z, ρ, e0, g⟩ => by
  simp only [evS, evE] at g
  refine ⟨Z, ρ, e0, g.ofR.bind.and fun ds ρ1 H1 e1 s1 k p vs hp e2 h2 r => ?_⟩
  have hz : ¬ Z p := fun z => by
    obtain ⟨o, q⟩ := e0.zt p z
    rw [hp] at q
    cases q
  have up : ∀ b, ((Z b ∨ ∃ q ∈ C.io, q.2 = b) ∨ b = p) → Bn (fun b => Z b ∨ b = p) σ ρ1 b := fun b w => by
    rcases w with w | w
    · exact (bn_io e1 b w).imp .inl id
    · exact .inl (.inr w)
  have np : ¬ (Z p ∨ ∃ q ∈ C.io, q.2 = p) := fun w => w.elim hz fun w => (bn_io e1 p (.inr w)).elim hz fun z => e2.nown (.inr rfl) z
  refine (k.now e1) σ H1 (.ref p) e1 .refl ⟨.lst (.inl ⟨.inl h2, np⟩) (r.weak fun b w => up b (.inl w)), fun _ => ⟨p, vs, ds, rfl, rfl, h2, e0.new0 hp, r.weak up, e2.ior up⟩⟩
theorem s_retO {i : Nat} (hio : ∀ p ∈ C.io, p.1 ≠ i) (h : PE X x (tVar i)) : PS X (.Return (some x) pos) (tS C W (evS Φ (.ret (.sl i)))) := (ps_ret h).imp fun D σ H ⟨Z, ρ, e0, g⟩ => by
  simp only [evS] at g
  split at g
  · rename_i xs hx
    obtain ⟨a, vs, h1, h2, h3, h4⟩ := e0.own i xs hx
    refine ⟨_, h1, g σ H _ e0 .refl ⟨?_, fun _ => ?_⟩⟩
    · refine .lst (.inl ⟨.inl h2, fun w => w.elim h4 fun ⟨p, hp, hb⟩ => ?_⟩) (h3.weak (bn_io e0))
      obtain ⟨g1, ys, g2⟩ := e0.io p hp
      exact hio p hp (e0.inj p.1 i a ys xs g2 hx (by rw [g1, hb]) h1)
    · have n : ¬ ∃ p ∈ C.io, p.2 = a := fun ⟨p, hp, hb⟩ => by
        obtain ⟨g1, ys, g2⟩ := e0.io p hp
        exact hio p hp (e0.inj p.1 i a ys xs g2 hx (by rw [g1, hb]) h1)
      have up : ∀ b, ((Z b ∨ ∃ p ∈ C.io, p.2 = b) ∨ b = a) → Bn Z σ ρ b := fun b w => by
        rcases w with w | w
        · exact bn_io e0 b w
        · subst w
          exact .inr ⟨i, xs, hx, h1⟩
      exact ⟨a, vs, xs, rfl, rfl, h2, (e0.fresh a ⟨i, xs, hx, h1⟩).resolve_left n, h3.weak up, e0.ior up⟩
  · exact g.elim

/-! ### loops -/
theorem forL_body {Z : Addr → Prop} {σ : L2.St} {ρ : Env} {H : Hp} {r : SR} {D : Ends} {k : Env → SR} {N : L2.St → Hp → Prop} (h : GoodS C W Z σ ρ H (match r with | .nx ρ2 => k ρ2 | .ct ρ2 => k ρ2 | .bk ρ2 => .nx ρ2 | z => z) D)
    (hN : ∀ σ2 ρ2 H2, EnvR C Z σ2 ρ2 H2 → Stq σ ρ H σ2 ρ2 H2 → GoodS C W Z σ2 ρ2 H2 (k ρ2) D → N σ2 H2) : GoodS C W Z σ ρ H r { D with nx := N, ct := N, bk := D.nx } := by
  cases r with
  | nx ρ2 => exact fun σ2 H2 e2 s2 => hN σ2 ρ2 H2 e2 s2 (GoodS.shift s2 h)
  | ct ρ2 => exact fun σ2 H2 e2 s2 => hN σ2 ρ2 H2 e2 s2 (GoodS.shift s2 h)
  | bk ρ2 => exact h
  | rt d ρ2 => exact h
  | exc c p ρ2 => exact h
  | stuck => exact h
theorem s_for {t : T} {it : It} {b : List S} {tg iter : Expr} (hp : PassesOwn (model X.prog X.w) X.A X.env X.xe) (hc : X.calm = true) (hi : PI X tg iter (tI C W (evI Φ it))) (hg : PG X tg (tG C W t.ns (evT Φ t))) (hb : PSs X sts (tS C W (evS.go Φ b)))
    (hs : ∀ x, foldedSetIterable iter X.env x = pure x) : PS X (.For tg iter sts [] pos) (tS C W (evS Φ (.forr t it b))) := (ps_for hp hc hi hg hb hs).imp fun D σ H ⟨Z, ρ, e0, g⟩ => by
  simp only [evS] at g
  refine ⟨Z, ρ, e0, g.ofR.and fun xs ρ1 H1 e1 s1 k J P hJ hP => ?_⟩
  refine ⟨fun i m σ' H' => m = xs.length - i ∧ i ≤ xs.length ∧ ∃ ρi, EnvR C Z σ' ρi H' ∧ P H' (Bn Z σ' ρi) ∧ GoodS C W Z σ' ρi H' (forL (evT Φ t) (evS.go Φ b) (xs.drop i) ρi) D, ⟨xs.length, rfl, Nat.zero_le _, ρ1, e1, hP, k⟩, ?_⟩
  rintro i m σ' H' ⟨rfl, hile, ρi, e', p', g'⟩
  by_cases hlt : i < xs.length
  · refine .inr ⟨hJ.go i H' _ p' hlt, fun σ2 H2 => xs.length - (i + 1) = xs.length - (i + 1) ∧ i + 1 ≤ xs.length ∧ ∃ ρi, EnvR C Z σ2 ρi H2 ∧ P H2 (Bn Z σ2 ρi) ∧ GoodS C W Z σ2 ρi H2 (forL (evT Φ t) (evS.go Φ b) (xs.drop (i + 1)) ρi) D, fun σ2 H2 q => ⟨_, by omega, q⟩, fun v H2 y => ?_⟩
    obtain ⟨d, hd, sm, rd⟩ := hJ.yld i H' _ v H2 p' e'.there hlt y
    rw [drop_cons hd, forL] at g'
    have e2 := e'.grow sm
    have g2 := GoodS.shift (Stq.same sm) g'
    have p2 := hJ.keep _ _ _ _ p' (Stq.same (σ := σ') (ρ := ρi) sm).bn
    refine ⟨Z, ρi, d, e2, rd, g2.ofU.and fun σ3 ρ3 H3 e3 s3 _ g3 => ?_⟩
    refine ⟨Z, ρ3, e3, forL_body g3 fun σ4 ρ4 H4 e4 s4 g4 => ⟨rfl, hlt, ρ4, e4, hJ.keep _ _ _ _ p2 (s3.trans s4).bn, g4⟩⟩
  · have hie : i = xs.length := by omega
    refine .inl ⟨hJ.stop i H' _ p' (by omega), ?_⟩
    rw [hie, List.drop_length, forL] at g'
    exact g'.nxt e' .refl
theorem whlF_some {c : Env → R Bool} {b : Env → SR} {ρ : Env} {Z : Addr → Prop} {σ : L2.St} {H : Hp} {D : Ends} (h : GoodS C W Z σ ρ H (whlF c b ρ) D) : ∃ n r, whlN c b n ρ = some r ∧ GoodS C W Z σ ρ H r D := by
  unfold whlF at h
  split at h
  · rename_i hh
    exact ⟨hh.choose, _, hh.choose_spec.choose_spec, h⟩
  · exact h.elim
theorem s_while {c : E} {b : List S} (hp : PassesOwn (model X.prog X.w) X.A X.env X.xe) (hc : PT X x (tT C W (evC Φ c))) (hb : PSs X sts (tS C W (evS.go Φ b))) : PS X (.While x sts [] pos) (tS C W (evS Φ (.whl c b))) := (ps_while hp hc hb).imp fun D σ H ⟨Z, ρ, e0, g⟩ => by
  simp only [evS] at g
  obtain ⟨n, r, hn, g⟩ := whlF_some g
  refine ⟨fun m σ' H' => ∃ ρ' r, EnvR C Z σ' ρ' H' ∧ whlN (evC Φ c) (evS.go Φ b) m ρ' = some r ∧ GoodS C W Z σ' ρ' H' r D, ⟨n, ρ, r, e0, hn, g⟩, ?_⟩
  rintro m σ' H' ⟨ρ', r', e', hm, g'⟩
  cases m with
  | zero => cases hm
  | succ m =>
    rw [whlN] at hm
    refine ⟨Z, ρ', e', ?_⟩
    cases hcr : evC Φ c ρ' with
    | stuck =>
      rw [hcr] at hm
      cases hm
      exact g'
    | exc q p ρ1 =>
      rw [hcr] at hm
      cases hm
      exact fun cls dd H1 e1 s1 x => g' cls dd σ' H1 e1 s1 x
    | ok k ρ1 =>
      rw [hcr] at hm
      intro H1 e1 s1
      cases k with
      | false =>
        cases hm
        exact g'.nxt e1 s1
      | true =>
        simp only [if_true]
        refine ⟨fun σ2 H2 => ∃ ρ2 r2, EnvR C Z σ2 ρ2 H2 ∧ whlN (evC Φ c) (evS.go Φ b) m ρ2 = some r2 ∧ GoodS C W Z σ2 ρ2 H2 r2 D, fun σ2 H2 q => ⟨m, Nat.lt_succ_self m, q⟩, Z, ρ1, e1, ?_⟩
        have hm : (match evS.go Φ b ρ1 with | .nx ρ2 => whlN (evC Φ c) (evS.go Φ b) m ρ2 | .ct ρ2 => whlN (evC Φ c) (evS.go Φ b) m ρ2 | .bk ρ2 => some (.nx ρ2) | z => some z) = some r' := hm
        have g1 := GoodS.shift s1 g'
        cases hbr : evS.go Φ b ρ1 with
        | nx ρ2 =>
          rw [hbr] at hm
          exact fun σ2 H2 e2 s2 => ⟨ρ2, r', e2, hm, GoodS.shift s2 g1⟩
        | ct ρ2 =>
          rw [hbr] at hm
          exact fun σ2 H2 e2 s2 => ⟨ρ2, r', e2, hm, GoodS.shift s2 g1⟩
        | bk ρ2 =>
          rw [hbr] at hm
          cases hm
          exact g1
        | rt d ρ2 =>
          rw [hbr] at hm
          cases hm
          exact g1
        | exc q p ρ2 =>
          rw [hbr] at hm
          cases hm
          exact g1
        | stuck =>
          rw [hbr] at hm
          cases hm
          exact g1
/-! ### a list's methods -/
theorem ty_list {Z : Addr → Prop} {σ : L2.St} {ρ : Env} {H : Hp} {i : Nat} {xs : List D} (e : EnvR C Z σ ρ H) (hi : ρ[i]? = some (.own xs)) : ∃ a vs, σ[i]? = some (some (V.ref a)) ∧ tyV C.K "list" (.ref a) H ∧ H a = some (.lst vs) ∧ RpL C.K H (Bn Z σ ρ) vs xs := by
  obtain ⟨a, vs, h1, h2, h3, _⟩ := e.own i xs hi
  exact ⟨a, vs, h1, .inl ⟨rfl, vs, .inl (.inl h2)⟩, h2, h3⟩
theorem app_read {i : Nat} {e : E} {D : Ends} {σ : L2.St} {H : Hp} (h : tS C W (evS Φ (.mt .append i [e])) D σ H) : tDrop (tBM C.K "list" rAppend (tVar i) (tCons (tE C W (evE Φ e)) tNil)) D σ H := by
  obtain ⟨Z, ρ, e0, g⟩ := h
  simp only [evS] at g
  split at g
  · rename_i ys hy
    obtain ⟨a, us, h1, h2, _, _⟩ := ty_list e0 hy
    refine ⟨_, h1, h2, Z, ρ, e0, ?_⟩
    simp only [evEs] at g
    refine g.ofR.bind.and fun d ρ1 H1 e1 s1 k v r => ?_
    have k := k.now e1
    split at k
    · rename_i xs hx
      split at k
      · rename_i zs hz
        simp only [mtD] at hz
        split at hz
        · rename_i hl
          cases hz
          obtain ⟨a', vs, g1, g2, g3, g4⟩ := ty_list e1 hx
          rw [h1] at g1
          cases g1
          obtain ⟨e2, s2⟩ := e1.setOwn hx h1 (g4.append (.one r))
          refine ⟨a, vs, v, rfl, rfl, g3, ?_, k.nxt e2 s2⟩
          rw [g4.length]
          exact hl
        · cases hz
      · exact k.elim
    · exact k.elim
  · exact g.elim
theorem pop_read {i : Nat} {D : Ends} {σ : L2.St} {H : Hp} (h : tS C W (evS Φ (.mt .pop i [])) D σ H) : tDrop (tBM0 C.K "list" rPop (tVar i)) D σ H := by
  obtain ⟨Z, ρ, e0, g⟩ := h
  simp only [evS] at g
  split at g
  · rename_i ys hy
    obtain ⟨a, vs, h1, h2, g3, g4⟩ := ty_list e0 hy
    simp only [evEs] at g
    have k := g.ofR.now e0
    simp only [hy] at k
    split at k
    · rename_i zs hz
      simp only [mtD] at hz
      split at hz
      · cases hz
      · rename_i he
        cases hz
        obtain ⟨e2, s2⟩ := e0.setOwn hy h1 g4.dropLast
        have hl : vs.length ≠ 0 := by
          rw [g4.length]
          intro q
          exact he (by simp [List.length_eq_zero_iff.mp q])
        exact ⟨_, h1, h2, a, vs, _, rfl, rfl, g3, List.getElem?_eq_getElem (by omega), k.nxt e2 s2⟩
    · exact k.elim
  · exact g.elim
theorem ext_read {i : Nat} {l : LE} {D : Ends} {σ : L2.St} {H : Hp} (h : tS C W (evS Φ (.ext i l)) D σ H) : tDrop (tBM C.K "list" rExtend (tVar i) (tCons (tL C W (evL Φ l)) tNil)) D σ H := by
  obtain ⟨Z, ρ, e0, g⟩ := h
  simp only [evS] at g
  split at g
  · rename_i ys hy
    obtain ⟨a, us, h1, h2, _, _⟩ := ty_list e0 hy
    refine ⟨_, h1, h2, Z, ρ, e0, g.ofR.and fun ds ρ1 H1 e1 s1 k p vs hp e2 hv r => ?_⟩
    split at k
    · rename_i xs hx
      split at k
      · rename_i hl
        obtain ⟨a', ws, g1, g2, g3, g4⟩ := ty_list e1 hx
        rw [h1] at g1
        cases g1
        obtain ⟨e3, s3⟩ := e1.setOwn hx h1 (g4.append (r.weak fun b z => z.imp .inl id))
        refine ⟨a, p, ws, vs, rfl, rfl, g3, hv, ?_, k.nxt e3 s3⟩
        rw [g4.length, r.length]
        exact hl
      · exact k.elim
    · exact k.elim
  · exact g.elim
section
variable {o : Expr} {i : Nat} {apos cpos : Pos}
theorem s_app {e : E} (hK : X.K = C.K) (ho : PE X o (tVar i)) (h : PE X x (tE C W (evE Φ e))) (hst : starEach [x] X.env = [(false, eval x X.env)]) (hb : attributeBase o "append" X.env (eval o X.env) = eval o X.env) (hl : (apos.endLine == cpos.line) = true) (hs : swapsWith (.Call (.Attribute o "append" apos) [x] [] cpos) none pos.line X.env = pure false) :
    PS X (.Expr (.Call (.Attribute o "append" apos) [x] [] cpos) pos) (tS C W (evS Φ (.mt .append i [e]))) :=
  (ps_expr (pe_bm F.plainAttrs_list F.slot_list_append F.type_list_append mt_append ho (pa_cons h pa_nil hst) hb (by rw [hst]; rfl) hl hst rfl) hs).imp fun D σ H q => by
    rw [hK]
    exact app_read q
theorem s_pop (hK : X.K = C.K) (ho : PE X o (tVar i)) (hb : attributeBase o "pop" X.env (eval o X.env) = eval o X.env) (hl : (apos.endLine == cpos.line) = true) (hs : swapsWith (.Call (.Attribute o "pop" apos) [] [] cpos) none pos.line X.env = pure false) :
    PS X (.Expr (.Call (.Attribute o "pop" apos) [] [] cpos) pos) (tS C W (evS Φ (.mt .pop i []))) :=
  (ps_expr (pe_bm0 F.plainAttrs_list F.slot_list_pop F.type_list_pop mt_pop ho hb hl) hs).imp fun D σ H q => by
    rw [hK]
    exact pop_read q
theorem s_ext {l : LE} (hK : X.K = C.K) (ho : PE X o (tVar i)) (h : PE X x (tL C W (evL Φ l))) (hst : starEach [x] X.env = [(false, eval x X.env)]) (hb : attributeBase o "extend" X.env (eval o X.env) = eval o X.env) (hl : (apos.endLine == cpos.line) = true) (hs : swapsWith (.Call (.Attribute o "extend" apos) [x] [] cpos) none pos.line X.env = pure false) :
    PS X (.Expr (.Call (.Attribute o "extend" apos) [x] [] cpos) pos) (tS C W (evS Φ (.ext i l))) :=
  (ps_expr (pe_bm F.plainAttrs_list F.slot_list_extend F.type_list_extend mt_extend ho (pa_cons h pa_nil hst) hb (by rw [hst]; rfl) hl hst rfl) hs).imp fun D σ H q => by
    rw [hK]
    exact ext_read q
end
end
end Iv
set_option Elab.async false
set_option linter.all false
set_option maxRecDepth 100000
set_option maxHeartbeats 2000000
/-! Iv12: how a call binds its arguments. -/
namespace Iv
open PySem PySem.Spec PyProof.Rows L2

theorem lookup_zip {n : Str} {β : Type} : ∀ {L : List Str} {vs : List β}, vs.length = L.length → n ∈ L → (L.zip vs).lookup n = vs[L.idxOf n]? ∧ (vs[L.idxOf n]?).isSome = true
  | [], _, _, h => by cases h
  | l :: L, [], e, _ => by cases e
  | l :: L, v :: vs, e, h => by
    by_cases q : n = l
    · subst q
      simp [List.idxOf_cons_self]
    · have hn : n ∈ L := (List.mem_cons.mp h).resolve_left q
      obtain ⟨h1, h2⟩ := lookup_zip (n := n) (L := L) (vs := vs) (by simpa using e) hn
      have q1 : (n == l) = false := beq_eq_false_iff_ne.mpr q
      have q2 : (l == n) = false := beq_eq_false_iff_ne.mpr (fun z => q z.symm)
      rw [List.zip_cons_cons, List.lookup_cons, q1, List.idxOf_cons, q2]
      exact ⟨h1, h2⟩
theorem filterMap_zip {β : Type} {L : List Str} {vs : List β} (e : vs.length = L.length) : ∀ {P : List Str}, (∀ n ∈ P, n ∈ L) → P.filterMap (fun n => ((L.zip vs).lookup n).map (n, ·)) = P.zip ((P.map L.idxOf).filterMap fun k => vs[k]?)
  | [], _ => rfl
  | p :: P, h => by
    obtain ⟨h1, h2⟩ := lookup_zip e (h p List.mem_cons_self)
    obtain ⟨v, hv⟩ := Option.isSome_iff_exists.mp h2
    rw [List.filterMap_cons, h1, hv, List.map_cons, List.filterMap_cons, hv]
    show (p, v) :: _ = (p, v) :: _
    rw [filterMap_zip e fun n hn => h n (List.mem_cons_of_mem _ hn)]
    rfl
/-- a def without defaults, stars, names-only parameters -/
structure Plain (fd : FuncData) (P : List Str) : Prop where
  ps : fd.params.posonlyargs.map (·.arg) ++ fd.params.args.map (·.arg) = P
  kw : fd.params.kwonlyargs = []
  va : fd.params.vararg = none
  ka : fd.params.kwarg = none
  df : fd.defaults = .none
theorem zip_take {α β : Type} : ∀ (us : List β) (P : List α), P.zip us = (P.take us.length).zip us
  | [], P => by simp
  | u :: us, [] => by simp
  | u :: us, p :: P => by simp [zip_take us P]
theorem walk_kw {G : Str × Value → Prop} {e : List (Str × Value)} {f : Str × Value → List (Str × Value) × List (Str × Value) → Sem (ForInStep (List (Str × Value) × List (Str × Value)))}
    (hf : ∀ kv slots, G kv → (slots.lookup kv.1).isSome = false → f kv (slots, e) = pure (.yield (slots ++ [kv], e))) : ∀ (kws slots : List (Str × Value)), (∀ kv ∈ kws, G kv) → (slots.map (·.1) ++ kws.map (·.1)).Nodup → forIn kws (slots, e) f = pure (slots ++ kws, e)
  | [], slots, _, _ => by rw [List.forIn_nil, List.append_nil]
  | kv :: kws, slots, h, nd => by
    rw [List.forIn_cons, hf kv slots (h kv List.mem_cons_self) ?_, pure_bind]
    · show forIn kws (slots ++ [kv], e) f = _
      rw [walk_kw hf kws (slots ++ [kv]) (fun k hk => h k (List.mem_cons_of_mem _ hk)) (by simpa using nd), List.append_assoc]
      rfl
    · cases q : slots.lookup kv.1 with
      | none => rfl
      | some v =>
        have hm : kv.1 ∈ slots.map (·.1) := List.mem_map.mpr ⟨_, PySem.mem_of_lookup q, rfl⟩
        exact ((List.nodup_append.mp nd).2.2 _ hm kv.1 (by simp) rfl).elim
theorem bind_kw {fd : FuncData} {P names : List Str} {us ws : List Value} (h : Plain fd P) (hl : us.length + ws.length = P.length) (hw : ws.length = names.length) (hn : ∀ k ∈ names, k ∈ fd.params.args.map (·.arg))
    (hd : (P.take us.length ++ names).Nodup) (hP : ∀ n ∈ P, n ∈ P.take us.length ++ names) :
    bindArgs fd ⟨us, names.zip ws⟩ = pure (P.zip ((P.map (P.take us.length ++ names).idxOf).filterMap fun k => (us ++ ws)[k]?)) := by
  have hlen : (us ++ ws).length = (P.take us.length ++ names).length := by
    rw [List.length_append, List.length_append, List.length_take, hw]
    omega
  have hz : P.zip us ++ names.zip ws = (P.take us.length ++ names).zip (us ++ ws) := by
    rw [List.zip_append (by rw [List.length_take]; omega)]
    congr 1
    exact zip_take us P
  have hlk : ∀ n ∈ P, ((P.zip us ++ names.zip ws).lookup n).isSome = true := fun n hn => by
    rw [hz]
    obtain ⟨h1, h2⟩ := lookup_zip hlen (hP n hn)
    rw [h1]
    exact h2
  unfold bindArgs
  simp only [h.ps, h.kw, h.va, h.ka, h.df, List.map_nil, List.append_nil, List.contains_nil, Bool.or_false]
  rw [walk_kw (G := fun kv => kv.1 ∈ fd.params.args.map (·.arg)) (fun kv slots hg hs => ?_) (names.zip ws) (P.zip us) ?_ ?_]
  · rw [pure_bind, show seqItems? Value.none = pure none from rfl, pure_bind]
    have hgt : ¬ (decide (us.length > P.length) && (none : Option Arg).isNone) = true := by
      simp
      omega
    rw [if_neg hgt]
    have hmiss : List.filter (fun n => (List.lookup n (P.zip us ++ names.zip ws)).isNone) P = [] := by
      rw [List.filter_eq_nil_iff]
      intro n hn' hc
      have := hlk n hn'
      rw [Option.isNone_iff_eq_none] at hc
      rw [hc] at this
      cases this
    simp only [Option.getD_none, List.drop_nil, List.length_nil, Nat.sub_zero, List.take_length, hmiss, List.isEmpty_nil, Bool.not_true, Bool.false_eq_true, if_false, List.drop_length, List.zip_nil_left, List.forIn_nil, pure_bind]
    rw [hz, filterMap_zip hlen hP]
  · exact fun kv hk => hn _ (List.of_mem_zip hk).1
  · rw [zip_take us P, List.map_fst_zip (by rw [List.length_take]; omega), List.map_fst_zip (by omega)]
    exact hd
  · rw [if_pos (List.contains_iff_mem.mpr hg), if_neg (by rw [hs]; exact Bool.false_ne_true)]
theorem idx_self : ∀ {P : List Str} {us : List Value}, P.Nodup → us.length = P.length → ((P.map P.idxOf).filterMap fun k => us[k]?) = us
  | [], [], _, _ => rfl
  | [], _ :: _, _, h => by cases h
  | _ :: _, [], _, h => by cases h
  | p :: P, u :: us, nd, h => by
    obtain ⟨h1, h2⟩ := List.nodup_cons.mp nd
    have e : P.map (p :: P).idxOf = P.map fun n => P.idxOf n + 1 := List.map_congr_left fun n hn => by
      have q : (p == n) = false := beq_eq_false_iff_ne.mpr fun z => h1 (z ▸ hn)
      rw [List.idxOf_cons, q]
      rfl
    rw [List.map_cons, List.idxOf_cons_self, List.filterMap_cons, e]
    show u :: _ = u :: _
    congr 1
    have ih := idx_self (P := P) (us := us) h2 (by simpa using h)
    rw [List.filterMap_map] at ih ⊢
    exact ih
theorem bind_pos {fd : FuncData} {P : List Str} {us : List Value} (h : Plain fd P) (nd : P.Nodup) (hl : us.length = P.length) : bindArgs fd ⟨us, []⟩ = pure (P.zip us) := by
  have q := bind_kw (names := []) (us := us) (ws := []) h (by simpa using hl) rfl (fun k hk => nomatch hk) (by rw [List.append_nil, hl, List.take_length]; exact nd) (fun n hn => by rw [List.append_nil, hl, List.take_length]; exact hn)
  rw [List.append_nil, List.append_nil, hl, List.take_length, idx_self nd hl] at q
  exact q
end Iv
set_option Elab.async false
set_option linter.all false
set_option maxRecDepth 100000
set_option maxHeartbeats 2000000
/-! Iv13: what a def promises; calls. -/
namespace Iv
open PySem PySem.Spec PyProof.Rows L2

/-! ### the promise -/
inductive ArgL (K : PySem.W.Frag) (H : Hp) (B : Addr → Prop) : List Addr → List V → List Slot → Prop
  | nil : ArgL K H B [] [] []
  | dat {ios : List Addr} {v : V} {d : D} {vs : List V} {as : List Slot} : Rp K H B v d → ArgL K H B ios vs as → ArgL K H B ios (v :: vs) (.dat d :: as)
  | own {ios : List Addr} {a : Addr} {us : List V} {xs : List D} {vs : List V} {as : List Slot} : H a = some (.lst us) → RpL K H B us xs → a ∉ ios → ArgL K H B ios vs as → ArgL K H B (a :: ios) (.ref a :: vs) (.own xs :: as)
inductive BackL (K : PySem.W.Frag) (H : Hp) (B : Addr → Prop) : List Addr → List (List D) → Prop
  | nil : BackL K H B [] []
  | cons {a : Addr} {us : List V} {xs : List D} {ios : List Addr} {os : List (List D)} : H a = some (.lst us) → RpL K H B us xs → BackL K H B ios os → BackL K H B (a :: ios) (xs :: os)
structure BackR (K : PySem.W.Frag) (H H' : Hp) (B : Addr → Prop) (ios : List Addr) (os : List (List D)) : Prop where
  keep : ∀ b o, H b = some o → Nt o → b ∉ ios → H' b = some o
  tr : ∀ b o, H b = some o → ∃ o', H' b = some o'
  outs : BackL K H' B ios os
def ResR (K : PySem.W.Frag) (H H' : Hp) (B : Addr → Prop) (fr : Bool) (v : V) (d : D) : Prop := Rp K H' B v d ∧
  (fr = true → ∃ p vs ds, v = .ref p ∧ d = .lst ds ∧ H' p = some (.lst vs) ∧ H p = none ∧ RpL K H' (fun b => B b ∨ b = p) vs ds)
def ExV (cl : Str → Option Value) (K : PySem.W.Frag) (H : Hp) (B : Addr → Prop) (cls : Value) (dd : Option Addr) (c : Str) (p : List (Str × D)) : Prop :=
  cl c = some cls ∧ ∃ d vfs, dd = some d ∧ H d = some (.xd vfs) ∧ Paired (fun (x : Str × V) (y : Str × D) => x.1 = y.1 ∧ Rp K H B x.2 y.2) vfs p
def spF (K : PySem.W.Frag) (cl : Str → Option Value) (tb : List (Addr × Str)) (fr : Bool) (φ : List Slot → FR) : Sp := fun vs H Q E => ∃ (as : List Slot) (Z : Addr → Prop) (ios : List Addr), LamX.Tabs tb H ∧ There H Z ∧ (∀ a ∈ ios, ¬ Z a) ∧ ArgL K H (fun b => Z b ∨ b ∈ ios) ios vs as ∧ (match φ as with
  | .ok d os => ∀ v H', LamX.Tabs tb H' → BackR K H H' (fun b => (Z b ∨ b ∈ ios) ∨ (fr = true ∧ v = .ref b)) ios os → ResR K H H' (fun b => Z b ∨ b ∈ ios) fr v d → Q v H'
  | .exc c p os => ∀ cls dd H', LamX.Tabs tb H' → BackR K H H' (fun b => Z b ∨ b ∈ ios) ios os → ExV cl K H' (fun b => Z b ∨ b ∈ ios) cls dd c p → E cls dd H'
  | .stuck => False)

/-! ### a def's entry and end -/
def ioOf : Nat → List V → List Slot → List (Nat × Addr)
  | n, .ref a :: vs, .own _ :: as => (n, a) :: ioOf (n + 1) vs as
  | n, _ :: vs, _ :: as => ioOf (n + 1) vs as
  | _, _, _ => []
section
variable {K : PySem.W.Frag} {H H' : Hp} {B : Addr → Prop} {ios : List Addr} {vs : List V} {as : List Slot}
theorem ArgL.len (h : ArgL K H B ios vs as) : vs.length = as.length := by
  induction h with
  | nil => rfl
  | dat _ _ ih => exact congrArg Nat.succ ih
  | own _ _ _ _ ih => exact congrArg Nat.succ ih
theorem ArgL.fst (h : ArgL K H B ios vs as) : ∀ n, (ioOf n vs as).map (·.1) = ownIx n as := by
  induction h with
  | nil => exact fun _ => rfl
  | dat r _ ih => exact fun n => by cases r <;> exact ih (n + 1)
  | own _ _ _ _ ih => exact fun n => congrArg (n :: ·) (ih (n + 1))
theorem ArgL.snd (h : ArgL K H B ios vs as) : ∀ n, (ioOf n vs as).map (·.2) = ios := by
  induction h with
  | nil => exact fun _ => rfl
  | dat r _ ih => exact fun n => by cases r <;> exact ih (n + 1)
  | own _ _ _ _ ih => exact fun n => congrArg (_ :: ·) (ih (n + 1))
theorem ArgL.dats (h : ArgL K H B ios vs as) : ∀ (i : Nat) (d : D), as[i]? = some (.dat d) → ∃ v, vs[i]? = some v ∧ Rp K H B v d := by
  induction h with
  | nil => exact fun i d e => by simp at e
  | dat r _ ih =>
    intro i d e
    cases i with
    | zero =>
      cases e
      exact ⟨_, rfl, r⟩
    | succ i => exact ih i d e
  | own _ _ _ _ ih =>
    intro i d e
    cases i with
    | zero => cases e
    | succ i => exact ih i d e
theorem ArgL.nones (h : ArgL K H B ios vs as) : ∀ (i : Nat), as[i]? ≠ some .none := by
  induction h with
  | nil => exact fun i e => by simp at e
  | dat r _ ih => exact fun i e => by cases i with
    | zero => cases e
    | succ i => exact ih i e
  | own _ _ _ _ ih => exact fun i e => by cases i with
    | zero => cases e
    | succ i => exact ih i e
theorem ArgL.owns (h : ArgL K H B ios vs as) : ∀ (n i : Nat) (xs : List D), as[i]? = some (.own xs) → ∃ a us, vs[i]? = some (V.ref a) ∧ (n + i, a) ∈ ioOf n vs as ∧ a ∈ ios ∧ H a = some (.lst us) ∧ RpL K H B us xs := by
  induction h with
  | nil => exact fun n i d e => by simp at e
  | dat r _ ih =>
    intro n i xs e
    cases i with
    | zero => cases e
    | succ i =>
      obtain ⟨a, us, h1, h2, h3, h4⟩ := ih (n + 1) i xs e
      refine ⟨a, us, h1, ?_, h3, h4⟩
      rw [show n + (i + 1) = n + 1 + i by omega]
      cases r <;> exact h2
  | own h1 h2 _ _ ih =>
    intro n i xs e
    cases i with
    | zero =>
      cases e
      exact ⟨_, _, rfl, List.mem_cons_self, List.mem_cons_self, h1, h2⟩
    | succ i =>
      obtain ⟨a, us, g1, g2, g3, g4⟩ := ih (n + 1) i xs e
      exact ⟨a, us, g1, by rw [show n + (i + 1) = n + 1 + i by omega]; exact List.mem_cons_of_mem _ g2, List.mem_cons_of_mem _ g3, g4⟩
theorem ArgL.ats (h : ArgL K H B ios vs as) : ∀ (n k : Nat) (a : Addr), (k, a) ∈ ioOf n vs as → ∃ i xs, k = n + i ∧ as[i]? = some (.own xs) ∧ vs[i]? = some (V.ref a) := by
  induction h with
  | nil => exact fun n k a e => by cases e
  | dat r _ ih =>
    intro n k a e
    rename_i vs' as' _
    have e : (k, a) ∈ ioOf (n + 1) vs' as' := by cases r <;> exact e
    obtain ⟨i, xs, rfl, h2, h3⟩ := ih (n + 1) k a e
    exact ⟨i + 1, xs, by omega, h2, h3⟩
  | own _ _ _ _ ih =>
    intro n k a e
    rcases List.mem_cons.mp e with q | q
    · cases q
      exact ⟨0, _, rfl, rfl, rfl⟩
    · obtain ⟨i, xs, rfl, h2, h3⟩ := ih (n + 1) k a q
      exact ⟨i + 1, xs, by omega, h2, h3⟩
theorem ArgL.nodup (h : ArgL K H B ios vs as) : ios.Nodup := by
  induction h with
  | nil => exact List.nodup_nil
  | dat _ _ ih => exact ih
  | own _ _ n _ ih => exact List.nodup_cons.mpr ⟨n, ih⟩
theorem ArgL.inj (h : ArgL K H B ios vs as) : ∀ (i j : Nat) (a : Addr) (xs ys : List D), as[i]? = some (.own xs) → as[j]? = some (.own ys) → vs[i]? = some (V.ref a) → vs[j]? = some (V.ref a) → i = j := by
  induction h with
  | nil => exact fun i j a xs ys e => by simp at e
  | dat r _ ih =>
    intro i j a xs ys h1 h2 h3 h4
    cases i with
    | zero => cases h1
    | succ i =>
      cases j with
      | zero => cases h2
      | succ j => exact congrArg Nat.succ (ih i j a xs ys h1 h2 h3 h4)
  | own _ _ nin t ih =>
    intro i j a xs ys h1 h2 h3 h4
    cases i with
    | zero =>
      cases j with
      | zero => rfl
      | succ j =>
        cases h3
        obtain ⟨b, us, g1, _, g3, _⟩ := t.owns 0 j ys h2
        have q := Eq.trans (Eq.symm h4) g1
        cases q
        exact (nin g3).elim
    | succ i =>
      cases j with
      | zero =>
        cases h4
        obtain ⟨b, us, g1, _, g3, _⟩ := t.owns 0 i xs h1
        have q := Eq.trans (Eq.symm h3) g1
        cases q
        exact (nin g3).elim
      | succ j => exact congrArg Nat.succ (ih i j a xs ys h1 h2 h3 h4)
/-- the entry's context -/
def ccOf (K : PySem.W.Frag) (cl : Str → Option Value) (tb : List (Addr × Str)) (fr : Bool) (H : Hp) (Z : Addr → Prop) (vs : List V) (as : List Slot) : Cc := ⟨K, H, ioOf 0 vs as, Z, cl, fr, tb⟩
theorem io_iff (h : ArgL K H B ios vs as) (b : Addr) : (∃ p ∈ ioOf 0 vs as, p.2 = b) ↔ b ∈ ios := by
  rw [← h.snd 0, List.mem_map]
theorem getElem?_app {α : Type} {l r : List α} {i : Nat} {x : α} (h : (l ++ r)[i]? = some x) (n : ∀ y ∈ r, y ≠ x) : l[i]? = some x := by
  by_cases hi : i < l.length
  · rwa [List.getElem?_append_left hi] at h
  · rw [List.getElem?_append_right (by omega)] at h
    exact (n x (List.mem_of_getElem? h) rfl).elim
theorem rep_ne {α : Type} {n : Nat} {x y : α} (h : x ≠ y) : ∀ z ∈ List.replicate n x, z ≠ y := fun z hz => by
  rw [(List.mem_replicate.mp hz).2]
  exact h
theorem start_at {N : List Str} {i : Nat} {v : V} (h : vs[i]? = some v) : (L2.start N vs)[i]? = some (some v) := by
  unfold L2.start
  rw [List.getElem?_append_left (by rw [List.length_map]; exact getElem?_lt h), List.getElem?_map, h]
  rfl
theorem start_of {N : List Str} {i : Nat} {v : V} (h : (L2.start N vs)[i]? = some (some v)) : vs[i]? = some v := by
  have := getElem?_app h (rep_ne (by simp))
  rw [List.getElem?_map] at this
  cases q : vs[i]? with
  | none => rw [q] at this; cases this
  | some w => rw [q] at this; cases this; rfl
theorem env_start {cl : Str → Option Value} {tb : List (Addr × Str)} {fr : Bool} {Z : Addr → Prop} {N : List Str} (ht0 : LamX.Tabs tb H) (h : ArgL K H (fun b => Z b ∨ b ∈ ios) ios vs as) (ht : There H Z) (hz : ∀ a ∈ ios, ¬ Z a) (hl : as.length ≤ N.length) :
    EnvR (ccOf K cl tb fr H Z vs as) Z (L2.start N vs) (as ++ List.replicate (N.length - as.length) .none) H := by
  have ow : ∀ b, OwnA (L2.start N vs) (as ++ List.replicate (N.length - as.length) .none) b → b ∈ ios := fun b ⟨i, xs, h1, h2⟩ => by
    obtain ⟨a, us, g1, _, g3, _⟩ := h.owns 0 i xs (getElem?_app h1 (rep_ne (by simp)))
    rw [start_of h2] at g1
    cases g1
    exact g3
  have bn : ∀ b, Bn Z (L2.start N vs) (as ++ List.replicate (N.length - as.length) .none) b → (Z b ∨ b ∈ ios) := fun b q => q.imp id (ow b)
  have hlen := h.len
  refine ⟨?_, fun i d q => ?_, fun i xs q => ?_, fun i j a xs ys h1 h2 h3 h4 => ?_, ht, fun b q => q, fun p hp => ?_, fun b o q _ _ => q, fun b o q => ⟨o, q⟩, ht0, fun b q => .inl ((io_iff h b).mpr (ow b q))⟩
  · unfold L2.start
    simp only [List.length_append, List.length_map, List.length_replicate]
    omega
  · obtain ⟨v, g1, g2⟩ := h.dats i d (getElem?_app q (rep_ne (by simp)))
    exact ⟨v, start_at g1, g2.weak bn⟩
  · obtain ⟨a, us, g1, _, g3, g4, g5⟩ := h.owns 0 i xs (getElem?_app q (rep_ne (by simp)))
    exact ⟨a, us, start_at g1, g4, g5.weak bn, hz a g3⟩
  · exact h.inj i j a xs ys (getElem?_app h1 (rep_ne (by simp))) (getElem?_app h2 (rep_ne (by simp))) (start_of h3) (start_of h4)
  · obtain ⟨i, xs, q, g1, g2⟩ := h.ats 0 p.1 p.2 hp
    rw [Nat.zero_add] at q
    rw [q]
    exact ⟨start_at g2, xs, by rw [List.getElem?_append_left (getElem?_lt g1)]; exact g1⟩
theorem outs_back {io : List (Nat × Addr)} {ρ : Env} (hio : ∀ q ∈ io, ∀ xs, ρ[q.1]? = some (.own xs) → ∃ us, H q.2 = some (.lst us) ∧ RpL K H B us xs) : ∀ {os : List (List D)}, outs ρ (io.map (·.1)) = some os → BackL K H B (io.map (·.2)) os := by
  induction io with
  | nil =>
    intro os h
    cases h
    exact .nil
  | cons q io ih =>
    intro os h
    rw [List.map_cons, outs] at h
    split at h
    · rename_i xs os' h1 h2
      cases h
      obtain ⟨us, g1, g2⟩ := hio q List.mem_cons_self xs h1
      exact .cons g1 g2 (ih (fun q hq => hio q (List.mem_cons_of_mem _ hq)) h2)
    · cases h
/-- what the def's end tells -/
theorem EnvR.keep_ios {cl : Str → Option Value} {tb : List (Addr × Str)} {fr : Bool} {Z Z' : Addr → Prop} {σ : L2.St} {ρ : Env} (h : ArgL K H B ios vs as) (e : EnvR (ccOf K cl tb fr H Z vs as) Z' σ ρ H') (b : Addr) (o : HO) (q : H b = some o) (t : Nt o) (n : b ∉ ios) : H' b = some o :=
  e.keep b o q t fun p hp z => n ((io_iff h b).mp ⟨p, hp, z⟩)
theorem BackL.weak {B' : Addr → Prop} {os : List (List D)} (h : BackL K H B ios os) (w : ∀ b, B' b → B b) : BackL K H B' ios os := by
  induction h with
  | nil => exact .nil
  | cons a r _ ih => exact .cons a (r.weak w) ih
end

/-! ### the rule for a def -/
structure RoomG (k : Nat) (A : Around) : Prop where
  rm : Room k A
  gd : A.guards = some []
theorem RoomG.mono {j k : Nat} {A : Around} (r : RoomG k A) (h : j ≤ k) : RoomG j A := ⟨r.rm.mono h, r.gd⟩
/-- with room for a lambda that a built-in function calls -/
structure RoomB (k : Nat) (A : Around) : Prop where
  hd : A.handled = none
  dp : A.depth + 3 * k + 7 < recursionLimit
  un : A.units + 16 * k + 213 < cLine
  gd : A.guards = some []
theorem RoomB.g {k : Nat} {A : Around} (r : RoomB k A) : RoomG k A := ⟨⟨r.hd, by have := r.dp; omega, by have := r.un; omega⟩, r.gd⟩
theorem RoomG.body {k : Nat} {A : Around} (r : RoomG (k + 1) A) (env : PySem.Env) : RoomB k (A.deeper env) :=
  ⟨r.rm.hd, by have := r.rm.dp; show A.depth + 1 + 3 * k + 7 < _; omega, by have := r.rm.un; show A.units + 3 + 16 * k + 213 < _; omega, r.gd⟩
theorem RoomB.lam {k : Nat} {A : Around} (r : RoomB k A) (env : PySem.Env) : RoomG k (A.in1.in1.deeper env) :=
  ⟨⟨r.hd, by have := r.dp; show A.depth + 1 + 3 * k + 5 < _; omega, by have := r.un; show A.units + 1 + 1 + 3 + 16 * k + 200 < _; omega⟩, r.gd⟩
structure FnG (P : Program) (w : World) (K : PySem.W.Frag) (mg : Str → Option Value) (base : Heap) (k : Nat) (f : Addr) (fd : FuncData) (ps : List Str) (sp : Sp) : Prop where
  len : ∀ vs H Q E, sp vs H Q E → vs.length = ps.length
  run : ∀ (A : Around) (outer : List PySem.Env) (s : Shared) (H : Hp) (args : Args) (us : List Value) (vs : List V) (Q : VK) (E : XK), RoomG k A → Env0 P w K mg base A outer s H → BindsTo s fd args (ps.zip us) → Vals vs us → sp vs H Q E →
    codeAny (model P w) A (.call (.ref f) args) (CR (CX P w) outer P w H s Q E) s
theorem FnG.of {P : Program} {w : World} {K : PySem.W.Frag} {mg : Str → Option Value} {base : Heap} {k : Nat} {f : Addr} {name qual : Str} {params : Arguments} {body : List Stmt} {scope : Scope} {dV kV doc pm cdv ct oc : Value} {an od : Option Addr}
    {osl : Array (Option Value)} {N ps : List Str} {sp : Sp} (held : K.lookup f = some ⟨oc, od, .func (PySem.W.fnOf name qual params body scope dV kV doc pm an cdv ct), osl⟩) (code : PySem.W.codeIn K cdv qual = true) (sc : FnScope N ps scope)
    (count : ∀ vs H Q E, sp vs H Q E → vs.length = ps.length)
    (text : ∀ (A : Around) (outer : List PySem.Env) (s : Shared) (H : Hp) (vs : List V) (Q : VK) (E : XK), RoomB k (A.deeper (envOfC qual scope s.heap.objs.size f cdv)) → sp vs H Q E →
      ∃ t, PSs (cxOf (CX P w) P w K mg base N qual scope f cdv A outer s H E) body t ∧ t { nx := fun _ H' => Q .non H', rt := Q } (L2.start N vs) H) :
    FnG P w K mg base (k + 1) f (PySem.W.fnOf name qual params body scope dV kV doc pm an cdv ct) ps sp where
  len := count
  run A outer s H args us vs Q E room e0 binds rel want := by
    have kin := e0.mod.kin.keeps fun b o e => (e0.bs b o e).1
    have nolim := e0.mod.nolimit.keeps fun b o e => (e0.bs b o e).1
    obtain ⟨t, body_ok, start_ok⟩ := text A outer s H vs Q E (room.body _) want
    have kinds : ∀ y ∈ ps.zip us, scope.names.lookup y.1 = some .local ∨ (scope.names.lookup y.1 = some .cell ∧ ((cellsFrom (s.heap.objs.size + 1) scope.names []).lookup y.1).isSome = true) := by
      rintro ⟨n, v⟩ hy
      exact (sc.par n (List.of_mem_zip hy).1).imp id fun q => ⟨q, PySem.W.cellsFrom_some _ _ _ (.inl q)⟩
    apply codeAny_call_function room.rm.depth (kin _ _ held) rfl sc.co sc.gen rfl (PySem.W.codeRec_of kin code)
    apply binds
    apply wpAny_newFunctionEnv_cells sc.kind kinds
    rintro env rfl s1 entered
    refine ⟨nolim.keeps entered.toInCall.keep, codeAny_func ?_⟩
    have I := inv_start (CX := CX P w) (E := E) (f := f) (cd := cdv) (qual := qual) sc room.rm.hd e0 (count _ _ _ _ want) rel entered
    refine wpAny_mono (body_ok.run [] s1 (L2.start N vs) H _ I start_ok) (fun fl s' ended => ?_) fun e s' ended => ended
    cases fl with
    | ret u =>
      obtain ⟨v, σ', H', J, rv, q⟩ := ended
      exact ⟨v, H', J.os, J.bare, J.base, J.hok, rv, q⟩
    | next =>
      obtain ⟨σ', H', J, q⟩ := ended
      exact ⟨.non, H', J.os, J.bare, J.base, J.hok, rfl, q⟩
    | brk =>
      obtain ⟨_, _, _, q⟩ := ended
      exact q.elim
    | cont =>
      obtain ⟨_, _, _, q⟩ := ended
      exact q.elim
/-- the text of a def, as the small language has it -/
theorem spF_len {K : PySem.W.Frag} {cl : Str → Option Value} {tb : List (Addr × Str)} {Φ : Phi} {F : Df} {io : List Nat} {vs : List V} {H : Hp} {Q : VK} {E : XK} (h : spF K cl tb F.fr (runF Φ F io) vs H Q E) : vs.length = F.ps.length := by
  obtain ⟨as, Z, ios, _, _, _, ha, q⟩ := h
  unfold runF at q
  by_cases hh : as.length = F.ps.length ∧ F.ps.length ≤ F.N.length ∧ ownIx 0 as = io ∧ noneAt as = false
  · rw [ha.len]
    exact hh.1
  · rw [if_neg hh] at q
    exact q.elim
theorem spF_text {K : PySem.W.Frag} {cl : Str → Option Value} {tb : List (Addr × Str)} {Φ : Phi} {F : Df} {io : List Nat} {vs : List V} {H : Hp} {Q : VK} {E : XK} (h : spF K cl tb F.fr (runF Φ F io) vs H Q E) :
    ∃ C : Cc, C.K = K ∧ C.cl = cl ∧ C.tb = tb ∧ C.fr = F.fr ∧ C.io.map (·.1) = io ∧ tS C (fun cls d _ H => E cls d H) (evS.go Φ F.body) { nx := fun _ H' => Q .non H', rt := Q } (L2.start F.N vs) H := by
  obtain ⟨as, Z, ios, ht0, ht, hz, ha, q⟩ := h
  unfold runF at q
  by_cases hh : as.length = F.ps.length ∧ F.ps.length ≤ F.N.length ∧ ownIx 0 as = io ∧ noneAt as = false
  · rw [if_pos hh] at q
    obtain ⟨hl, hN, hio, _⟩ := hh
    have e0 := env_start (cl := cl) (tb := tb) (fr := F.fr) (N := F.N) ht0 ha ht hz (by omega)
    have hfst : (ccOf K cl tb F.fr H Z vs as).io.map (·.1) = io := (ha.fst 0).trans hio
    have hsnd : (ccOf K cl tb F.fr H Z vs as).io.map (·.2) = ios := ha.snd 0
    have eqB : ∀ b, (Z b ∨ b ∈ ios) ↔ (Z b ∨ ∃ p ∈ (ccOf K cl tb F.fr H Z vs as).io, p.2 = b) := fun b => by
      rw [show (∃ p ∈ (ccOf K cl tb F.fr H Z vs as).io, p.2 = b) ↔ b ∈ ios from io_iff ha b]
    refine ⟨ccOf K cl tb F.fr H Z vs as, rfl, rfl, rfl, rfl, hfst, Z, _, e0, ?_⟩
    generalize hr : evS.go Φ F.body (as ++ List.replicate (F.N.length - as.length) .none) = r at q ⊢
    have back : ∀ {σ' : L2.St} {ρ' : Env} {H' : Hp} {os : List (List D)}, EnvR (ccOf K cl tb F.fr H Z vs as) Z σ' ρ' H' → outs ρ' io = some os → BackR K H H' (fun b => Z b ∨ b ∈ ios) ios os := fun {σ' ρ' H' os} e ho => by
      refine ⟨fun b o => e.keep_ios ha b o, e.tr0, ?_⟩
      rw [← hfst] at ho
      have := outs_back (e.ior (bn_io e)) ho
      rw [hsnd] at this
      exact this.weak fun b => (eqB b).mp
    cases r with
    | nx ρ' =>
      intro σ' H' e' s'
      show Q .non H'
      cases hf : F.fr with
      | true =>
        rw [endF, hf] at q
        exact q.elim
      | false =>
        rw [endF, hf] at q
        cases ho : outs ρ' io with
        | none =>
          rw [ho] at q
          exact q.elim
        | some os =>
          rw [ho] at q
          have b := back e' ho
          exact q .non H' e'.tab ⟨b.keep, b.tr, b.outs.weak fun b z => z.elim id fun z => by cases z.1⟩ ⟨.non, fun z => by cases z⟩
    | rt d ρ' =>
      intro σ' H' v e' s' ret
      show Q v H'
      rw [endF] at q
      cases ho : outs ρ' io with
      | none =>
        rw [ho] at q
        exact q.elim
      | some os =>
        rw [ho] at q
        have b := back e' ho
        obtain ⟨r1, r2⟩ := ret
        refine q v H' e'.tab ⟨b.keep, b.tr, ?_⟩ ⟨r1.weak fun b => (eqB b).mp, fun hf => ?_⟩
        · cases hf : F.fr with
          | false => exact b.outs.weak fun b z => z.elim id fun z => by cases z.1
          | true =>
            obtain ⟨p, us, ds, rfl, rfl, _, _, _, ior⟩ := r2 hf
            rw [← hfst] at ho
            have := outs_back ior ho
            rw [hsnd] at this
            exact this.weak fun b z => z.imp (eqB b).mp fun z => by
              cases z.2
              rfl
        · obtain ⟨p, us, ds, rfl, rfl, h1, h2, h3, _⟩ := r2 hf
          exact ⟨p, us, ds, rfl, rfl, h1, h2, h3.weak fun b z => z.imp (eqB b).mp id⟩
    | exc c p ρ' =>
      intro cls dd σ' H' e' s' x
      show E cls dd H'
      rw [endF] at q
      cases ho : outs ρ' io with
      | none =>
        rw [ho] at q
        exact q.elim
      | some os =>
        rw [ho] at q
        refine q cls dd H' e'.tab (back e' ho) ?_
        obtain ⟨x1, d, vfs, x2, x3, x4⟩ := x
        exact ⟨x1, d, vfs, x2, x3, Paired.mapP x4 fun a b q => ⟨q.1, q.2.weak fun b z => bn_io e' b ((eqB b).mp z)⟩⟩
    | bk ρ' => exact q.elim
    | ct ρ' => exact q.elim
    | stuck => exact q.elim
  · rw [if_neg hh] at q
    exact q.elim
end Iv
set_option Elab.async false
set_option linter.all false
set_option maxRecDepth 100000
set_option maxHeartbeats 2000000
/-! Iv14: calls of defs. -/
namespace Iv
open PySem PySem.Spec PyProof.Rows L2

/-! ### arguments, put in the parameters' order -/
/-- an argument by itself -/
def ArgAt (C : Cc) (Z Z' : Addr → Prop) (σ : L2.St) (ρ : Env) (H : Hp) (v : V) : AV → Prop
  | .dat d => Rp C.K H (Bn Z' σ ρ) v d
  | .io i => ∃ a xs, v = .ref a ∧ σ[i]? = some (some (V.ref a)) ∧ ρ[i]? = some (.own xs)
  | .tmp xs => ∃ p us, v = .ref p ∧ ¬ Z p ∧ Z' p ∧ H p = some (.lst us) ∧ RpL C.K H (Bn Z' σ ρ) us xs ∧ C.H0 p = none
def AV.lent : AV → Prop
  | .dat _ => False
  | _ => True
def Apart2 (x y : V × AV) : Prop := x.2.lent → y.2.lent → x.1 ≠ y.1
section
variable {C : Cc} {W : WX} {Z Zi Z' : Addr → Prop} {σ : L2.St} {ρ ρ' : Env} {H H' : Hp} {vs : List V} {as : List AV}
theorem AvL.len (h : AvL C Z' σ ρ H Zi vs as) : vs.length = as.length := by
  induction h with
  | nil => rfl
  | dat _ _ ih => exact congrArg Nat.succ ih
  | io _ _ ih => exact congrArg Nat.succ ih
  | tmp _ _ _ _ _ _ ih => exact congrArg Nat.succ ih
theorem slotAs_cons {a : AV} {as : List AV} {ss : List Slot} (h : slotAs ρ (a :: as) = some ss) : ∃ s r, slotA ρ a = some s ∧ slotAs ρ as = some r ∧ ss = s :: r := by
  rw [slotAs] at h
  split at h
  · rename_i d ds h1 h2
    cases h
    exact ⟨d, ds, h1, h2, rfl⟩
  · cases h
/-- io slots hold lists -/
def IoOwn (ρ : Env) (as : List AV) : Prop := ∀ i, AV.io i ∈ as → ∃ xs, ρ[i]? = some (.own xs)
theorem AvL.at (h : AvL C Z' σ ρ H Zi vs as) (e : EnvR C Z' σ ρ H) : (∀ b, Z b → Zi b) → IoOwn ρ as → ∀ p ∈ vs.zip as, ArgAt C Z Z' σ ρ H p.1 p.2 := by
  induction h with
  | nil => exact fun _ _ p hp => by cases hp
  | dat r _ ih =>
    intro w hs p hp
    rcases List.mem_cons.mp hp with q | q
    · subst q
      exact r
    · exact ih w (fun i hi => hs i (List.mem_cons_of_mem _ hi)) p q
  | io r _ ih =>
    intro w hs p hp
    rcases List.mem_cons.mp hp with q | q
    · subst q
      obtain ⟨xs, hx⟩ := hs _ List.mem_cons_self
      obtain ⟨a, us, g1, _⟩ := e.own _ _ hx
      rw [r] at g1
      cases g1
      exact ⟨a, xs, rfl, r, hx⟩
    · exact ih w (fun i hi => hs i (List.mem_cons_of_mem _ hi)) p q
  | tmp n z g r h0 _ ih =>
    intro w hs p hp
    rcases List.mem_cons.mp hp with q | q
    · subst q
      exact ⟨_, _, rfl, fun k => n (w _ k), z, g, r, h0⟩
    · exact ih (fun b k => .inl (w b k)) (fun i hi => hs i (List.mem_cons_of_mem _ hi)) p q
theorem AvL.tmps (h : AvL C Z' σ ρ H Zi vs as) : ∀ p ∈ vs.zip as, ∀ xs a, p.2 = .tmp xs → p.1 = .ref a → ¬ Zi a := by
  induction h with
  | nil => exact fun p hp => by cases hp
  | dat r _ ih =>
    intro p hp xs a h1 h2
    rcases List.mem_cons.mp hp with q | q
    · subst q
      cases h1
    · exact ih p q xs a h1 h2
  | io r _ ih =>
    intro p hp xs a h1 h2
    rcases List.mem_cons.mp hp with q | q
    · subst q
      cases h1
    · exact ih p q xs a h1 h2
  | tmp n z g r h0 _ ih =>
    intro p hp xs a h1 h2
    rcases List.mem_cons.mp hp with q | q
    · subst q
      cases h2
      exact n
    · exact fun k => ih p q xs a h1 h2 (.inl k)
theorem ioIx_mem {i : Nat} : ∀ {as : List AV}, AV.io i ∈ as → i ∈ ioIx as
  | a :: as, h => by
    rcases List.mem_cons.mp h with q | q
    · subst q
      exact List.mem_cons_self
    · have := ioIx_mem q
      cases a with
      | io j => exact List.mem_cons_of_mem _ this
      | dat d => exact this
      | tmp xs => exact this
theorem AvL.apart (h : AvL C Z' σ ρ H Zi vs as) (e : EnvR C Z' σ ρ H) : IoOwn ρ as → (ioIx as).Nodup → (vs.zip as).Pairwise Apart2 := by
  induction h with
  | nil => exact fun _ _ => .nil
  | dat r _ ih => exact fun hs nd => .cons (fun q _ z => z.elim) (ih (fun i hi => hs i (List.mem_cons_of_mem _ hi)) nd)
  | io r t ih =>
    intro hs nd
    obtain ⟨n1, n2⟩ := List.nodup_cons.mp nd
    have hs' : IoOwn ρ _ := fun i hi => hs i (List.mem_cons_of_mem _ hi)
    refine .cons (fun q hq _ hl hv => ?_) (ih hs' n2)
    obtain ⟨xs, hx⟩ := hs _ List.mem_cons_self
    obtain ⟨a, us, g1, _, _, g4⟩ := e.own _ _ hx
    rw [r] at g1
    cases g1
    have ha := t.at (Z := fun _ => False) e (fun _ z => z.elim) hs' q hq
    rcases q with ⟨v, av⟩
    cases hv
    cases av with
    | dat d => exact hl
    | io j =>
      obtain ⟨b, ys, q1, q2, q3⟩ := ha
      cases q1
      exact n1 (ioIx_mem (e.inj _ _ _ _ _ hx q3 r q2 ▸ (List.of_mem_zip hq).2))
    | tmp ys =>
      obtain ⟨p, us', q1, _, q2, _⟩ := ha
      cases q1
      exact g4 q2
  | tmp n z g r h0 t ih =>
    intro hs nd
    have hs' : IoOwn ρ _ := fun i hi => hs i (List.mem_cons_of_mem _ hi)
    refine .cons (fun q hq _ hl hv => ?_) (ih hs' nd)
    have ha := t.at (Z := fun _ => False) e (fun _ z => z.elim) hs' q hq
    rcases q with ⟨v, av⟩
    have hv : V.ref _ = v := hv
    subst hv
    cases av with
    | dat d => exact hl
    | io j =>
      obtain ⟨b, ys, q1, q2, q3⟩ := ha
      cases q1
      obtain ⟨b, us', k1, _, _, k4⟩ := e.own _ _ q3
      rw [q2] at k1
      cases k1
      exact k4 z
    | tmp ys => exact t.tmps _ hq ys _ rfl rfl (.inr rfl)

/-- the permuted pairs -/
theorem permL_zip {α β : Type} {l : List α} {r : List β} (h : l.length = r.length) (ks : List Nat) : (permL l ks).zip (permL r ks) = permL (l.zip r) ks ∧ (permL l ks).length = (permL r ks).length := by
  unfold permL
  cases hk : ks.isEmpty with
  | true => exact ⟨rfl, h⟩
  | false =>
    simp only [Bool.false_eq_true, if_false]
    clear hk
    induction ks with
    | nil => exact ⟨rfl, rfl⟩
    | cons k ks ih =>
      rw [List.filterMap_cons, List.filterMap_cons, List.filterMap_cons]
      by_cases hl : k < l.length
      · have hr : k < r.length := by omega
        have hz : k < (l.zip r).length := by
          rw [List.length_zip]
          omega
        rw [List.getElem?_eq_getElem hl, List.getElem?_eq_getElem hr, List.getElem?_eq_getElem hz, List.getElem_zip]
        exact ⟨by rw [List.zip_cons_cons, ih.1], by simp [ih.2]⟩
      · rw [List.getElem?_eq_none (by omega), List.getElem?_eq_none (by omega), List.getElem?_eq_none (by rw [List.length_zip]; omega)]
        exact ih
theorem permL_mem {α : Type} {l : List α} {ks : List Nat} {x : α} (h : x ∈ permL l ks) : x ∈ l := by
  unfold permL at h
  split at h
  · exact h
  · obtain ⟨k, _, h2⟩ := List.mem_filterMap.mp h
    exact List.mem_of_getElem? h2
theorem permL_pair {α : Type} {l : List α} {ks : List Nat} {R : α → α → Prop} (hs : ∀ a b, R a b → R b a) (h : l.Pairwise R) (nd : ks.Nodup) : (permL l ks).Pairwise R := by
  unfold permL
  split
  · exact h
  · rw [List.pairwise_filterMap]
    have hi := List.pairwise_iff_getElem.mp h
    refine nd.imp fun {a b} n x hx y hy => ?_
    obtain ⟨h1, rfl⟩ := List.getElem?_eq_some_iff.mp hx
    obtain ⟨h2, rfl⟩ := List.getElem?_eq_some_iff.mp hy
    rcases Nat.lt_or_gt_of_ne n with q | q
    · exact hi a b h1 h2 q
    · exact hs _ _ (hi b a h2 h1 q)

/-- arguments in order, with what is lent -/
inductive CallL (C : Cc) (Z Z' : Addr → Prop) (σ : L2.St) (ρ : Env) (H : Hp) : List Addr → List V → List AV → Prop
  | nil : CallL C Z Z' σ ρ H [] [] []
  | dat {ios : List Addr} {v : V} {d : D} {vs : List V} {as : List AV} : Rp C.K H (Bn Z' σ ρ) v d → CallL C Z Z' σ ρ H ios vs as → CallL C Z Z' σ ρ H ios (v :: vs) (.dat d :: as)
  | io {ios : List Addr} {i : Nat} {a : Addr} {xs : List D} {vs : List V} {as : List AV} : σ[i]? = some (some (V.ref a)) → ρ[i]? = some (.own xs) → a ∉ ios → CallL C Z Z' σ ρ H ios vs as → CallL C Z Z' σ ρ H (a :: ios) (.ref a :: vs) (.io i :: as)
  | tmp {ios : List Addr} {p : Addr} {us : List V} {xs : List D} {vs : List V} {as : List AV} : ¬ Z p → Z' p → H p = some (.lst us) → RpL C.K H (Bn Z' σ ρ) us xs → C.H0 p = none → p ∉ ios → CallL C Z Z' σ ρ H ios vs as → CallL C Z Z' σ ρ H (p :: ios) (.ref p :: vs) (.tmp xs :: as)
theorem CallL.mem {ios : List Addr} (h : CallL C Z Z' σ ρ H ios vs as) : ∀ a ∈ ios, ∃ q ∈ vs.zip as, q.1 = .ref a ∧ q.2.lent := by
  induction h with
  | nil => exact fun a ha => by cases ha
  | dat r _ ih => exact fun a ha => let ⟨q, h1, h2⟩ := ih a ha; ⟨q, List.mem_cons_of_mem _ h1, h2⟩
  | io _ _ _ _ ih =>
    intro a ha
    rcases List.mem_cons.mp ha with q | q
    · subst q
      exact ⟨_, List.mem_cons_self, rfl, trivial⟩
    · obtain ⟨q, h1, h2⟩ := ih a q
      exact ⟨q, List.mem_cons_of_mem _ h1, h2⟩
  | tmp _ _ _ _ _ _ _ ih =>
    intro a ha
    rcases List.mem_cons.mp ha with q | q
    · subst q
      exact ⟨_, List.mem_cons_self, rfl, trivial⟩
    · obtain ⟨q, h1, h2⟩ := ih a q
      exact ⟨q, List.mem_cons_of_mem _ h1, h2⟩
theorem callL_of : ∀ {vs : List V} {as : List AV}, vs.length = as.length → (∀ p ∈ vs.zip as, ArgAt C Z Z' σ ρ H p.1 p.2) → (vs.zip as).Pairwise Apart2 → ∃ ios, CallL C Z Z' σ ρ H ios vs as
  | [], [], _, _, _ => ⟨[], .nil⟩
  | v :: vs, a :: as, hl, h, hp => by
    obtain ⟨p1, p2⟩ := List.pairwise_cons.mp hp
    obtain ⟨ios, ih⟩ := callL_of (vs := vs) (as := as) (by simpa using hl) (fun p hp => h p (List.mem_cons_of_mem _ hp)) p2
    have h0 := h (v, a) List.mem_cons_self
    have nin : ∀ b, a.lent → v = .ref b → b ∉ ios := fun b hl hv hb => by
      obtain ⟨q, q1, q2, q3⟩ := ih.mem b hb
      exact p1 q q1 hl q3 (by rw [hv, q2])
    cases a with
    | dat d => exact ⟨ios, .dat h0 ih⟩
    | io i =>
      obtain ⟨b, xs, rfl, g1, g2⟩ := h0
      exact ⟨b :: ios, .io g1 g2 (nin b trivial rfl) ih⟩
    | tmp xs =>
      obtain ⟨p, us, rfl, g1, g2, g3, g4, g5⟩ := h0
      exact ⟨p :: ios, .tmp g1 g2 g3 g4 g5 (nin p trivial rfl) ih⟩
/-- as the callee sees them -/
theorem CallL.args {ios : List Addr} {B : Addr → Prop} (h : CallL C Z Z' σ ρ H ios vs as) (e : EnvR C Z' σ ρ H) (w : ∀ b, B b → Bn Z' σ ρ b) : ∀ {ss : List Slot}, slotAs ρ as = some ss → ArgL C.K H B ios vs ss := by
  induction h with
  | nil =>
    intro ss h
    cases h
    exact .nil
  | dat r _ ih =>
    intro ss h
    obtain ⟨s, r', h1, h2, rfl⟩ := slotAs_cons h
    cases h1
    exact .dat (r.weak w) (ih h2)
  | io h1 h2 n _ ih =>
    intro ss h
    obtain ⟨s, r', g1, g2, rfl⟩ := slotAs_cons h
    rw [slotA, h2] at g1
    cases g1
    obtain ⟨a, us, k1, k2, k3, _⟩ := e.own _ _ h2
    rw [h1] at k1
    cases k1
    exact .own k2 (k3.weak w) n (ih g2)
  | tmp n z g r h0 nn _ ih =>
    intro ss h
    obtain ⟨s, r', g1, g2, rfl⟩ := slotAs_cons h
    cases g1
    exact .own g (r.weak w) nn (ih g2)
/-- what is lent was banned -/
theorem CallL.bn {ios : List Addr} (h : CallL C Z Z' σ ρ H ios vs as) : ∀ a ∈ ios, (Z' a ∧ ¬ Z a ∧ C.H0 a = none) ∨ ∃ i xs, AV.io i ∈ as ∧ ρ[i]? = some (.own xs) ∧ σ[i]? = some (some (V.ref a)) := by
  induction h with
  | nil => exact fun a ha => by cases ha
  | dat r _ ih => exact fun a ha => (ih a ha).imp id fun ⟨i, xs, h1, h2⟩ => ⟨i, xs, List.mem_cons_of_mem _ h1, h2⟩
  | io h1 h2 n _ ih =>
    intro a ha
    rcases List.mem_cons.mp ha with q | q
    · subst q
      exact .inr ⟨_, _, List.mem_cons_self, h2, h1⟩
    · exact (ih a q).imp id fun ⟨i, xs, h1, h2⟩ => ⟨i, xs, List.mem_cons_of_mem _ h1, h2⟩
  | tmp n z g r h0 nn _ ih =>
    intro a ha
    rcases List.mem_cons.mp ha with q | q
    · subst q
      exact .inl ⟨z, n, h0⟩
    · exact (ih a q).imp id fun ⟨i, xs, h1, h2⟩ => ⟨i, xs, List.mem_cons_of_mem _ h1, h2⟩
/-- the slots behind the call -/
structure SetS (K : PySem.W.Frag) (H' : Hp) (B : Addr → Prop) (σ : L2.St) (ixs : List Nat) (ρ ρ' : Env) : Prop where
  len : ρ'.length = ρ.length
  dat : ∀ (i : Nat) (d : D), ρ'[i]? = some (Slot.dat d) → ρ[i]? = some (Slot.dat d)
  own : ∀ (i : Nat) (xs : List D), ρ'[i]? = some (Slot.own xs) → (i ∉ ixs ∧ ρ[i]? = some (Slot.own xs)) ∨ ((∃ ys, ρ[i]? = some (Slot.own ys)) ∧ ∃ a us, σ[i]? = some (some (V.ref a)) ∧ H' a = some (.lst us) ∧ RpL K H' B us xs)
  to : ∀ (i : Nat) (xs : List D), ρ[i]? = some (Slot.own xs) → ∃ ys, ρ'[i]? = some (Slot.own ys)
theorem CallL.setOwn {ios : List Addr} {B : Addr → Prop} (h : CallL C Z Z' σ ρ H ios vs as) : ∀ {os : List (List D)} {ρc ρ' : Env}, BackL C.K H' B ios os → (∀ i, AV.io i ∈ as → ∃ ys, ρc[i]? = some (.own ys)) → Iv.setOwn ρc as os = some ρ' → SetS C.K H' B σ (ioIx as) ρc ρ' := by
  induction h with
  | nil =>
    intro os ρc ρ' hb hc hs
    cases hb
    cases hs
    exact ⟨rfl, fun _ _ h => h, fun i xs h => .inl ⟨by simp [ioIx], h⟩, fun i xs h => ⟨xs, h⟩⟩
  | dat r _ ih =>
    intro os ρc ρ' hb hc hs
    rw [Iv.setOwn] at hs
    exact ih hb (fun i hi => hc i (List.mem_cons_of_mem _ hi)) hs
  | io h1 h2 n _ ih =>
    rename_i i a xs0 vs as _
    intro os ρc ρ' hb hc hs
    cases hb with
    | cons g1 g2 g3 =>
      rename_i us xs os
      rw [Iv.setOwn] at hs
      obtain ⟨ys0, hy0⟩ := hc i List.mem_cons_self
      have hi : i < ρc.length := getElem?_lt hy0
      have S := ih g3 (fun j hj => by
        by_cases q : i = j
        · subst q
          exact ⟨xs, List.getElem?_set_self hi⟩
        · rw [List.getElem?_set_ne q]
          exact hc j (List.mem_cons_of_mem _ hj)) hs
      refine ⟨by rw [S.len, List.length_set], fun j d hj => ?_, fun j zs hj => ?_, fun j zs hj => ?_⟩
      · have q := S.dat j d hj
        by_cases z : i = j
        · subst z
          rw [List.getElem?_set_self hi] at q
          cases q
        · rwa [List.getElem?_set_ne z] at q
      · rcases S.own j zs hj with ⟨q1, q2⟩ | ⟨⟨ys, q1⟩, q2⟩
        · by_cases z : i = j
          · subst z
            rw [List.getElem?_set_self hi] at q2
            cases q2
            exact .inr ⟨⟨_, hy0⟩, a, us, h1, g1, g2⟩
          · rw [List.getElem?_set_ne z] at q2
            exact .inl ⟨fun q => (List.mem_cons.mp q).elim (fun q => z q.symm) q1, q2⟩
        · by_cases z : i = j
          · subst z
            exact .inr ⟨⟨_, hy0⟩, q2⟩
          · rw [List.getElem?_set_ne z] at q1
            exact .inr ⟨⟨_, q1⟩, q2⟩
      · by_cases z : i = j
        · subst z
          exact S.to i xs (List.getElem?_set_self hi)
        · exact S.to j zs (by rw [List.getElem?_set_ne z]; exact hj)
  | tmp n z g r h0 nn _ ih =>
    intro os ρc ρ' hb hc hs
    cases hb with
    | cons g1 g2 g3 =>
      rw [Iv.setOwn] at hs
      exact ih g3 (fun i hi => hc i (List.mem_cons_of_mem _ hi)) hs
theorem backL_tr {K : PySem.W.Frag} {B : Addr → Prop} {ios : List Addr} {os : List (List D)} (h : BackL K H' B ios os) : ∀ a ∈ ios, ∃ o, H' a = some o := by
  induction h with
  | nil => exact fun a ha => by cases ha
  | cons g _ _ ih =>
    intro a ha
    rcases List.mem_cons.mp ha with q | q
    · subst q
      exact ⟨_, g⟩
    · exact ih a q
/-- the caller's slots behind the call; Y: new, banned as well -/
theorem EnvR.recv {ios : List Addr} {os : List (List D)} {B Y : Addr → Prop} (e : EnvR C Z' σ ρ H) (c : CallL C Z Z' σ ρ H ios vs as) (b : BackR C.K H H' B ios os) (hB : ∀ x, (Bn Z' σ ρ x ∨ Y x) → B x) (hY : ∀ x, Y x → H x = none ∧ ∃ o, H' x = some o)
    (hs : Iv.setOwn ρ as os = some ρ') (tb : LamX.Tabs C.tb H') : EnvR C (fun x => Z' x ∨ Y x) σ ρ' H' ∧ (∀ x, OwnA σ ρ' x → OwnA σ ρ x) ∧ ∀ x o, H x = some o → Nt o → ¬ OwnA σ ρ x → (Z' x → Z x) → H' x = some o := by
  have hio : ∀ i, AV.io i ∈ as → ∃ ys, ρ[i]? = some (.own ys) := fun i hi => by
    clear b hs
    induction c with
    | nil => cases hi
    | dat _ _ ih => exact ih ((List.mem_cons.mp hi).resolve_left fun q => by cases q)
    | io _ h2 _ _ ih =>
      rcases List.mem_cons.mp hi with q | q
      · cases q
        exact ⟨_, h2⟩
      · exact ih q
    | tmp _ _ _ _ _ _ _ ih => exact ih ((List.mem_cons.mp hi).resolve_left fun q => by cases q)
  have S := c.setOwn b.outs hio hs
  have ow : ∀ x, OwnA σ ρ' x → OwnA σ ρ x := fun x ⟨i, xs, h1, h2⟩ => by
    rcases S.own i xs h1 with ⟨_, q⟩ | ⟨⟨ys, q⟩, _⟩
    · exact ⟨i, xs, q, h2⟩
    · exact ⟨i, ys, q, h2⟩
  have bn : ∀ x, Bn (fun x => Z' x ∨ Y x) σ ρ' x → (Bn Z' σ ρ x ∨ Y x) := fun x h => by
    rcases h with (h | h) | h
    · exact .inl (.inl h)
    · exact .inr h
    · exact .inl (.inr (ow x h))
  have ib : ∀ x ∈ ios, Bn Z' σ ρ x := fun x hx => (c.bn x hx).imp (fun h => h.1) fun ⟨i, xs, _, h1, h2⟩ => ⟨i, xs, h1, h2⟩
  have kp : ∀ x o, H x = some o → Nt o → ¬ Bn Z' σ ρ x → H' x = some o ∧ ¬ Bn (fun x => Z' x ∨ Y x) σ ρ' x := fun x o h t n => ⟨b.keep x o h t fun q => n (ib x q), fun q => (bn x q).elim n fun q => by
    rw [(hY x q).1] at h
    cases h⟩
  refine ⟨⟨by rw [S.len]; exact e.len, fun i d h => ?_, fun i xs h => ?_, fun i j a xs ys h1 h2 h3 h4 => ?_, fun x h => ?_, fun x h => .inl (e.z0 x h), fun p hp => ?_, fun x o h t n => ?_, fun x o h => (let ⟨o', z⟩ := e.tr0 x o h; b.tr x o' z), tb, fun x h => e.fresh x (ow x h)⟩, ow, fun x o h t n w => b.keep x o h t fun q => ?_⟩
  · obtain ⟨v, g1, g2⟩ := e.dat i d (S.dat i d h)
    exact ⟨v, g1, g2.keep kp⟩
  · rcases S.own i xs h with ⟨n, q⟩ | ⟨⟨ys, q⟩, a, us, g1, g2, g3⟩
    · obtain ⟨a, us, g1, g2, g3, g4⟩ := e.own i xs q
      have na : a ∉ ios := fun hm => by
        rcases c.bn a hm with ⟨z, _⟩ | ⟨j, ys, k1, k2, k3⟩
        · exact g4 z
        · exact n (ioIx_mem (e.inj i j a xs ys q k2 g1 k3 ▸ k1))
      exact ⟨a, us, g1, b.keep a _ g2 (nt_lst _) na, g3.keep kp, fun z => z.elim g4 fun z => by
        rw [(hY a z).1] at g2
        cases g2⟩
    · obtain ⟨a', us', k1, k2, _, k4⟩ := e.own i ys q
      rw [g1] at k1
      cases k1
      exact ⟨a, us, g1, g2, g3.weak fun x z => hB x (bn x z), fun z => z.elim k4 fun z => by
        rw [(hY a z).1] at k2
        cases k2⟩
  · have back : ∀ (i : Nat) (xs : List D), ρ'[i]? = some (Slot.own xs) → ∃ ys, ρ[i]? = some (Slot.own ys) := fun i xs h => by
      rcases S.own i xs h with ⟨_, q⟩ | ⟨q, _⟩
      · exact ⟨xs, q⟩
      · exact q
    obtain ⟨x1, k1⟩ := back i xs h1
    obtain ⟨x2, k2⟩ := back j ys h2
    exact e.inj i j a x1 x2 k1 k2 h3 h4
  · rcases h with h | h
    · obtain ⟨o, g⟩ := e.zt x h
      exact b.tr x o g
    · exact (hY x h).2
  · obtain ⟨h1, xs, h2⟩ := e.io p hp
    exact ⟨h1, S.to _ _ h2⟩
  · refine b.keep x o (e.keep x o h t n) t fun q => ?_
    rcases c.bn x q with ⟨_, _, z⟩ | ⟨i, xs, _, k2, k3⟩
    · rw [h] at z
      cases z
    · rcases e.fresh x ⟨i, xs, k2, k3⟩ with ⟨p, hp, hx⟩ | z
      · exact n p hp hx
      · rw [h] at z
        cases z
  · rcases c.bn x q with ⟨z, z2, _⟩ | ⟨i, xs, _, k2, k3⟩
    · exact z2 (w z)
    · exact n ⟨i, xs, k2, k3⟩
end

/-! ### the arguments' readings, written ones and those by name -/
section
variable {X : Cx} {C : Cc} {W : WX} {Φ : Phi} {x : Str} {pos : Pos}
theorem evAs_len : ∀ {as : List A} {ρ ρ' : Env} {vs : List AV}, evAs Φ as ρ = .ok vs ρ' → vs.length = as.length
  | [], ρ, ρ', vs, h => by
    simp only [evAs] at h
    cases h
    rfl
  | a :: as, ρ, ρ', vs, h => by
    simp only [evAs] at h
    obtain ⟨d, ρ1, h1, h⟩ := bind_ok h
    obtain ⟨ds, ρ2, h2, h⟩ := bind_ok h
    cases h
    exact congrArg Nat.succ (evAs_len h2)
theorem R.bind_assoc {α β γ : Type} (r : R α) (f : α → Env → R β) (g : β → Env → R γ) : (r.bind f).bind g = r.bind fun a ρ => (f a ρ).bind g := by
  cases r <;> rfl
theorem evAs_app : ∀ (as bs : List A) (ρ : Env), evAs Φ (as ++ bs) ρ = (evAs Φ as ρ).bind fun vs ρ1 => (evAs Φ bs ρ1).bind fun ws ρ2 => .ok (vs ++ ws) ρ2
  | [], bs, ρ => by
    rw [List.nil_append]
    show _ = (evAs Φ [] ρ).bind _
    simp only [evAs]
    show _ = (evAs Φ bs ρ).bind fun ws ρ2 => R.ok ([] ++ ws) ρ2
    cases evAs Φ bs ρ <;> rfl
  | a :: as, bs, ρ => by
    rw [List.cons_append]
    simp only [evAs]
    rw [R.bind_assoc]
    congr 1
    funext d ρ1
    rw [evAs_app as bs ρ1, R.bind_assoc, R.bind_assoc]
    congr 1
    funext ds ρ2
    simp only [R.bind_assoc]
    show _ = (evAs Φ bs ρ2).bind fun ws ρ3 => R.ok (d :: ds ++ ws) ρ3
    congr 1
theorem _root_.L2.PK.imp {e : List Keyword} {t t' : TA} (h : PK X e t) (f : ∀ σ H Q, t' σ H Q → t σ H Q) : PK X e t' := ⟨fun pos pins s σ H Q I q => h.run pos pins s σ H Q I (f _ _ _ q)⟩
theorem asc_read {a : A} {as : List A} {σ : L2.St} {H : Hp} {Q : List V → Hp → Prop} (h : tAs C W (evAs Φ (a :: as)) σ H Q) : tCons (tA C W (evA Φ a)) (tAs C W (evAs Φ as)) σ H Q := by
  obtain ⟨Z, ρ, e, g⟩ := h
  simp only [evAs] at g
  refine ⟨Z, ρ, e, g.bind.and fun av ρ1 H1 e1 s1 k v Z1 up hz e1' r => ?_⟩
  refine ⟨Z1, ρ1, e1', (k.bind.upZ up e1.z0).and fun avs ρ2 H2 e2 s2 k2 vs Z2 up2 hz2 e2' rs => ?_⟩
  have hzz : ∀ b o, H b = some o → Z2 b → Z b := fun b o h z => by
    obtain ⟨o', h'⟩ := s1.tr b o h
    exact hz b o h (hz2 b o' h' z)
  refine k2.now (e2.weakZ up e1.z0) _ Z2 (fun b z => up2 b (up b z)) hzz e2' ?_
  exact (r.step e1' s2 up2 hz2).one rs up fun b ys ha hv => by
    subst ha
    exact r.tmpZ hv
theorem ak_nil : PK X [] (tAs C W (evAs Φ [])) := pk_nil.imp fun σ H Q ⟨Z, ρ, e, g⟩ => by
  simp only [evAs] at g
  exact g.now e _ Z (fun _ z => z) (fun _ _ _ z => z) e .nil
theorem ak_cons {a : A} {as : List A} {nm : Option Str} {e : Expr} {kpos : Pos} {kws : List Keyword} (ha : PE X e (tA C W (evA Φ a))) (hr : PK X kws (tAs C W (evAs Φ as))) : PK X (⟨nm, e, kpos⟩ :: kws) (tAs C W (evAs Φ (a :: as))) := (pk_cons ha hr).imp fun σ H Q h => asc_read h
theorem AvL.app {Zi Z1 Z2 : Addr → Prop} {σ : L2.St} {ρ1 ρ2 : Env} {H1 H2 : Hp} {vs ws : List V} {as bs : List AV} (h : AvL C Z1 σ ρ1 H1 Zi vs as) (e1 : EnvR C Z1 σ ρ1 H1) (s : Stq σ ρ1 H1 σ ρ2 H2) (up : ∀ b, Z1 b → Z2 b) (hz : ∀ b o, H1 b = some o → Z2 b → Z1 b)
    (t : AvL C Z2 σ ρ2 H2 Z1 ws bs) : (∀ b, Zi b → Z1 b) → AvL C Z2 σ ρ2 H2 Zi (vs ++ ws) (as ++ bs) := by
  induction h with
  | nil => exact fun w => t.zi w
  | dat r _ ih => exact fun w => .dat (r.keep (s.bnZ hz)) (ih w)
  | io r _ ih => exact fun w => .io r (ih w)
  | tmp n z hp r h0 _ ih => exact fun w => .tmp n (up _ z) (s.keep _ _ hp (nt_lst _) (e1.nown z)).1 (r.keep (s.bnZ hz)) h0 (ih fun b q => q.elim (w b) fun q => q ▸ z)

/-! ### the call -/
/-- how the arguments are bound -/
structure BindN (fd : FuncData) (ps : List Str) (n : Nat) (names : List Str) (ks : List Nat) : Prop where
  to : ∀ us ws : List Value, us.length = n → ws.length = names.length → bindArgs fd ⟨us, names.zip ws⟩ = pure (ps.zip (permL (us ++ ws) ks))
theorem permL_vals {vs : List V} {us : List Value} (r : Vals vs us) (ks : List Nat) : Vals (permL vs ks) (permL us ks) := by
  unfold permL
  split
  · exact r
  · rename_i h
    clear h
    induction ks with
    | nil => exact .nil
    | cons k ks ih =>
      rw [List.filterMap_cons, List.filterMap_cons]
      cases q : vs[k]? with
      | none =>
        rw [r.none_of q]
        exact ih
      | some v =>
        obtain ⟨u, hu, ru⟩ := r.get q
        rw [hu]
        exact .cons ru ih
section
variable {k n : Nat} {f : Addr} {fd : FuncData} {ps names : List Str} {ks : List Nat} {sp : Sp} {E : XK} {p : Pos} {e : Expr} {es : List Expr} {kws : List Keyword} {t tk : TA}
def tCallG (n m : Nat) (ks : List Nat) (sp : Sp) (W : WX) (t tk : TA) : TE := fun σ H Q => t σ H fun vs H1 => tk σ H1 fun zs H2 => vs.length = n ∧ zs.length = m ∧ sp (permL (vs ++ zs) ks) H2 Q fun cls d H' => W cls d σ H'
theorem run_g {pins : List (Addr × Obj)} {σ : L2.St} {H : Hp} {s : Shared} {Q : VK} {us ws : List Value} {vs zs : List V} (F : FnG X.prog X.w X.K X.mg X.base k f fd ps sp) (hr : RoomG k X.A) (hb : BindN fd ps n names ks) (tk : Takes X W)
    (I : Inv X pins σ H s) (r : Vals vs us) (rz : Vals zs ws) (hn : vs.length = n) (hm : zs.length = names.length) (h : sp (permL (vs ++ zs) ks) H Q fun cls d H' => W cls d σ H') : wpAny (model X.prog X.w) X.A (call (.ref f) us (names.zip ws)) (EP X pins σ Q) X.xe s := by
  have rel := permL_vals (r.append rz) ks
  have bound : BindsTo s fd ⟨us, names.zip ws⟩ (ps.zip (permL (us ++ ws) ks)) := .of_eq (hb.to us ws (r.length.symm.trans hn) (rz.length.symm.trans hm))
  apply wpAny_call
  refine codeAny_mono (F.run X.A X.stack s H _ _ _ Q _ hr I.env0 bound rel h) fun res s' ended => ?_
  cases res with
  | ok fl =>
    cases fl with
    | ret u => exact I.after ended
    | next => exact ended.elim
    | brk => exact ended.elim
    | cont => exact ended.elim
  | error ex => exact tk ex s' (XE.of_call I (fun _ _ _ w => w) ended)
theorem pe_g (F : FnG X.prog X.w X.K X.mg X.base k f fd ps sp) (hr : RoomG k X.A) (hg : Gl X x) (hm : X.mg x = some (.ref f)) (hk : PySem.W.keepIn X.K (.ref f) = true) (hb : BindN fd ps n names ks) (tx : Takes X W)
    (ha : PA X (e :: es) t) (hkw : PK X kws tk) (hall : (backToKw pos (keywordEach kws X.env)).all (·.1.isSome) = true) (hks : (backToKw pos (keywordEach kws X.env)).filterMap (·.1) = names) (hdb : (x == ("__debug__" : Str)) = false)
    (he : starEach (e :: es) X.env = (false, eval e X.env) :: starEach es X.env) (hpl : ((backTo pos (starEach (e :: es) X.env)).any (·.1) || (backToKw pos (keywordEach kws X.env)).any (·.1.isNone)) = false) :
    PE X (.Call (.Name x p) (e :: es) kws pos) (tCallG n names.length ks sp W t tk) where
  run pins s σ H Q I h := by
    apply wpAny_Call_Name_kw
    apply ld_glob I hg hm ?_ hdb
    apply PySem.W.callWith_KW (h₀ := X.base) I.ok.mod.kin hk hall ?_ hpl he
    refine thn (ha.run pos pins s σ H _ I h) fun us s1 ⟨vs, H1, I1, r, q⟩ => thn (hkw.run pos pins s1 σ H1 _ I1 q) fun ws s2 ⟨zs, H2, I2, rz, l1, l2, q2⟩ => ⟨I2.kIn, ?_⟩
    rw [hks]
    exact run_g F hr hb tx I2 r rz l1 l2 q2
theorem pe_g0 (F : FnG X.prog X.w X.K X.mg X.base k f fd ps sp) (hr : RoomG k X.A) (hg : Gl X x) (hm : X.mg x = some (.ref f)) (hk : PySem.W.keepIn X.K (.ref f) = true) (hb : BindN fd ps 0 names ks) (tx : Takes X W)
    (hkw : PK X kws tk) (hall : (backToKw pos (keywordEach kws X.env)).all (·.1.isSome) = true) (hks : (backToKw pos (keywordEach kws X.env)).filterMap (·.1) = names) (hdb : (x == ("__debug__" : Str)) = false)
    (hpl : ((backTo pos (starEach [] X.env)).any (·.1) || (backToKw pos (keywordEach kws X.env)).any (·.1.isNone)) = false) :
    PE X (.Call (.Name x p) [] kws pos) (tCallG 0 names.length ks sp W tNil tk) where
  run pins s σ H Q I h := by
    apply wpAny_Call_Name_kw
    apply ld_glob I hg hm ?_ hdb
    apply PySem.W.callWith_KW0 (h₀ := X.base) I.ok.mod.kin hk hall ?_ hpl
    refine thn (hkw.run pos pins s σ H _ I h) fun ws s2 ⟨zs, H2, I2, rz, l1, l2, q2⟩ => ⟨I2.kIn, ?_⟩
    rw [hks]
    exact run_g (us := []) (vs := []) F hr hb tx I2 .nil rz l1 l2 q2
end
end
/-! ### the two readings of a call, for a callee of the promise spF -/
section
variable {C : Cc} {W : WX} {Φ : Phi} {x : Str} {fr : Bool} {as1 as2 : List A} {ks : List Nat} {n m : Nat} {σ : L2.St} {H : Hp}
/-- the arguments of both sorts -/
theorem args2 {Z : Addr → Prop} {ρ : Env} {α : Type} {f : List AV → Env → R α} {k : α → Env → Hp → Prop} (e0 : EnvR C Z σ ρ H) (g : Good C W Z σ ρ H ((evAs Φ (as1 ++ as2) ρ).bind f) k) (Q : List V → List V → Hp → Prop)
    (hQ : ∀ vs zs avs ρ2 H2 Z', evAs Φ (as1 ++ as2) ρ = .ok avs ρ2 → vs.length = as1.length → zs.length = as2.length → (∀ b, Z b → Z' b) → (∀ b o, H b = some o → Z' b → Z b) → EnvR C Z' σ ρ2 H2 → Stp σ ρ ρ2 H H2 → AvL C Z' σ ρ2 H2 Z (vs ++ zs) avs → Q vs zs H2) :
    tAs C W (evAs Φ as1) σ H fun vs H1 => tAs C W (evAs Φ as2) σ H1 fun zs H2 => Q vs zs H2 := by
  rw [evAs_app, R.bind_assoc] at g
  refine ⟨Z, ρ, e0, g.bind.eq.and fun av1 ρ1 H1 e1 s1 ⟨q1, k1⟩ vs Z1 up1 hz1 e1' r1 => ?_⟩
  rw [R.bind_assoc] at k1
  refine ⟨Z1, ρ1, e1', (k1.bind.upZ up1 e1.z0).eq.and fun av2 ρ2 H2 e2 s2 ⟨q2, k2⟩ zs Z2 up2 hz2 e2' r2 => ?_⟩
  refine hQ vs zs (av1 ++ av2) ρ2 H2 Z2 ?_ (r1.len.trans (evAs_len q1)) (r2.len.trans (evAs_len q2)) (fun b z => up2 b (up1 b z)) (fun b o h z => ?_) e2' (s1.trans s2) ?_
  · rw [evAs_app, q1]
    show (evAs Φ as2 ρ1).bind _ = _
    rw [q2]
    rfl
  · obtain ⟨o', h'⟩ := s1.tr b o h
    exact hz1 b o h (hz2 b o' h' z)
  · exact r1.app e1' s2 up2 hz2 r2 up1
theorem slotAs_own {ρ : Env} {i : Nat} : ∀ {as : List AV} {ss : List Slot}, slotAs ρ as = some ss → AV.io i ∈ as → ∃ xs, ρ[i]? = some (.own xs)
  | a :: as, ss, h, hi => by
    obtain ⟨s, r, h1, h2, rfl⟩ := slotAs_cons h
    rcases List.mem_cons.mp hi with q | q
    · subst q
      rw [slotA] at h1
      split at h1
      · rename_i xs hx
        exact ⟨xs, hx⟩
      · cases h1
    · exact slotAs_own h2 q
theorem call_core {Z : Addr → Prop} {ρ : Env} {k : D → Env → Hp → Prop} {Q : VK} (e0 : EnvR C Z σ ρ H) (g : Good C W Z σ ρ H ((evAs Φ (as1 ++ as2) ρ).bind fun vs ρ1 => callD Φ x vs ks ρ1) k) (hn : as1.length = n) (hm : as2.length = m)
    (hk : ∀ d ρ' H3 v, k d ρ' H3 → EnvR C Z σ ρ' H3 → EnvR C (fun b => Z b ∨ (fr = true ∧ v = .ref b)) σ ρ' H3 → Rp C.K H3 (Bn Z σ ρ') v d → (fr = true → ∃ p vs ds, v = .ref p ∧ d = .lst ds ∧ H p = none ∧ H3 p = some (.lst vs) ∧ RpL C.K H3 (Bn (fun b => Z b ∨ b = p) σ ρ') vs ds) → Q v H3) :
    tCallG n m ks (spF C.K C.cl C.tb fr (Φ x)) W (tAs C W (evAs Φ as1)) (tAs C W (evAs Φ as2)) σ H Q := by
  refine args2 e0 g _ fun vs zs avs ρ2 H2 Z' hq l1 l2 up hz e2 st al => ⟨l1.trans hn, l2.trans hm, ?_⟩
  rw [hq] at g
  have g : Good C W Z σ ρ H (callD Φ x avs ks ρ2) k := g
  unfold callD at g
  by_cases hc : ks.Nodup ∧ (ioIx avs).Nodup ∧ (slotAs ρ2 avs).isSome = true
  · rw [if_pos hc] at g
    obtain ⟨nd, nd2, hso⟩ := hc
    obtain ⟨s0, hs0⟩ := Option.isSome_iff_exists.mp hso
    have io : IoOwn ρ2 avs := fun i hi => slotAs_own hs0 hi
    cases hss : slotAs ρ2 (permL avs ks) with
    | none =>
      rw [hss] at g
      exact g.elim
    | some ss =>
      simp only [hss] at g
      obtain ⟨pz, pl⟩ := permL_zip al.len ks
      have h1 := al.at (Z := Z) e2 (fun _ z => z) io
      have h2 := al.apart e2 io nd2
      obtain ⟨ios, c⟩ := callL_of (C := C) (Z := Z) (Z' := Z') (σ := σ) (ρ := ρ2) (H := H2) pl (by
        rw [pz]
        exact fun p hp => h1 p (permL_mem hp)) (by
        rw [pz]
        exact permL_pair (fun a b r hb ha e => r ha hb e.symm) h2 nd)
      have ib : ∀ b ∈ ios, Bn Z' σ ρ2 b := fun b hb => (c.bn b hb).imp (fun h => h.1) fun ⟨i, xs, _, h1, h2⟩ => ⟨i, xs, h1, h2⟩
      have w : ∀ b, ((Bn Z' σ ρ2 b ∧ b ∉ ios) ∨ b ∈ ios) → Bn Z' σ ρ2 b := fun b h => h.elim (fun h => h.1) (ib b)
      have w' : ∀ b, Bn Z' σ ρ2 b → ((Bn Z' σ ρ2 b ∧ b ∉ ios) ∨ b ∈ ios) := fun b h => by
        by_cases q : b ∈ ios
        · exact .inr q
        · exact .inl ⟨h, q⟩
      refine ⟨ss, fun b => Bn Z' σ ρ2 b ∧ b ∉ ios, ios, e2.tab, fun b h => e2.there b h.1, fun a ha h => h.2 ha, c.args e2 w hss, ?_⟩
      have stp : ∀ {ρ' : Env} {H3 : Hp} {B : Addr → Prop} {os : List (List D)}, BackR C.K H2 H3 B ios os → (∀ x, OwnA σ ρ' x → OwnA σ ρ2 x) → (∀ x o, H2 x = some o → Nt o → ¬ OwnA σ ρ2 x → (Z' x → Z x) → H3 x = some o) → Stp σ ρ ρ' H H3 := fun {ρ' H3 B os} back f1 f2 =>
        ⟨fun b o h t nb => ⟨f2 b o (st.keep b o h t nb).1 t (st.keep b o h t nb).2 (hz b o h), fun z => (st.keep b o h t nb).2 (f1 b z)⟩, fun b o h => by
          obtain ⟨o', h'⟩ := st.tr b o h
          exact back.tr b o' h'⟩
      cases hφ : Φ x ss with
      | stuck =>
        rw [hφ] at g
        exact g.elim
      | ok d os =>
        simp only [hφ] at g
        cases hs : Iv.setOwn ρ2 (permL avs ks) os with
        | none =>
          rw [hs] at g
          exact g.elim
        | some ρ' =>
          simp only [hs] at g
          intro v H3 tab back res
          obtain ⟨res1, res2⟩ := res
          have hY : ∀ b, (fr = true ∧ v = V.ref b) → H2 b = none ∧ ∃ o, H3 b = some o := fun b ⟨h, hv⟩ => by
            obtain ⟨p, us, ds, q1, q2, q3, q4, _⟩ := res2 h
            rw [hv] at q1
            cases q1
            exact ⟨q4, _, q3⟩
          obtain ⟨e3, f1, f2⟩ := e2.recv c back (fun b h => h.imp (w' b) id) hY hs tab
          have e3z : EnvR C Z σ ρ' H3 := e3.weakZ (fun b h => .inl (up b h)) e0.z0
          have bn : ∀ b, Bn Z σ ρ' b → Bn Z' σ ρ2 b := fun b h => h.imp (up b) (f1 b)
          refine hk d ρ' H3 v (g H3 e3z (stp back f1 f2)) e3z (e3.weakZ (fun b h => h.imp (up b) id) fun b h => .inl (e0.z0 b h)) (res1.weak fun b h => w' b (bn b h)) fun hfr => ?_
          obtain ⟨p, us, ds, q1, q2, q3, q4, q5⟩ := res2 hfr
          refine ⟨p, us, ds, q1, q2, ?_, q3, q5.weak fun b h => ?_⟩
          · cases hp : H p with
            | none => rfl
            | some o =>
              obtain ⟨o', h'⟩ := st.tr p o hp
              rw [q4] at h'
              cases h'
          · rcases h with (h | h) | h
            · exact .inl (w' b (bn b (.inl h)))
            · exact .inr h
            · exact .inl (w' b (bn b (.inr h)))
      | exc cc pp os =>
        simp only [hφ] at g
        cases hs : Iv.setOwn ρ2 (permL avs ks) os with
        | none =>
          rw [hs] at g
          exact g.elim
        | some ρ' =>
          simp only [hs] at g
          intro cls dd H3 tab back ex
          obtain ⟨e3, f1, f2⟩ := e2.recv (Y := fun _ => False) c back (fun b h => h.elim (w' b) False.elim) (fun _ h => h.elim) hs tab
          have e3z : EnvR C Z σ ρ' H3 := e3.weakZ (fun b h => .inl (up b h)) e0.z0
          refine g cls dd H3 e3z (stp back f1 f2) ?_
          obtain ⟨x1, d, vfs, x2, x3, x4⟩ := ex
          exact ⟨x1, d, vfs, x2, x3, Paired.mapP x4 fun a b q => ⟨q.1, q.2.weak fun b h => w' b (h.imp (up b) (f1 b))⟩⟩
  · rw [if_neg hc] at g
    exact g.elim
theorem e_callR (hn : as1.length = n) (hm : as2.length = m) {Q : VK} (h : tE C W (evE Φ (.call x (as1 ++ as2) ks)) σ H Q) : tCallG n m ks (spF C.K C.cl C.tb fr (Φ x)) W (tAs C W (evAs Φ as1)) (tAs C W (evAs Φ as2)) σ H Q := by
  obtain ⟨Z, ρ, e0, g⟩ := h
  simp only [evE] at g
  exact call_core e0 g hn hm fun d ρ' H3 v k _ _ r _ => k v r
theorem evL_call (as : List A) (ρ : Env) : evL Φ (.call x as ks) ρ = ((evAs Φ as ρ).bind fun vs ρ1 => callD Φ x vs ks ρ1).bind fun d ρ2 => match d with
    | .lst xs => .ok xs ρ2
    | _ => .stuck := by
  simp only [evL]
  rw [R.bind_assoc]
  congr 1
  funext vs ρ1
  cases callD Φ x vs ks ρ1 with
  | ok d ρ2 => cases d <;> rfl
  | exc c p ρ2 => rfl
  | stuck => rfl
theorem l_callR (hn : as1.length = n) (hm : as2.length = m) {Q : VK} (h : tL C W (evL Φ (.call x (as1 ++ as2) ks)) σ H Q) : tCallG n m ks (spF C.K C.cl C.tb true (Φ x)) W (tAs C W (evAs Φ as1)) (tAs C W (evAs Φ as2)) σ H Q := by
  obtain ⟨Z, ρ, e0, g⟩ := h
  rw [evL_call] at g
  refine call_core (fr := true) e0 g.bind hn hm fun d ρ' H3 v k e3 e4 r f => ?_
  obtain ⟨p, vs, ds, rfl, rfl, h1, h2, h3⟩ := f rfl
  have k := k.now e3
  refine k p vs h1 ?_ h2 h3
  refine e4.weakZ (fun b z => z.imp id fun z => ⟨rfl, by rw [z]⟩) fun b z => .inl (e0.z0 b z)
end
end Iv
set_option Elab.async false
set_option linter.all false
set_option maxRecDepth 100000
set_option maxHeartbeats 2000000
/-! Iu4: a set comprehension of ints with two clauses (turned from the kit's list comprehension of two and its set comprehension of one). -/
namespace Iv
open PySem PySem.Spec PyProof.Rows L2

theorem compTurnS2_out (elt t0 i0 t1 i1 : Expr) (ifs0 ifs1 : List Expr) (scope : Scope) (pos : Pos) (it acc : Value) (env : PySem.Env) :
    compTurn (.SetComp elt [⟨t0, i0, ifs0, 0⟩, ⟨t1, i1, ifs1, 0⟩] scope pos) 0 it acc env = (do
      standAt i0.pos
      match ← pyNext it with
      | none => pure (.done .next)
      | some v =>
        letOwnedTupleGo t0 it v
        assign t0 env v
        let mut ok := true
        for c in ifs0 do
          if ok then ok ← isTrue c env (eval c env)
        if ok then
          let x ← eval i1 env
          standAt i1.pos
          let x ← foldedSetIterable i1 env x
          let _ ← runOwn (.compStart (.SetComp elt [⟨t0, i0, ifs0, 0⟩, ⟨t1, i1, ifs1, 0⟩] scope pos) 1 (← holding [x] (pyIter x)) acc env) env
        again (.compLoop (.SetComp elt [⟨t0, i0, ifs0, 0⟩, ⟨t1, i1, ifs1, 0⟩] scope pos) 0 it acc env)) := by rfl
theorem compTurnS2_in (elt t0 i0 t1 i1 : Expr) (ifs0 ifs1 : List Expr) (scope : Scope) (pos : Pos) (it acc : Value) (env : PySem.Env) :
    compTurn (.SetComp elt [⟨t0, i0, ifs0, 0⟩, ⟨t1, i1, ifs1, 0⟩] scope pos) 1 it acc env = (do
      standAt i1.pos
      match ← pyNext it with
      | none => pure (.done .next)
      | some v =>
        letOwnedTupleGo t1 it v
        assign t1 env v
        let mut ok := true
        for c in ifs1 do
          if ok then ok ← isTrue c env (eval c env)
        if ok then
          (do let v ← eval elt env; standAt elt.pos; let _ ← call (.builtin "set.add") [acc, v])
        again (.compLoop (.SetComp elt [⟨t0, i0, ifs0, 0⟩, ⟨t1, i1, ifs1, 0⟩] scope pos) 1 it acc env)) := by rfl

section
variable {prog : Program} {w : World} {A : Around} {R : Result → Shared → Prop} {s : Shared} {elt t0 i0 t1 i1 : Expr} {ifs0 ifs1 : List Expr} {scope : Scope} {pos : Pos} {it acc : Value} {env : PySem.Env}
/-- the loop of the first clause -/
theorem compLoopS2_out (hs : ∀ x, foldedSetIterable i1 env x = pure x) (I : Nat → Shared → Prop)
    (turn : ∀ n s, I n s → wpAny (model prog w) A (pyNext it) (fun r s₁ => match r with
      | none => R (.ok .next) s₁
      | some v => wpAny (model prog w) A (letOwnedTupleGo t0 it v) (fun _ s₁' => wpAny (model prog w) A (assign t0 env v) (fun _ s₂ =>
          wpAny (model prog w) A (forIn ifs0 true fun c r => if r = true then do let ok ← isTrue c env (eval c env); pure (ForInStep.yield ok) else pure (ForInStep.yield r)) (fun ok s₃ =>
            if ok = true then wpAny (model prog w) A (eval i1 env) (fun x s₄ => wpAny (model prog w) A (pyIter x) (fun it1 s₅ =>
              codeAny (model prog w) A (.compStart (.SetComp elt [⟨t0, i0, ifs0, 0⟩, ⟨t1, i1, ifs1, 0⟩] scope pos) 1 it1 acc env) (fun r s' => match r with
                | .ok _ => ∃ m, m < n ∧ I m s'
                | .error _ => False) s₅) (notedBy (model prog w) A env fun e s' => R (.error e) s') s₄) (notedBy (model prog w) A env fun e s' => R (.error e) s') s₃
            else ∃ m, m < n ∧ I m s₃) (notedBy (model prog w) A env fun e s' => R (.error e) s') s₂) (notedBy (model prog w) A env fun e s' => R (.error e) s') s₁') (notedBy (model prog w) A env fun e s' => R (.error e) s') s₁) (notedBy (model prog w) A env fun e s' => R (.error e) s') s)
    (n : Nat) (h : I n s) :
    codeAny (model prog w) A (.compLoop (.SetComp elt [⟨t0, i0, ifs0, 0⟩, ⟨t1, i1, ifs1, 0⟩] scope pos) 0 it acc env) R s := by
  refine codeAny_loop rfl I (fun n s hI => ?_) n h
  show wpAny _ A ((compTurn (.SetComp elt [⟨t0, i0, ifs0, 0⟩, ⟨t1, i1, ifs1, 0⟩] scope pos) 0 it acc env).onRaise (fun x => do noteFrame x env; theTreesLotGoes x)) _ _ s
  refine wpAny_noted ?_
  rw [compTurnS2_out]
  refine wpAny_bind (wpAny_standAt (wpAny_bind (wpAny_mono (turn n s hI) (fun r s₁ h₁ => ?_) fun _ _ h' => h')))
  cases r with
  | none => exact wpAny_pure h₁
  | some v =>
    refine wpAny_bind (wpAny_mono h₁ (fun _ s₁' h₁' => ?_) fun _ _ h' => h')
    refine wpAny_bind (wpAny_mono h₁' (fun _ s₂ h₂ => wpAny_bind (wpAny_mono h₂ (fun ok s₃ h₃ => ?_) fun _ _ h' => h')) fun _ _ h' => h')
    cases ok with
    | false => exact wpAny_pure ⟨rfl, h₃⟩
    | true =>
      refine wpAny_bind (wpAny_mono h₃ (fun x s₄ h₄ => ?_) fun _ _ h' => h')
      refine wpAny_bind (wpAny_standAt (wpAny_bind (wpAny_of_eq (hs x) (wpAny_bind (wpAny_holding (wpAny_mono h₄ (fun it1 s₅ h₅ => ?_) fun _ _ h' => h'))))))
      refine wpAny_bind (wpAny_runOwn ?_)
      rw [Around.mark_none]
      refine codeAny_mono h₅ fun r s' hr => ?_
      cases r with
      | ok f =>
        first
          | exact wpAny_pure ⟨rfl, hr⟩
          | exact wpAny_bind (wpAny_pure (wpAny_pure ⟨rfl, hr⟩))
      | error e => exact hr.elim
/-- the loop of the second -/
theorem compLoopS2_in (I : Nat → Shared → Prop)
    (turn : ∀ n s, I n s → wpAny (model prog w) A (pyNext it) (fun r s₁ => match r with
      | none => R (.ok .next) s₁
      | some v => wpAny (model prog w) A (letOwnedTupleGo t1 it v) (fun _ s₁' => wpAny (model prog w) A (assign t1 env v) (fun _ s₂ =>
          wpAny (model prog w) A (forIn ifs1 true fun c r => if r = true then do let ok ← isTrue c env (eval c env); pure (ForInStep.yield ok) else pure (ForInStep.yield r)) (fun ok s₃ =>
            if ok = true then wpAny (model prog w) A (eval elt env) (fun x s₄ =>
              wpAny (model prog w) A (call (.builtin "set.add") [acc, x]) (fun _ s₅ => ∃ m, m < n ∧ I m s₅) (notedBy (model prog w) A env fun e s' => R (.error e) s') s₄) (notedBy (model prog w) A env fun e s' => R (.error e) s') s₃
            else ∃ m, m < n ∧ I m s₃) (notedBy (model prog w) A env fun e s' => R (.error e) s') s₂) (notedBy (model prog w) A env fun e s' => R (.error e) s') s₁') (notedBy (model prog w) A env fun e s' => R (.error e) s') s₁) (notedBy (model prog w) A env fun e s' => R (.error e) s') s)
    (n : Nat) (h : I n s) :
    codeAny (model prog w) A (.compLoop (.SetComp elt [⟨t0, i0, ifs0, 0⟩, ⟨t1, i1, ifs1, 0⟩] scope pos) 1 it acc env) R s := by
  refine codeAny_loop rfl I (fun n s hI => ?_) n h
  show wpAny _ A ((compTurn (.SetComp elt [⟨t0, i0, ifs0, 0⟩, ⟨t1, i1, ifs1, 0⟩] scope pos) 1 it acc env).onRaise (fun x => do noteFrame x env; theTreesLotGoes x)) _ _ s
  refine wpAny_noted ?_
  rw [compTurnS2_in]
  refine wpAny_bind (wpAny_standAt (wpAny_bind (wpAny_mono (turn n s hI) (fun r s₁ h₁ => ?_) fun _ _ h' => h')))
  cases r with
  | none => exact wpAny_pure h₁
  | some v =>
    refine wpAny_bind (wpAny_mono h₁ (fun _ s₁' h₁' => ?_) fun _ _ h' => h')
    refine wpAny_bind (wpAny_mono h₁' (fun _ s₂ h₂ => wpAny_bind (wpAny_mono h₂ (fun ok s₃ h₃ => ?_) fun _ _ h' => h')) fun _ _ h' => h')
    cases ok with
    | false => exact wpAny_pure ⟨rfl, h₃⟩
    | true =>
      exact wpAny_bind (wpAny_bind (wpAny_mono h₃ (fun x s₄ h₄ => wpAny_bind (wpAny_standAt (wpAny_bind (wpAny_mono h₄ (fun _ s₅ h₅ => wpAny_pure (wpAny_pure ⟨rfl, h₅⟩)) fun _ _ h' => h')))) fun _ _ h' => h'))
/-- the second clause's start -/
theorem compStartS1_ok (h0 : codeAny (model prog w) A (.compLoop (.SetComp elt [⟨t0, i0, ifs0, 0⟩, ⟨t1, i1, ifs1, 0⟩] scope pos) 1 it acc env) R s)
    (h : wpAny (model prog w) A (pyIter it) (fun it' s' => codeAny (model prog w) A (.compLoop (.SetComp elt [⟨t0, i0, ifs0, 0⟩, ⟨t1, i1, ifs1, 0⟩] scope pos) 1 it' acc env) R s')
      (notedBy (model prog w) A env fun x s' => R (.error x) s') s) :
    codeAny (model prog w) A (.compStart (.SetComp elt [⟨t0, i0, ifs0, 0⟩, ⟨t1, i1, ifs1, 0⟩] scope pos) 1 it acc env) R s := by
  refine codeAny_of_tree ?_
  show wpAny _ _ ((compStart (.SetComp elt [⟨t0, i0, ifs0, 0⟩, ⟨t1, i1, ifs1, 0⟩] scope pos) 1 it acc env).onRaise (fun x => do noteFrame x env; standAt theWindowsPlace)) _ _ s
  refine wpAny_notedAt ?_
  unfold compStart
  show wpAny _ _ (ask >>= _) _ _ s
  refine wpAny_bind (wpAny_askSetting (wpAny_ite ?_))
  split
  · first
      | exact wpAny_bind (wpAny_pure (wpAny_pure (And.intro rfl h0)))
      | exact wpAny_pure (And.intro rfl h0)
  · first
      | exact wpAny_bind (wpAny_rule (wpAny_bind (wpAny_standAt (wpAny_bind (wpAny_mono h (fun it' s' h' => wpAny_pure (And.intro rfl h')) fun _ _ x => x)))))
      | (refine wpAny_bind (wpAny_rule ?_); show wpAny _ _ (standAt i1.pos >>= _) _ _ s; exact wpAny_bind (wpAny_standAt (wpAny_bind (wpAny_mono h (fun it' s' h' => wpAny_pure (And.intro rfl h')) fun _ _ x => x))))
end
section
variable {X : Cx}
theorem addI_ok {pins : List (Addr × Obj)} {σ : L2.St} {H : Hp} {s : Shared} {E : Value → Shared → Prop} {D : Addr} {S : Int → Bool} {n : Nat} {y : Int} {tk : Tok} {Q : Value → Shared → Prop} (I : Inv X pins σ H s) (hD : H D = some (SetO X.w D S n)) (room : n + 1 < scanBound)
    (h : ∀ s', Inv X pins σ (upd H D (SetO X.w D (fun j => S j || decide (j = y)) (if S y = true then n else n + 1))) s' → Q .none s') : wpAny (model X.prog X.w) X.A (call (.builtin "set.add") [.ref D, .int y tk]) Q E s := by
  have R := setO_get I hD
  refine setR_add R room fun h' sb new => ?_
  have he : ∃ u, h'.get? D = some u := by
    have ⟨o, _, _, _, ho, _⟩ := new
    exact ⟨o, ho⟩
  exact h _ (I.write (e := D) (t' := s.toks + 1) (by rw [hD]; trivial) (.inl rfl) (fun b u hb hu => (sb.2 b hb).trans hu) he (setO_new new))
end
section
variable {X : Cx}
/-- {elt for tg in iter if .. for tg1 in iter1 if ..}: behind the first clause's store and tests the second source's own loop, from which Nx is reached. vs: the block's names; vs1: those of the second target -/
def tSc2 (w : World) (wi : TI) (g : TG) (tt : TT) (wi1 : TI) (g1 : TG) (tt1 : TT) (te : TE) (vs vs1 : List Nat) : TE := fun σ H Q => wi σ H fun J H1 => ∀ D, H1 D = none → ∃ W : Nat → Nat → Hp → Prop, (∃ m, W 0 m (upd H1 D (SetO w D (fun _ => false) 0))) ∧ ∀ i m H, W i m H →
  (J.stop i H ∧ Q (.ref D) H) ∨ (J.go i H ∧ ∃ Nx : Hp → Prop, (∀ H', Nx H' → ∃ m', m' < m ∧ W (i + 1) m' H') ∧ ∀ x H', J.yld i H x H' → g x (wipe σ vs) H' fun σ2 H2 => wipe σ2 vs = wipe σ vs ∧ tt σ2 H2 fun b H3 =>
    if b = true then wi1 σ2 H3 fun J1 H4 => ∃ W1 : Nat → Nat → Hp → Prop, (∃ m, W1 0 m H4) ∧ ∀ j k H, W1 j k H →
      (J1.stop j H ∧ Nx H) ∨ (J1.go j H ∧ ∃ Nx1 : Hp → Prop, (∀ H', Nx1 H' → ∃ k', k' < k ∧ W1 (j + 1) k' H') ∧ ∀ x H', J1.yld j H x H' → g1 x (wipe σ2 vs1) H' fun σ3 H5 => wipe σ3 vs1 = wipe σ2 vs1 ∧ tt1 σ3 H5 fun b H6 =>
        if b = true then te σ3 H6 fun y H7 => ∃ (c : Int) (S : Int → Bool) (n : Nat), y = .int c ∧ H7 D = some (SetO w D S n) ∧ n + 1 < scanBound ∧ Nx1 (upd H7 D (SetO w D (fun j => S j || decide (j = c)) (if S c = true then n else n + 1))) else Nx1 H6)
    else Nx H3)
theorem sc2_core {pins : List (Addr × Obj)} {s : Shared} {σ : L2.St} {H : Hp} {Q : VK} {elt tg iter tg1 iter1 : Expr} {ifs ifs1 : List Expr} {scope : Scope} {own : List (Str × Nat)} {vs1 : List Nat} {pos pos' : Pos} {wi wi1 : TI} {g g1 : TG} {tt tt1 : TT} {te : TE} {use : Option (Value → Sem Unit)} {Qf : Value → Shared → Prop}
    (hc : X.calm = true) (hN : X.N.Nodup) (I : Inv X pins σ H s) (hi : PI X tg iter wi) (ok : BlkOk X.N X.env.scope scope own) (hv : ∀ i ∈ vs1, i ∈ own.map (·.2))
    (hg : ∀ (s : Shared) (H : Hp) (C : Addr) (cl : List (Str × Addr)) (fp : List Addr), PG (X.blk s H scope (compEnvC scope cl C X.env) fp) tg g) (ht : ∀ (s : Shared) (H : Hp) (C : Addr) (cl : List (Str × Addr)) (fp : List Addr), PTs (X.blk s H scope (compEnvC scope cl C X.env) fp) ifs tt)
    (he : ∀ (s : Shared) (H : Hp) (C : Addr) (cl : List (Str × Addr)) (fp : List Addr), PE (X.blk s H scope (compEnvC scope cl C X.env) fp) elt te) (hs : ∀ x, foldedSetIterable iter X.env x = pure x)
    (hi1 : ∀ (s : Shared) (H : Hp) (C : Addr) (cl : List (Str × Addr)) (fp : List Addr), PI (X.blk s H scope (compEnvC scope cl C X.env) fp) tg1 iter1 wi1)
    (hg1 : ∀ (s : Shared) (H : Hp) (C : Addr) (cl : List (Str × Addr)) (fp : List Addr), PG (X.blk s H scope (compEnvC scope cl C X.env) fp) tg1 g1)
    (ht1 : ∀ (s : Shared) (H : Hp) (C : Addr) (cl : List (Str × Addr)) (fp : List Addr), PTs (X.blk s H scope (compEnvC scope cl C X.env) fp) ifs1 tt1)
    (hs1 : ∀ (env : PySem.Env) x, foldedSetIterable iter1 env x = pure x)
    (h : tSc2 X.w wi g tt wi1 g1 tt1 te (own.map (·.2)) vs1 σ H Q)
    (hRR : ∀ D C s' m H', Inv X pins σ H' s' → Q (.ref D) H' → s'.heap.Ns C m → FpOk X pins H' C → compPost (model X.prog X.w) X.A X.xe use Qf (.ref D) C (.ok .next) s') :
    wpAny (model X.prog X.w) X.A (comprehension (.SetComp elt [⟨tg, iter, ifs, 0⟩, ⟨tg1, iter1, ifs1, 0⟩] scope pos) scope X.env pos' (newSet (.type "set")) false (eval iter X.env) use) Qf X.xe s := by
  have hfree : ∀ y ∈ scope.names, y.2 = .free → ∃ c, X.env.cells.lookup y.1 = some c := fun y hy e => by
    rcases ok.free y hy e with k | k
    · exact I.ok.has _ (.inl k)
    · exact I.ok.has _ (.inr k)
  refine wpAny_comprehension_free (use := use) rfl hs (closure_ok hfree) ok.kind (fun y hy e => by rw [ok.uniq y hy, e])
    (thn (hi.run pins s σ H _ I h) fun xv s1 hx => thn hx fun itv s2 h2 => ?_)
  obtain ⟨it, fp, tn, J, H2, e, I2, T, st2, f2, q⟩ := h2
  subst e
  refine PpSet.newSet_ok (newEnv_comp ?_)
  generalize hD : s2.heap.objs.size = D
  have hDn : H2 D = none := I2.hok.fresh (Nat.le_of_eq hD)
  obtain ⟨W, ⟨m0, w0⟩, turn⟩ := q D hDn
  -- the new list
  generalize hs3 : ({ s2 with heap := s2.heap.push { cls := .type "set", dict := none, data := .set #[] 0 (.fresh 0 0 (!X.w.params.followText "set-order")) } } : Shared) = s3
  have I3 : Inv X pins σ (upd H2 D (SetO X.w D (fun _ => false) 0)) s3 := by
    rw [← hs3]
    refine I2.laid (t' := s2.toks) (fun b o e => Heap.get?_push_of_some _ e) (Nat.le_of_eq hD) ?_
    rw [← hD]
    exact setO_new (setR_fresh X.w)
  have h3 : s3.heap = s2.heap.push { cls := .type "set", dict := none, data := .set #[] 0 (.fresh 0 0 (!X.w.params.followText "set-order")) } := by rw [← hs3]
  have sz : ∀ b ∈ fp, b < s2.heap.objs.size := fun b hb => by
    obtain ⟨o, e, _⟩ := T.obj _ _ st2 b hb
    exact Heap.lt_size e
  have f3 : ∀ b ∈ fp, FpOk X pins (upd H2 D (SetO X.w D (fun _ => false) 0)) b ∧ b < s3.heap.objs.size := fun b hb => by
    have hlt := sz b hb
    refine ⟨⟨?_, (f2 b hb).2⟩, by rw [h3, Heap.size_push]; exact Nat.lt_succ_of_lt hlt⟩
    rw [upd_ne (by rw [← hD]; exact Nat.ne_of_lt hlt)]
    exact (f2 b hb).1
  have st3 : tn 0 s3.heap := T.keep _ _ _ st2 fun b _ o e => by rw [h3]; exact Heap.get?_push_of_some _ e
  have I4 := block_start I3 ok hN f3
  have pg := hg s3 (upd H2 D (SetO X.w D (fun _ => false) 0)) s3.heap.objs.size (cellsFrom (s3.heap.objs.size + 1) scope.names (cloFrom X.env.cells scope.names [])) fp
  have pt := ht s3 (upd H2 D (SetO X.w D (fun _ => false) 0)) s3.heap.objs.size (cellsFrom (s3.heap.objs.size + 1) scope.names (cloFrom X.env.cells scope.names [])) fp
  have pe := he s3 (upd H2 D (SetO X.w D (fun _ => false) 0)) s3.heap.objs.size (cellsFrom (s3.heap.objs.size + 1) scope.names (cloFrom X.env.cells scope.names [])) fp
  have pi1 := hi1 s3 (upd H2 D (SetO X.w D (fun _ => false) 0)) s3.heap.objs.size (cellsFrom (s3.heap.objs.size + 1) scope.names (cloFrom X.env.cells scope.names [])) fp
  have pg1 := hg1 s3 (upd H2 D (SetO X.w D (fun _ => false) 0)) s3.heap.objs.size (cellsFrom (s3.heap.objs.size + 1) scope.names (cloFrom X.env.cells scope.names [])) fp
  have pt1 := ht1 s3 (upd H2 D (SetO X.w D (fun _ => false) 0)) s3.heap.objs.size (cellsFrom (s3.heap.objs.size + 1) scope.names (cloFrom X.env.cells scope.names [])) fp
  show codeAny _ _ (.compStart (.SetComp elt [⟨tg, iter, ifs, 0⟩, ⟨tg1, iter1, ifs1, 0⟩] scope pos) 0 (.ref it) (.ref D) (compEnvC scope (cellsFrom (s3.heap.objs.size + 1) scope.names (cloFrom X.env.cells scope.names [])) s3.heap.objs.size X.env)) (compPost (model X.prog X.w) X.A X.xe use Qf (.ref D) s3.heap.objs.size) { s3 with heap := pushCells (s3.heap.push { cls := .type "dict", data := .dict #[] }) scope.names }
  have nfp : ∀ b ∈ fp, (upd H2 D (SetO X.w D (fun _ => false) 0)) b = none := fun b hb => (f3 b hb).1.1
  generalize hce : compEnvC scope (cellsFrom (s3.heap.objs.size + 1) scope.names (cloFrom X.env.cells scope.names [])) s3.heap.objs.size X.env = ce at I4 pg pt pe pi1 pg1 pt1 ⊢
  have cL : ce.locals = s3.heap.objs.size := by subst hce; rfl
  generalize hH3 : upd H2 D (SetO X.w D (fun _ => false) 0) = H3 at I3 I4 pg pt pe pi1 pg1 pt1 w0 nfp f3
  generalize hs4 : ({ s3 with heap := pushCells (s3.heap.push { cls := .type "dict", data := .dict #[] }) scope.names } : Shared) = s4 at I4 ⊢
  have st4 : tn 0 s4.heap := T.keep _ _ _ st3 fun b _ o e => by rw [← hs4]; exact pushCells_keeps _ _ _ _ (Heap.get?_push_of_some _ e)
  have stat : ∀ {σ' : L2.St} {H' : Hp} {s' : Shared}, Inv (X.blk s3 H3 scope ce fp) [] σ' H' s' → (∀ b ∈ fp, H' b = none) → ∀ b ∈ fp, FpOk (X.blk s3 H3 scope ce fp) [] H' b := fun {σ' H' s'} I' hn b hb =>
    ⟨hn b hb, (I'.ok.exf b hb).1, I'.ok.exfs b hb, .inl hb, fun x c e => (I'.ok.exf b hb).2 x c e, fun p hp => absurd (show p ∈ ([] : List (Addr × Obj)) ++ [] from hp) (by simp)⟩
  have loop : codeAny (model X.prog X.w) X.A (.compLoop (.SetComp elt [⟨tg, iter, ifs, 0⟩, ⟨tg1, iter1, ifs1, 0⟩] scope pos) 0 (.ref it) (.ref D) ce) (compPost (model X.prog X.w) X.A X.xe use Qf (.ref D) s3.heap.objs.size) s4 := by
    refine compLoopS2_out (hs1 ce) (fun n s' => ∃ i H', Inv (X.blk s3 H3 scope ce fp) [] (wipe σ (own.map (·.2))) H' s' ∧ tn i s'.heap ∧ (∀ b ∈ fp, H' b = none) ∧ W i n H') ?_ m0 ⟨0, H3, I4, st4, nfp, w0⟩
    rintro n s5 ⟨i, H5, I5, st5, n5, w5⟩
    rcases turn i n H5 w5 with ⟨stop, qq⟩ | ⟨go, Nx, hNx, step⟩
    · have td := T.done (X.blk s3 H3 scope ce fp) rfl rfl rfl hc i [] s5 _ H5 (fun _ _ => False) I5 (stat I5 n5) st5 stop
      refine thnF td fun r s6 ⟨hr, I6⟩ => ?_
      subst hr
      -- back in the def's context
      have I7 : Inv X pins σ H5 s6 := I3.call' (ch := fp) I6.os I6.base I6.hok I6.bare fun b hb => ⟨(f3 b hb).1.2.2.2.1, (f3 b hb).1.2.1, (f3 b hb).1.2.2.2.2.1, (f3 b hb).1.2.2.2.2.2⟩
      have nC : H5 s3.heap.objs.size = none := by
        have z : H5 ce.locals = none := I6.free
        rw [cL] at z
        exact z
      obtain ⟨m, hn, _⟩ := I6.loc
      have hn : s6.heap.Ns ce.locals m := hn
      rw [cL] at hn
      exact hRR D s3.heap.objs.size s6 m H5 I7 qq hn (I3.fpOk (Nat.le_refl _) nC)
    · have ti := T.item (X.blk s3 H3 scope ce fp) rfl rfl rfl hc i [] s5 _ H5 (fun _ _ => False) I5 (stat I5 n5) st5 go
      refine thnF ti fun r s6 ⟨u, hr, h6⟩ => ?_
      subst hr
      refine thnF h6 fun _ s7 ⟨x, H7, I7, r7, y7, st7, n7⟩ => ?_
      have I7' := I7.pinned (stat I7 n7) (T.obj _ _ st7)
      refine thnF (pg.run _ s7 _ H7 x u _ I7' r7 (step x H7 y7)) fun _ s8 ⟨σ8, H8, I8, hw8, q8⟩ => ?_
      refine thnF (pt.run _ s8 σ8 H8 _ I8 q8) fun b s9 ⟨H9, I9, q9⟩ => ?_
      -- the turn's end, from any slots that know what the block knew at its start
      have fin : ∀ {σ9 : L2.St} {s' : Shared} {H' : Hp}, Inv (X.blk s3 H3 scope ce fp) ([] ++ pinsAt fp s7.heap) σ9 H' s' → (wipe σ (own.map (·.2))).length = σ9.length → (∀ (j : Nat) v, (wipe σ (own.map (·.2)))[j]? = some (some v) → σ9[j]? = some (some v)) → Nx H' →
          ∃ m, m < n ∧ ∃ i H', Inv (X.blk s3 H3 scope ce fp) [] (wipe σ (own.map (·.2))) H' s' ∧ tn i s'.heap ∧ (∀ b ∈ fp, H' b = none) ∧ W i m H' := fun {σ9 s' H'} I' hl hk nx => by
        obtain ⟨m', hm, w'⟩ := hNx H' nx
        have pin' : ∀ b ∈ fp, ∀ o, s7.heap.get? b = some o → s'.heap.get? b = some o ∧ H' b = none := fun b hb o e =>
          let z := I'.pin (b, o) (List.mem_append_right _ (List.mem_append_right _ (mem_pinsAt hb e)))
          ⟨z.1, z.2.1⟩
        refine ⟨m', hm, i + 1, H', (I'.unpinned (pins := [])).weak hl hk, T.keep _ _ _ st7 fun b hb o e => (pin' b hb o e).1, fun b hb => ?_, w'⟩
        obtain ⟨o, e, _⟩ := T.obj _ _ st7 b hb
        exact (pin' b hb o e).2
      have hl8 : (wipe σ (own.map (·.2))).length = σ8.length := by rw [← hw8, wipe_length]
      have hk8 : ∀ (j : Nat) v, (wipe σ (own.map (·.2)))[j]? = some (some v) → σ8[j]? = some (some v) := fun j v e => by
        rw [← hw8] at e
        exact (wipe_some e).1
      have hk9 : ∀ (j : Nat) v, (wipe σ (own.map (·.2)))[j]? = some (some v) → (wipe σ8 vs1)[j]? = some (some v) := fun j v e => by
        rw [← hw8] at e
        obtain ⟨e1, e2⟩ := wipe_some e
        rw [wipe_out fun z => e2 (hv j z)]
        exact e1
      cases b with
      | false =>
        simp only [Bool.false_eq_true, if_false] at q9 ⊢
        exact fin I9 hl8 hk8 q9
      | true =>
        simp only [if_true] at q9 ⊢
        refine thnF (pi1.run _ s9 σ8 H9 _ I9 q9) fun xv s10 hx => thnF hx fun itv s11 h11 => ?_
        obtain ⟨it1, fp1, tn1, J1, H11, e1, I11, T1, st11, f11, W1, ⟨m1, w1⟩, turn1⟩ := h11
        subst e1
        -- the inner loop
        have stat1 : ∀ {H' : Hp}, (∀ b ∈ fp1, H' b = none) → ∀ b ∈ fp1, FpOk (X.blk s3 H3 scope ce fp) ([] ++ pinsAt fp s7.heap) H' b := fun hn b hb => ⟨hn b hb, (f11 b hb).2⟩
        have loop1 : codeAny (model X.prog X.w) X.A (.compLoop (.SetComp elt [⟨tg, iter, ifs, 0⟩, ⟨tg1, iter1, ifs1, 0⟩] scope pos) 1 (.ref it1) (.ref D) ce)
            (fun r s' => match r with
              | .ok _ => ∃ m, m < n ∧ ∃ i H', Inv (X.blk s3 H3 scope ce fp) [] (wipe σ (own.map (·.2))) H' s' ∧ tn i s'.heap ∧ (∀ b ∈ fp, H' b = none) ∧ W i m H'
              | .error _ => False) s11 := by
          refine compLoopS2_in (fun k s' => ∃ j H', Inv (X.blk s3 H3 scope ce fp) ([] ++ pinsAt fp s7.heap) (wipe σ8 vs1) H' s' ∧ tn1 j s'.heap ∧ (∀ b ∈ fp1, H' b = none) ∧ W1 j k H') ?_ m1 ⟨0, H11, I11.weak (wipe_length _ _) (fun j v e => (wipe_some e).1), st11, fun b hb => (f11 b hb).1, w1⟩
          rintro k s12 ⟨j, H12, I12, st12, n12, w12⟩
          rcases turn1 j k H12 w12 with ⟨stop1, nx1⟩ | ⟨go1, Nx1, hNx1, step1⟩
          · refine thnF (T1.done (X.blk s3 H3 scope ce fp) rfl rfl rfl hc j _ s12 (wipe σ8 vs1) H12 (fun _ _ => False) I12 (stat1 n12) st12 stop1) fun r s13 ⟨hr, I13⟩ => ?_
            subst hr
            exact fin I13 (hl8.trans (wipe_length σ8 vs1).symm) hk9 nx1
          · refine thnF (T1.item (X.blk s3 H3 scope ce fp) rfl rfl rfl hc j _ s12 (wipe σ8 vs1) H12 (fun _ _ => False) I12 (stat1 n12) st12 go1) fun r s13 ⟨u1, hr, h13⟩ => ?_
            subst hr
            refine thnF h13 fun _ s14 ⟨x1, H14, I14, r14, y14, st14, n14⟩ => ?_
            have I14' := I14.pinned (stat1 n14) (T1.obj _ _ st14)
            refine thnF (pg1.run _ s14 (wipe σ8 vs1) H14 x1 u1 _ I14' r14 (step1 x1 H14 y14)) fun _ s15 ⟨σ15, H15, I15, hw15, q15⟩ => ?_
            refine thnF (pt1.run _ s15 σ15 H15 _ I15 q15) fun b1 s16 ⟨H16, I16, q16⟩ => ?_
            have fin1 : ∀ {s' : Shared} {H' : Hp}, Inv (X.blk s3 H3 scope ce fp) (([] ++ pinsAt fp s7.heap) ++ pinsAt fp1 s14.heap) σ15 H' s' → Nx1 H' → ∃ m, m < k ∧ ∃ j H', Inv (X.blk s3 H3 scope ce fp) ([] ++ pinsAt fp s7.heap) (wipe σ8 vs1) H' s' ∧ tn1 j s'.heap ∧ (∀ b ∈ fp1, H' b = none) ∧ W1 j m H' := fun {s' H'} I' nx => by
              obtain ⟨m', hm, w'⟩ := hNx1 H' nx
              have pin' : ∀ b ∈ fp1, ∀ o, s14.heap.get? b = some o → s'.heap.get? b = some o ∧ H' b = none := fun b hb o e =>
                let z := I'.pin (b, o) (List.mem_append_right _ (List.mem_append_right _ (mem_pinsAt hb e)))
                ⟨z.1, z.2.1⟩
              refine ⟨m', hm, j + 1, H', I'.unpinned.weak (by rw [← hw15, wipe_length]) (fun j v e => by rw [← hw15] at e; exact (wipe_some e).1), T1.keep _ _ _ st14 fun b hb o e => (pin' b hb o e).1, fun b hb => ?_, w'⟩
              obtain ⟨o, e, _⟩ := T1.obj _ _ st14 b hb
              exact (pin' b hb o e).2
            cases b1 with
            | false =>
              simp only [Bool.false_eq_true, if_false] at q16 ⊢
              exact fin1 I16 q16
            | true =>
              simp only [if_true] at q16 ⊢
              refine thnF (pe.run _ s16 σ15 H16 _ I16 q16) fun z s17 ⟨yv, H17, I17, r17, cb, S0, n0, ey, hD17, hz17, nx⟩ => ?_
              subst ey
              obtain ⟨tk, rfl⟩ := r17
              exact addI_ok (X := X.blk s3 H3 scope ce fp) I17 hD17 hz17 fun s18 I18 => fin1 I18 nx
        exact compStartS1_ok loop1 (T1.self X.A 0 _ _ _ st11 loop1)
  exact PpSet.codeAny_compStart_set loop (T.self X.A 0 _ _ _ st4 loop)
/-- as a value -/
theorem pe_sc2 {elt tg iter tg1 iter1 : Expr} {ifs ifs1 : List Expr} {scope : Scope} {own : List (Str × Nat)} {vs1 : List Nat} {pos : Pos} {wi wi1 : TI} {g g1 : TG} {tt tt1 : TT} {te : TE} (hc : X.calm = true) (hN : X.N.Nodup) (hi : PI X tg iter wi) (ok : BlkOk X.N X.env.scope scope own) (hv : ∀ i ∈ vs1, i ∈ own.map (·.2))
    (hg : ∀ (s : Shared) (H : Hp) (C : Addr) (cl : List (Str × Addr)) (fp : List Addr), PG (X.blk s H scope (compEnvC scope cl C X.env) fp) tg g) (ht : ∀ (s : Shared) (H : Hp) (C : Addr) (cl : List (Str × Addr)) (fp : List Addr), PTs (X.blk s H scope (compEnvC scope cl C X.env) fp) ifs tt)
    (hi1 : ∀ (s : Shared) (H : Hp) (C : Addr) (cl : List (Str × Addr)) (fp : List Addr), PI (X.blk s H scope (compEnvC scope cl C X.env) fp) tg1 iter1 wi1)
    (hg1 : ∀ (s : Shared) (H : Hp) (C : Addr) (cl : List (Str × Addr)) (fp : List Addr), PG (X.blk s H scope (compEnvC scope cl C X.env) fp) tg1 g1) (ht1 : ∀ (s : Shared) (H : Hp) (C : Addr) (cl : List (Str × Addr)) (fp : List Addr), PTs (X.blk s H scope (compEnvC scope cl C X.env) fp) ifs1 tt1)
    (he : ∀ (s : Shared) (H : Hp) (C : Addr) (cl : List (Str × Addr)) (fp : List Addr), PE (X.blk s H scope (compEnvC scope cl C X.env) fp) elt te) (hs : ∀ x, foldedSetIterable iter X.env x = pure x := by intro _; rfl) (hs1 : ∀ (env : PySem.Env) x, foldedSetIterable iter1 env x = pure x := by intro _ _; rfl) :
    PE X (.SetComp elt [⟨tg, iter, ifs, 0⟩, ⟨tg1, iter1, ifs1, 0⟩] scope pos) (tSc2 X.w wi g tt wi1 g1 tt1 te (own.map (·.2)) vs1) := by
  refine ⟨fun pins s σ H Q I h => ?_⟩
  rw [PpSet.eval_SetComp]
  refine sc2_core hc hN I hi ok hv hg ht he hs hi1 hg1 ht1 hs1 h fun D C s' m H' I' q hn f => ⟨m, hn, fun h'' sb => ?_⟩
  obtain ⟨f0, f1, f2, f3, f4, f5⟩ := f
  exact ⟨.ref D, H', I'.turned (t' := s'.toks) (fun b o hb e => (sb.2 b hb).trans e) f0 f1 f3 f4 f5, rfl, q⟩
end
end Iv
set_option Elab.async false
set_option linter.all false
set_option maxRecDepth 100000
set_option maxHeartbeats 2000000
/-! Iu5: sorted({e for t in it for t1 in it1}), e an int. -/
namespace Iv
open PySem PySem.Spec PyProof.Rows L2

/-! ### rising lists -/
theorem mem_insI {k x : Int} : ∀ {l : List Int}, x ∈ insI k l ↔ x = k ∨ x ∈ l
  | [] => by simp [insI]
  | y :: r => by
    unfold insI
    split
    · simp
    · split
      · rename_i h
        subst h
        simp
      · rw [List.mem_cons, mem_insI (l := r), List.mem_cons]
        constructor
        · rintro (h | h | h)
          · exact .inr (.inl h)
          · exact .inl h
          · exact .inr (.inr h)
        · rintro (h | h | h)
          · exact .inr (.inl h)
          · exact .inl h
          · exact .inr (.inr h)
theorem insI_rise {k : Int} : ∀ {l : List Int}, l.Pairwise (· < ·) → (insI k l).Pairwise (· < ·)
  | [], _ => by simp [insI]
  | y :: r, h => by
    obtain ⟨h1, h2⟩ := List.pairwise_cons.mp h
    unfold insI
    split
    · rename_i hk
      refine List.pairwise_cons.mpr ⟨fun z hz => ?_, h⟩
      rcases List.mem_cons.mp hz with rfl | hz
      · exact hk
      · exact Int.lt_trans hk (h1 z hz)
    · split
      · exact h
      · refine List.pairwise_cons.mpr ⟨fun z hz => ?_, insI_rise h2⟩
        rcases mem_insI.mp hz with rfl | hz
        · omega
        · exact h1 z hz
theorem srtI_rise : ∀ acc : List Int, (srtI acc).Pairwise (· < ·)
  | [] => .nil
  | k :: r => insI_rise (srtI_rise r)
theorem mem_srtI {x : Int} : ∀ {acc : List Int}, x ∈ srtI acc ↔ x ∈ acc
  | [] => by simp [srtI]
  | k :: r => by
    show x ∈ insI k (srtI r) ↔ _
    rw [mem_insI, mem_srtI, List.mem_cons]
/-- rising lists of the same members -/
theorem rise_ext : ∀ {l r : List Int}, l.Pairwise (· < ·) → r.Pairwise (· < ·) → (∀ x, x ∈ l ↔ x ∈ r) → l = r
  | [], [], _, _, _ => rfl
  | [], y :: r, _, _, h => by have := (h y).mpr List.mem_cons_self; simp at this
  | x :: l, [], _, _, h => by have := (h x).mp List.mem_cons_self; simp at this
  | x :: l, y :: r, hl, hr, h => by
    obtain ⟨a1, a2⟩ := List.pairwise_cons.mp hl
    obtain ⟨b1, b2⟩ := List.pairwise_cons.mp hr
    have e : x = y := by
      rcases List.mem_cons.mp ((h x).mp List.mem_cons_self) with q | q
      · exact q
      · rcases List.mem_cons.mp ((h y).mpr List.mem_cons_self) with p | p
        · exact p.symm
        · have := b1 x q
          have := a1 y p
          omega
    subst e
    congr 1
    refine rise_ext a2 b2 fun z => ⟨fun hz => ?_, fun hz => ?_⟩
    · rcases List.mem_cons.mp ((h z).mp (List.mem_cons_of_mem _ hz)) with q | q
      · have := a1 z hz
        omega
      · exact q
    · rcases List.mem_cons.mp ((h z).mpr (List.mem_cons_of_mem _ hz)) with q | q
      · have := b1 z hz
        omega
      · exact q
theorem addI_nodup {acc : List Int} {k : Int} (h : acc.Nodup) : (addI acc k).Nodup := by
  unfold addI
  split
  · exact h
  · rename_i n
    rw [List.nodup_append]
    exact ⟨h, by simp, fun a ha b hb e => n (by simp at hb; rw [← hb, ← e]; exact ha)⟩
theorem mem_addI {acc : List Int} {k j : Int} : j ∈ addI acc k ↔ j ∈ acc ∨ j = k := by
  unfold addI
  split
  · rename_i h
    exact ⟨.inl, fun z => z.elim id fun z => z ▸ h⟩
  · simp

/-! ### the loops -/
theorem sinL_no {g : D → Env → R Unit} {e : Env → R D} {vs1 : List Nat} {xs : List D} {acc acc' : List Int} {ρ ρ2 : Env} (h : sinL g e vs1 xs acc ρ = .ok acc' ρ2) : noOwn ρ vs1 = true := by
  cases xs <;>
  · rw [sinL] at h
    split at h
    · assumption
    · cases h
theorem sinL_ok {g : D → Env → R Unit} {e : Env → R D} {vs1 : List Nat} {x : D} {r : List D} {acc acc' : List Int} {ρ ρ2 : Env} (h : sinL g e vs1 (x :: r) acc ρ = .ok acc' ρ2) :
    ∃ ρ1 k ρ3, g x (wipeE ρ vs1) = .ok () ρ1 ∧ e ρ1 = .ok (.int k) ρ3 ∧ acc.length < 60 ∧ sinL g e vs1 r (addI acc k) ρ3 = .ok acc' ρ2 := by
  have n := sinL_no h
  rw [sinL, if_pos n] at h
  obtain ⟨_, ρ1, h1, h⟩ := bind_ok h
  obtain ⟨d, ρ3, h2, h⟩ := bind_ok h
  cases d with
  | int k =>
    simp only at h
    split at h
    · rename_i hz
      exact ⟨ρ1, k, ρ3, h1, h2, hz, h⟩
    · cases h
  | _ => cases h
theorem soutL_no {g : D → Env → R Unit} {i : Env → R (List D)} {b : List D → List Int → Env → R (List Int)} {ow : List Nat} {xs : List D} {acc acc' : List Int} {ρ ρ2 : Env} (h : soutL g i b ow xs acc ρ = .ok acc' ρ2) : noOwn ρ ow = true := by
  cases xs <;>
  · rw [soutL] at h
    split at h
    · assumption
    · cases h
theorem soutL_ok {g : D → Env → R Unit} {i : Env → R (List D)} {b : List D → List Int → Env → R (List Int)} {ow : List Nat} {x : D} {r : List D} {acc acc' : List Int} {ρ ρ2 : Env} (h : soutL g i b ow (x :: r) acc ρ = .ok acc' ρ2) :
    ∃ ρ1 ys ρ3 acc1 ρ4, g x (wipeE ρ ow) = .ok () ρ1 ∧ i ρ1 = .ok ys ρ3 ∧ b ys acc ρ3 = .ok acc1 ρ4 ∧ soutL g i b ow r acc1 ρ4 = .ok acc' ρ2 := by
  have n := soutL_no h
  rw [soutL, if_pos n] at h
  obtain ⟨_, ρ1, h1, h⟩ := bind_ok h
  obtain ⟨ys, ρ3, h2, h⟩ := bind_ok h
  obtain ⟨acc1, ρ4, h3, h⟩ := bind_ok h
  exact ⟨ρ1, ys, ρ3, acc1, ρ4, h1, h2, h3, h⟩

/-! ### the set's object -/
theorem nt_setO (w : World) (D : Addr) (S : Int → Bool) (n : Nat) : Nt (SetO w D S n) := fun ps z => by
  unfold SetO at z
  cases z
/-- a set is no code object -/
theorem setO_code {w : World} {D : Addr} {S : Int → Bool} {n : Nat} {q : Str} : SetO w D S n ≠ LamX.CodeO D q := fun z => by
  unfold SetO LamX.CodeO at z
  have z := congrFun (HO.ext.inj z) ({ objs := Array.replicate (D + 1) { cls := .none, data := .fields #[.none, .str q 0] } } : Heap)
  have g : ({ objs := Array.replicate (D + 1) { cls := .none, data := .fields #[.none, .str q 0] } } : Heap).get? D = some { cls := .none, data := .fields #[.none, .str q 0] } := by
    unfold Heap.get?
    simp
  have c : SetR w ({ objs := Array.replicate (D + 1) { cls := .none, data := .fields #[.none, .str q 0] } } : Heap) D S n := z.mpr ⟨_, _, 0, g, rfl, rfl⟩
  obtain ⟨o, es, ep, t, ho, _, hd, _⟩ := c
  rw [g] at ho
  cases ho
  cases hd
theorem tabs_setO {T : List (Addr × Str)} {H : Hp} {p : Addr} {w : World} {S : Int → Bool} {n : Nat} {o : HO} (t : LamX.Tabs T H) (hu : H p = some (SetO w p S n)) : LamX.Tabs T (upd H p o) := fun q hq => by
  obtain ⟨ps, t1, t2, t3⟩ := t q hq
  have ne : q.1 ≠ p := fun z => by
    rw [z, hu] at t1
    exact nt_setO _ _ _ _ ps (Option.some.inj t1)
  refine ⟨ps, by rw [upd_ne ne]; exact t1, t2, fun pos cv hc => ?_⟩
  obtain ⟨c, k1, k2⟩ := t3 pos cv hc
  refine ⟨c, k1, ?_⟩
  rw [upd_ne (fun z => ?_)]
  · exact k2
  · subst z
    rw [hu] at k2
    exact setO_code (Option.some.inj k2)
section
variable {C : Cc} {W : WX} {Z : Addr → Prop} {σ : L2.St} {ρ : Env} {H : Hp}
/-- what is banned may change, a set -/
theorem EnvR.updS (e : EnvR C Z σ ρ H) {p : Addr} {o : HO} {w : World} {S : Int → Bool} {n : Nat} (hz : Z p) (h0 : C.H0 p = none) (hu : H p = some (SetO w p S n)) : EnvR C Z σ ρ (upd H p o) := by
  have kp : ∀ b x, H b = some x → Nt x → ¬ Bn Z σ ρ b → upd H p o b = some x ∧ ¬ Bn Z σ ρ b := fun b x h _ n => ⟨by
    rw [upd_ne (fun q => by subst q; exact n (.inl hz))]
    exact h, n⟩
  refine ⟨e.len, fun i d q => ?_, fun i xs q => ?_, e.inj, fun b q => ?_, e.z0, e.io, fun b x q t n => ?_, fun b x q => ?_, tabs_setO e.tab hu, e.fresh⟩
  · obtain ⟨v, g1, g2⟩ := e.dat i d q
    exact ⟨v, g1, g2.keep kp⟩
  · obtain ⟨a, vs, g1, g2, g3, g4⟩ := e.own i xs q
    exact ⟨a, vs, g1, by rw [upd_ne (fun z => by subst z; exact g4 hz)]; exact g2, g3.keep kp, g4⟩
  · by_cases z : b = p
    · subst z
      exact ⟨_, upd_same⟩
    · obtain ⟨x, hx⟩ := e.zt b q
      exact ⟨x, by rw [upd_ne z]; exact hx⟩
  · rw [upd_ne (fun z => by subst z; rw [h0] at q; cases q)]
    exact e.keep b x q t n
  · obtain ⟨o', z⟩ := e.tr0 b x q
    by_cases y : b = p
    · subst y
      exact ⟨o, upd_same⟩
    · exact ⟨o', by rw [upd_ne y]; exact z⟩
theorem rp_int {K : PySem.W.Frag} {B : Addr → Prop} : ∀ ns : List Int, RpL K H B (ns.map V.int) (ns.map D.int)
  | [] => .nil
  | n :: ns => .cons (.int n) (rp_int ns)
end
theorem sin_step {D : Addr} {w : World} {acc : List Int} {k : Int} {H : Hp} (nd : acc.Nodup) :
    upd H D (SetO w D (fun j => (fun j => decide (j ∈ acc)) j || decide (j = k)) (if (fun j => decide (j ∈ acc)) k = true then acc.length else acc.length + 1)) = upd H D (SetO w D (fun j => decide (j ∈ addI acc k)) (addI acc k).length) := by
  have e1 : (fun j => (fun j => decide (j ∈ acc)) j || decide (j = k)) = fun j => decide (j ∈ addI acc k) := by
    funext j
    rw [Bool.eq_iff_iff]
    simp [mem_addI]
  have e2 : (if (fun j => decide (j ∈ acc)) k = true then acc.length else acc.length + 1) = (addI acc k).length := by
    unfold addI
    by_cases h : k ∈ acc
    · simp [h]
    · simp [h]
  rw [e1, e2]
theorem wipe_wipe {σ σ3 : L2.St} {ow vs1 ns : List Nat} (o : Off ns (L2.wipe σ ow) σ3) (h : ∀ i ∈ ns, i ∈ ow) (hv : ∀ i ∈ vs1, i ∈ ow) : L2.wipe (L2.wipe σ3 vs1) ow = L2.wipe σ ow :=
  wipe_eq (ns := ns ++ vs1) ⟨(wipe_length _ _).trans o.1, fun i hi => by
    rw [wipe_out (fun z => hi (List.mem_append_right _ z))]
    exact o.2 i fun z => hi (List.mem_append_left _ z)⟩ fun i hi => (List.mem_append.mp hi).elim (h i) (hv i)
section
variable {X : Cx} {C : Cc} {W : WX} {Φ : Phi} {pos : Pos}
theorem sset_read {w : World} {ow vs1 : List Nat} {t t1 : T} {it it1 : It} {e : E} (hns : ∀ i ∈ t.ns, i ∈ ow) (hns1 : ∀ i ∈ t1.ns, i ∈ vs1) (hv1 : ∀ i ∈ vs1, i ∈ ow) {σ : L2.St} {H : Hp} {Q : VK} (h : tL C W (evL Φ (.sset ow vs1 t it t1 it1 e)) σ H Q) :
    tSc2 w (tI C W (evI Φ it)) (tG C noW t.ns (evT Φ t)) tYes (tI C noW (evI Φ it1)) (tG C noW t1.ns (evT Φ t1)) tYes (tE C noW (evE Φ e)) ow vs1 σ H fun v H1 => rSortedSet w [v] H1 Q := by
  obtain ⟨Z, ρ, e0, g⟩ := h
  simp only [evL] at g
  refine ⟨Z, ρ, e0, g.bind.and fun xs ρ1 H1 e1 s1 k J P hJ hP D hD => ?_⟩
  have hDH : H D = none := back_of e0 e1 s1 D hD
  have hD0 := e0.new0 hDH
  obtain ⟨ns, ρ2, hc, k⟩ := noExc_ok k
  have n1 := soutL_no hc
  have hZD : ∀ b o, H1 b = some o → (Z b ∨ b = D) → Z b := fun b o h z => z.elim id fun z => by
    subst z
    rw [hD] at h
    cases h
  have nD : ∀ {τ : L2.St} {ϱ : Env} {G : Hp}, EnvR C (fun b => Z b ∨ b = D) τ ϱ G → ¬ OwnA τ ϱ D := fun {τ ϱ G} e z => by
    obtain ⟨j, zs, g1, g2⟩ := z
    obtain ⟨a, us, g3, _, _, g4⟩ := e.own j zs g1
    rw [g2] at g3
    cases g3
    exact g4 (.inr rfl)
  refine ⟨fun i m H' => m = xs.length - i ∧ i ≤ xs.length ∧ ∃ ρi acc, EnvR C (fun b => Z b ∨ b = D) (L2.wipe σ ow) (wipeE ρi ow) H' ∧ soutL (evT Φ t) (evI Φ it1) (sinL (evT Φ t1) (evE Φ e) vs1) ow (xs.drop i) acc ρi = .ok ns ρ2 ∧
    acc.Nodup ∧ acc.length ≤ 60 ∧ H' D = some (SetO w D (fun j => decide (j ∈ acc)) acc.length) ∧ Stq σ ρ1 H1 (L2.wipe σ ow) (wipeE ρi ow) H', ⟨xs.length, rfl, Nat.zero_le _, ρ1, [], (e1.addZ hD).wipe n1, hc, List.nodup_nil, Nat.zero_le _, ?_, ?_⟩, ?_⟩
  · rw [upd_same]
    congr 2
  · have s := same_upd (H := H1) (o := SetO w D (fun _ => false) 0) hD
    exact ⟨fun b o h _ n => ⟨s b o h, fun z => n ((own_wipe n1 b).mp z)⟩, fun b o h => ⟨o, s b o h⟩⟩
  · rintro i m H' ⟨rfl, hi, ρi, acc, e', hc', nd, hz, hv, sq⟩
    have ni := soutL_no hc'
    have pk : P H' (Bn (fun b => Z b ∨ b = D) (L2.wipe σ ow) (wipeE ρi ow)) := hJ.keep _ _ _ _ hP fun b o h t n => ⟨(sq.keep b o h t fun z => n (.inr z)).1, fun z => z.elim (fun z => n (.inl (hZD b o h z))) (sq.keep b o h t fun z => n (.inr z)).2⟩
    by_cases hlt : i < xs.length
    · refine .inr ⟨hJ.go i H' _ pk hlt, fun H'' => xs.length - (i + 1) = xs.length - (i + 1) ∧ i + 1 ≤ xs.length ∧ ∃ ρi acc, EnvR C (fun b => Z b ∨ b = D) (L2.wipe σ ow) (wipeE ρi ow) H'' ∧ soutL (evT Φ t) (evI Φ it1) (sinL (evT Φ t1) (evE Φ e) vs1) ow (xs.drop (i + 1)) acc ρi = .ok ns ρ2 ∧
        acc.Nodup ∧ acc.length ≤ 60 ∧ H'' D = some (SetO w D (fun j => decide (j ∈ acc)) acc.length) ∧ Stq σ ρ1 H1 (L2.wipe σ ow) (wipeE ρi ow) H'', fun H'' q => ⟨_, by omega, q⟩, fun v H2 y => ?_⟩
      obtain ⟨d, hd, sm, rd⟩ := hJ.yld i H' _ v H2 pk e'.there hlt y
      rw [drop_cons hd] at hc'
      obtain ⟨ρ3, ys, ρ4, acc1, ρ5, c1, c2, c3, c4⟩ := soutL_ok hc'
      refine ⟨_, wipeE ρi ow, d, e'.grow sm, rd, ?_⟩
      rw [c1]
      intro σ3 H3 e3 s3 o3
      refine ⟨wipe_eq o3 hns, ?_⟩
      show tI C noW (evI Φ it1) σ3 H3 _
      refine ⟨_, ρ3, e3, ?_⟩
      rw [c2]
      intro H4 e4 s4 J1 P1 hJ1 hP1
      have sA : Stq σ ρ1 H1 σ3 ρ4 H4 := ((sq.trans (Stq.same sm)).trans s3).trans s4
      have sD : H4 D = some (SetO w D (fun j => decide (j ∈ acc)) acc.length) := ((((Stq.same sm).trans s3).trans s4).keep D _ hv (nt_setO _ _ _ _) (nD e')).1
      have n4 := sinL_no c3
      refine ⟨fun j k H' => k = ys.length - j ∧ j ≤ ys.length ∧ ∃ ρj acc, EnvR C (fun b => Z b ∨ b = D) (L2.wipe σ3 vs1) (wipeE ρj vs1) H' ∧ sinL (evT Φ t1) (evE Φ e) vs1 (ys.drop j) acc ρj = .ok acc1 ρ5 ∧
        acc.Nodup ∧ acc.length ≤ 60 ∧ H' D = some (SetO w D (fun j => decide (j ∈ acc)) acc.length) ∧ Stq σ ρ1 H1 (L2.wipe σ3 vs1) (wipeE ρj vs1) H' ∧
        ∀ b o, H4 b = some o → Nt o → ¬ Bn (fun b => Z b ∨ b = D) σ3 ρ4 b → H' b = some o ∧ ¬ Bn (fun b => Z b ∨ b = D) (L2.wipe σ3 vs1) (wipeE ρj vs1) b,
        ⟨ys.length, rfl, Nat.zero_le _, ρ4, acc, e4.wipe n4, c3, nd, hz, sD, ?_, fun b o h _ n => ⟨h, fun z => n (z.imp id (own_wipe n4 b).mp)⟩⟩, ?_⟩
      · exact ⟨fun b o h t n => ⟨(sA.keep b o h t n).1, fun z => (sA.keep b o h t n).2 ((own_wipe n4 b).mp z)⟩, sA.tr⟩
      · rintro j kk H5 ⟨rfl, hj, ρj, accj, e5, c5, ndj, hzj, hvj, sqj, kpj⟩
        have nj := sinL_no c5
        have pk1 := hJ1.keep _ _ _ _ hP1 kpj
        by_cases hlt1 : j < ys.length
        · refine .inr ⟨hJ1.go j H5 _ pk1 hlt1, fun H' => ys.length - (j + 1) = ys.length - (j + 1) ∧ j + 1 ≤ ys.length ∧ ∃ ρj acc, EnvR C (fun b => Z b ∨ b = D) (L2.wipe σ3 vs1) (wipeE ρj vs1) H' ∧ sinL (evT Φ t1) (evE Φ e) vs1 (ys.drop (j + 1)) acc ρj = .ok acc1 ρ5 ∧
            acc.Nodup ∧ acc.length ≤ 60 ∧ H' D = some (SetO w D (fun j => decide (j ∈ acc)) acc.length) ∧ Stq σ ρ1 H1 (L2.wipe σ3 vs1) (wipeE ρj vs1) H' ∧
            ∀ b o, H4 b = some o → Nt o → ¬ Bn (fun b => Z b ∨ b = D) σ3 ρ4 b → H' b = some o ∧ ¬ Bn (fun b => Z b ∨ b = D) (L2.wipe σ3 vs1) (wipeE ρj vs1) b, fun H'' q => ⟨_, by omega, q⟩, fun v1 H6 y1 => ?_⟩
          obtain ⟨d1, hd1, sm1, rd1⟩ := hJ1.yld j H5 _ v1 H6 pk1 e5.there hlt1 y1
          rw [drop_cons hd1] at c5
          obtain ⟨ρ6, kv, ρ7, c6, c7, c8, c9⟩ := sinL_ok c5
          refine ⟨_, wipeE ρj vs1, d1, e5.grow sm1, rd1, ?_⟩
          rw [c6]
          intro σ7 H7 e7 s7 o7
          have w7 := wipe_eq o7 hns1
          refine ⟨w7, ?_⟩
          show tE C noW (evE Φ e) σ7 H7 _
          refine ⟨_, ρ6, e7, ?_⟩
          rw [c7]
          intro H8 e8 s8 v8 r8
          have sB : Stq (L2.wipe σ3 vs1) (wipeE ρj vs1) H5 σ7 ρ7 H8 := ((Stq.same sm1).trans s7).trans s8
          have n7 := sinL_no c9
          have hd8 := (sB.keep D _ hvj (nt_setO _ _ _ _) (nD e5)).1
          cases r8 with
          | int =>
            refine ⟨kv, _, _, rfl, hd8, ?_, rfl, hlt1, ρ7, addI accj kv, ?_, c9, addI_nodup ndj, ?_, ?_, ?_, ?_⟩
            · have : (61 : Nat) < scanBound := by decide
              omega
            · have := (e8.updS (o := SetO w D (fun j => (fun j => decide (j ∈ accj)) j || decide (j = kv)) (if (fun j => decide (j ∈ accj)) kv = true then accj.length else accj.length + 1)) (.inr rfl) hD0 hd8).wipe n7
              rw [w7] at this
              exact this
            · unfold addI
              split
              · omega
              · rw [List.length_append]
                show _ + 1 ≤ 60
                omega
            · rw [sin_step ndj, upd_same]
            · have := sqj.trans sB
              refine ⟨fun b o h t n => ⟨?_, fun z => (this.keep b o h t n).2 ?_⟩, fun b o h => ?_⟩
              · rw [upd_ne (fun q => by subst q; rw [hD] at h; cases h)]
                exact (this.keep b o h t n).1
              · rw [← w7] at z
                exact (own_wipe n7 b).mp z
              · rw [upd_ne (fun q => by subst q; rw [hD] at h; cases h)]
                exact this.tr b o h
            · intro b o h t n
              obtain ⟨q1, q2⟩ := kpj b o h t n
              obtain ⟨q3, q4⟩ := sB.keep b o q1 t fun z => q2 (.inr z)
              refine ⟨?_, fun z => ?_⟩
              · rw [upd_ne (fun q => n (.inl (.inr q)))]
                exact q3
              · rcases z with z | z
                · exact n (.inl z)
                · rw [← w7] at z
                  exact q4 ((own_wipe n7 b).mp z)
        · refine .inl ⟨hJ1.stop j H5 _ pk1 (by omega), rfl, hlt, wipeE ρj vs1, accj, ?_, ?_, ndj, hzj, hvj, ?_⟩
          · have hje : j = ys.length := by omega
            rw [hje, List.drop_length, sinL, if_pos nj] at c5
            cases c5
            have n5 := soutL_no c4
            have := e5.wipe n5
            rw [wipe_wipe o3 hns hv1] at this
            exact this
          · have hje : j = ys.length := by omega
            rw [hje, List.drop_length, sinL, if_pos nj] at c5
            cases c5
            exact c4
          · have hje : j = ys.length := by omega
            rw [hje, List.drop_length, sinL, if_pos nj] at c5
            cases c5
            have n5 := soutL_no c4
            refine ⟨fun b o h t n => ⟨(sqj.keep b o h t n).1, fun z => (sqj.keep b o h t n).2 ?_⟩, sqj.tr⟩
            rw [← wipe_wipe o3 hns hv1] at z
            exact (own_wipe n5 b).mp z
    · have hie : i = xs.length := by omega
      refine .inl ⟨hJ.stop i H' _ pk (by omega), D, _, _, rfl, hv, by omega, fun l p hl hm _ hp => ?_⟩
      rw [hie, List.drop_length, soutL, if_pos ni] at hc'
      cases hc'
      obtain ⟨eb, ob⟩ := e1.back e' sq n1 hZD
      have el : l = srtI ns := rise_ext hl (srtI_rise ns) fun x => by
        rw [hm, mem_srtI]
        simp
      subst el
      have ez := eb.weakZ (Z := Z) (fun b z => .inl z) e1.z0
      have sp := same_upd (H := H') (o := HO.lst ((srtI ns).map V.int)) hp
      have sqb : Stq σ ρ1 H1 σ (backE ρ1 (wipeE ρi ow) ow) H' := ⟨fun b o h t n => ⟨(sq.keep b o h t n).1, fun z => (sq.keep b o h t n).2 ((ob b).mp z)⟩, sq.tr⟩
      have hpH : H p = none := by
        cases q : H p with
        | none => rfl
        | some o =>
          obtain ⟨o1, q1⟩ := s1.tr p o q
          obtain ⟨o2, q2⟩ := sqb.tr p o1 q1
          rw [hp] at q2
          cases q2
      exact k _ (ez.grow sp) (sqb.trans (Stq.same sp)) p _ hpH (ez.addZ hp) upd_same (rp_int _)
theorem l_sset {elt tg iter tg1 iter1 : Expr} {scope : Scope} {own : List (Str × Nat)} {vs1 : List Nat} {t t1 : T} {it it1 : It} {e : E} {p q : Pos} (hc : X.calm = true) (hN : X.N.Nodup) (hi : PI X tg iter (tI C W (evI Φ it))) (ok : BlkOk X.N X.env.scope scope own) (hv : ∀ i ∈ vs1, i ∈ own.map (·.2))
    (hg : ∀ (s : Shared) (H : Hp) (A : Addr) (cl : List (Str × Addr)) (fp : List Addr), PG (X.blk s H scope (compEnvC scope cl A X.env) fp) tg (tG C noW t.ns (evT Φ t)))
    (hi1 : ∀ (s : Shared) (H : Hp) (A : Addr) (cl : List (Str × Addr)) (fp : List Addr), PI (X.blk s H scope (compEnvC scope cl A X.env) fp) tg1 iter1 (tI C noW (evI Φ it1)))
    (hg1 : ∀ (s : Shared) (H : Hp) (A : Addr) (cl : List (Str × Addr)) (fp : List Addr), PG (X.blk s H scope (compEnvC scope cl A X.env) fp) tg1 (tG C noW t1.ns (evT Φ t1)))
    (he : ∀ (s : Shared) (H : Hp) (A : Addr) (cl : List (Str × Addr)) (fp : List Addr), PE (X.blk s H scope (compEnvC scope cl A X.env) fp) elt (tE C noW (evE Φ e)))
    (hs : ∀ x, foldedSetIterable iter X.env x = pure x) (hs1 : ∀ (env : PySem.Env) x, foldedSetIterable iter1 env x = pure x) (hns : ∀ i ∈ t.ns, i ∈ own.map (·.2)) (hns1 : ∀ i ∈ t1.ns, i ∈ vs1)
    (hgl : Gl X "sorted") (hm : X.mg "sorted" = none) :
    PE X (.Call (.Name "sorted" p) [.SetComp elt [⟨tg, iter, [], 0⟩, ⟨tg1, iter1, [], 0⟩] scope pos] [] q) (tL C W (evL Φ (.sset (own.map (·.2)) vs1 t it t1 it1 e))) :=
  (pe_callB (cr_sortedSet hc) hgl hm (by decide +kernel) (pa_cons (pe_sc2 hc hN hi ok hv hg (fun _ _ _ _ _ => pts_nil) hi1 hg1 (fun _ _ _ _ _ => pts_nil) he hs hs1) pa_nil (by rfl)) (by decide) (by decide) (by rfl) (by rfl)).imp fun σ H Q h => sset_read (w := X.w) hns hns1 hv h
end
end Iv
set_option Elab.async false
set_option linter.all false
set_option maxRecDepth 100000
set_option maxHeartbeats 2000000
/-! Iu7: sorted(xs, key=f) where f's calls may do more than give data: J tells what holds behind so many keys (turned from the kit's keyH rows). -/
namespace Iv
open PySem PySem.Calls PySem.W PyProof.Rows

section
variable {prog : Program} {w : World} {A : Around} {E : Value → Shared → Prop} {s : Shared} {a kS : Addr} {b : Bool} {vs : List Value} {e e1 : Nat} {P : PySem.Fin → Shared → Prop} {kz : List PyData}
/-- h, without the object at c -/
def lessH (h : Heap) (c : Addr) : Heap := h.update c fun o => { o with data := .freed }
theorem lessH_at (h : Heap) (c : Addr) : (lessH h c).get? c = none := by
  obtain ⟨objs, l⟩ := h
  unfold lessH Heap.update Heap.get?
  simp only [Array.getElem?_modify]
  cases objs[c]? with
  | none => simp
  | some o => simp
theorem lessH_ne {h : Heap} {c d : Addr} (n : d ≠ c) : (lessH h c).get? d = h.get? d := (Heap.SameBut.update h c _).2 d n
theorem keyJ_rest {f : Value} (J : List Value → Shared → Prop) (hJ : J [] s) (stay : ∀ ks s' h', J ks s' → Heap.SameBut kS s'.heap h' → J ks { s' with heap := h' })
    (nk : s.heap.get? kS = some (seqObj "list" #[] 0)) (na : s.heap.get? a = some (seqObj "list" #[] e1)) (hka : kS ≠ a)
    (hlen : kz.length = vs.length) (hZ : vs.length ≤ sizeLine) (hal : AllAlike kz) (hsk : Sortable kz) (hu : ∀ d, d ∈ kz → A.units + d.depth < cLine)
    (turn : ∀ (j : Nat) (x : Value) (ks : List Value) (s' : Shared) (e : Nat), vs[j]? = some x → ks.length = j → J ks s' → s'.heap.get? kS = some (seqObj "list" ks.toArray e) → s'.heap.get? a = some (seqObj "list" #[] e1) →
      wpAny (model prog w) A (call f [x]) (fun v s'' => J (ks ++ [v]) s'' ∧ s''.heap.get? kS = some (seqObj "list" ks.toArray e) ∧ s''.heap.get? a = some (seqObj "list" #[] e1)) (fun _ _ => False) s')
    (fin : ∀ ks s', J ks s' → ks.length = vs.length → EachIs (fun v k => ∃ as, Reads s'.heap v k as) ks kz)
    (h : ∀ ks s' h' tk out c, J ks s' → ks.length = vs.length → (∀ d o, d ≠ a → d ≠ kS → s'.heap.get? d = some o → h'.get? d = some o) → h'.get? a = some (seqObj "list" (List.toArray out) c) → KeyedOut b kz vs out → P (.done (.ret .none)) { s' with heap := h', toks := tk }) :
    wpAny (model prog w) A (ksk_rest a f b vs.toArray e1 (.ref kS)) P E s := by
  unfold ksk_rest
  refine wpAny_bind (wpAny_rule ?_)
  first
    | rw [List.forIn_toArray]
    | (rw [← Array.forIn_toList]; simp only [List.toList_toArray])
    | rw [← Array.forIn_toList]
  refine wpAny_bind (ksk_fold (fun i s' => ∃ ks e, J ks s' ∧ ks.length = i ∧ s'.heap.get? kS = some (seqObj "list" ks.toArray e) ∧ s'.heap.get? a = some (seqObj "list" #[] e1)) vs 0 s
    ⟨[], 0, hJ, rfl, nk, na⟩ ?step ?done)
  case step =>
    rintro j x s' hx ⟨ks, e, jk, hl, nk', na'⟩
    simp only [Nat.zero_add] at hl ⊢
    have hj : j < vs.length := (List.getElem?_eq_some_iff.mp hx).1
    have hz : ks.toArray.size ≤ vs.length := by
      rw [List.size_toArray]
      omega
    refine wpAny_bind (wpAny_attempt (wpAny_mono (turn j x ks s' e hx hl jk nk' na') (fun v s'' he => ?_) fun _ _ hF => hF.elim))
    obtain ⟨jv, nk2, na2⟩ := he
    try dsimp only
    have s1 := Heap.SameBut.update s''.heap kS (Obj.mapSeq (·.push v))
    obtain ⟨c2, hc2⟩ : ∃ c2, (s''.heap.update kS (Obj.mapSeq (·.push v))).get? kS = some (seqObj "list" (ks.toArray.push v) c2) := ⟨_, get?_update_seq nk2 (·.push v)⟩
    refine wpAny_bind (listUpdate_at nk2 rfl ?_ (Nat.le_trans hz hZ) (Nat.le_trans (Nat.le_of_eq (Array.size_push ..)) (Nat.succ_le_succ (Nat.le_trans hz hZ))))
    refine wpAny_pure ⟨rfl, ks ++ [v], c2, stay _ _ _ jv s1, by rw [List.length_append, hl]; rfl, ?_, (s1.2 a hka.symm).trans na2⟩
    rw [hc2]
    congr 2
    simp
  case done =>
    rintro s' ⟨ks, e, jk, hl, nk', na'⟩
    have hl' : ks.length = vs.length := by omega
    have hk' := fin ks s' jk hl'
    try dsimp only
    refine wpAny_bind (listItems_at nk' rfl ?_)
    have hk2 : EachIs (fun v k => ∃ as, Reads s'.heap v k as) ks.toArray.toList kz := hk'
    exact keyH_end (κ := dataKind s'.heap kz) (h₁ := lessH s'.heap kS) (fun d o hd q => by
      by_cases z : d = kS
      · rw [z, lessH_at] at q
        cases q
      · rw [lessH_ne z] at q
        exact q) (lessH_at _ _) nk' na' hka (SortsAt.data (s := s') hk2 hal hsk hu) (by rw [List.size_toArray]; exact hl') hZ fun h3 tk3 c k3 n3 =>
      h ks s' h3 tk3 _ c jk hl' (fun d o h1 h2 q => k3 d o h1 (by rw [lessH_ne h2]; exact q)) n3 ⟨s'.heap, ks.toArray.toList, hal, rfl, hk2⟩
/-- while f runs: the list's own object at a is empty, its items held, the keys' list at kS -/
theorem keyJ_tree {f : Value} {n : Nat} (J : List Value → Shared → Prop) (ho : s.heap.get? a = some (seqObj "list" vs.toArray n))
    (hJ : J [] { s with heap := sortingHeap s.heap a vs }) (stay : ∀ ks s' h', J ks s' → Heap.SameBut (s.heap.objs.size + 1) s'.heap h' → J ks { s' with heap := h' })
    (hlen : kz.length = vs.length) (hZ : vs.length ≤ sizeLine) (hal : AllAlike kz) (hsk : Sortable kz) (hu : ∀ d, d ∈ kz → A.units + d.depth < cLine)
    (turn : ∀ (j : Nat) (x : Value) (ks : List Value) (s' : Shared) (e e1 : Nat), vs[j]? = some x → ks.length = j → J ks s' → s'.heap.get? (s.heap.objs.size + 1) = some (seqObj "list" ks.toArray e) → s'.heap.get? a = some (seqObj "list" #[] e1) →
      wpAny (model prog w) A (call f [x]) (fun v s'' => J (ks ++ [v]) s'' ∧ s''.heap.get? (s.heap.objs.size + 1) = some (seqObj "list" ks.toArray e) ∧ s''.heap.get? a = some (seqObj "list" #[] e1)) (fun _ _ => False) s')
    (fin : ∀ ks s', J ks s' → ks.length = vs.length → EachIs (fun v k => ∃ as, Reads s'.heap v k as) ks kz)
    (h : ∀ ks s' h' tk out c, J ks s' → ks.length = vs.length → (∀ d o, d ≠ a → d ≠ s.heap.objs.size + 1 → s'.heap.get? d = some o → h'.get? d = some o) → h'.get? a = some (seqObj "list" (List.toArray out) c) → KeyedOut b kz vs out → P (.done (.ret .none)) { s' with heap := h', toks := tk }) :
    wpAny (model prog w) A (ksk_tree a f b) P E s := by
  have ha : a < s.heap.objs.size := Heap.lt_size ho
  obtain ⟨e1, ho1⟩ : ∃ e1, (s.heap.update a (Obj.mapSeq fun _ => (#[] : Array Value))).get? a = some (seqObj "list" #[] e1) := ⟨_, get?_update_seq ho fun _ => #[]⟩
  have hkS : ((s.heap.update a (Obj.mapSeq fun _ => (#[] : Array Value))).push (seqObj "tuple" vs.toArray 0)).objs.size = s.heap.objs.size + 1 := by rw [size_push', Heap.size_update]
  unfold ksk_tree
  refine wpAny_bind (listItems_at ho rfl ?_)
  refine wpAny_bind (listUpdate_at ho rfl ?_ (by rw [List.size_toArray]; exact hZ) (Nat.zero_le _))
  refine wpAny_bind (seqEpoch_at ho1 rfl ?_)
  refine wpAny_bind (wpAny_newTuple ?_ (by show vs.length ≤ _; exact hZ))
  refine wpAny_bind (wpAny_newList ?_ (Nat.zero_le _))
  refine wpAny_holding ?_
  refine keyJ_rest (kz := kz) (e1 := e1) (s := { s with heap := ((s.heap.update a (Obj.mapSeq fun _ => (#[] : Array Value))).push (seqObj "tuple" vs.toArray 0)).push (seqObj "list" #[] 0) }) (kS := ((s.heap.update a (Obj.mapSeq fun _ => (#[] : Array Value))).push (seqObj "tuple" vs.toArray 0)).objs.size)
    J hJ (by rw [hkS]; exact stay) (Heap.get?_push_size _ rfl) (Heap.get?_push_of_some _ (Heap.get?_push_of_some _ ho1)) (by rw [hkS]; exact Nat.ne_of_gt (Nat.lt_succ_of_lt ha)) hlen hZ hal hsk hu
    (by rw [hkS]; exact fun j x ks s' e => turn j x ks s' e e1) fin (by rw [hkS]; exact h)
/-- sorted(xs, key=f) -/
theorem sorted_J {l : Addr} {f : Value} {kw : List (Str × Value)} {Q : Value → Shared → Prop} (J : List Value → Shared → Prop) (hl : s.heap.IsList l vs.toArray)
    (hJ : J [] { s with heap := sortingHeap (copyHeap s.heap vs) (s.heap.objs.size + 1) vs }) (stay : ∀ ks s' h', J ks s' → Heap.SameBut (s.heap.objs.size + 3) s'.heap h' → J ks { s' with heap := h' })
    (hlen : kz.length = vs.length) (hZ : vs.length ≤ sizeLine) (hal : AllAlike kz) (hsk : Sortable kz) (hu : ∀ d, d ∈ kz → A.in1.in1.units + d.depth < cLine) (ha1 : argsOk "sorted" ⟨[.ref l], kw⟩) (ha2 : ∀ x, argsOk "list.sort" ⟨[.ref x], kw⟩) (ht : ∀ x, Builtin.«list.sort» ⟨[.ref x], kw⟩ = ksk_tree x f b)
    (turn : ∀ (j : Nat) (x : Value) (ks : List Value) (s' : Shared) (e e1 : Nat), vs[j]? = some x → ks.length = j → J ks s' → s'.heap.get? (s.heap.objs.size + 3) = some (seqObj "list" ks.toArray e) → s'.heap.get? (s.heap.objs.size + 1) = some (seqObj "list" #[] e1) →
      wpAny (model prog w) A.in1.in1 (call f [x]) (fun v s'' => J (ks ++ [v]) s'' ∧ s''.heap.get? (s.heap.objs.size + 3) = some (seqObj "list" ks.toArray e) ∧ s''.heap.get? (s.heap.objs.size + 1) = some (seqObj "list" #[] e1)) (fun _ _ => False) s')
    (fin : ∀ ks s', J ks s' → ks.length = vs.length → EachIs (fun v k => ∃ as, Reads s'.heap v k as) ks kz)
    (h : ∀ ks s' h' tk out c, J ks s' → ks.length = vs.length → (∀ d o, d ≠ s.heap.objs.size + 1 → d ≠ s.heap.objs.size + 3 → s'.heap.get? d = some o → h'.get? d = some o) → h'.get? (s.heap.objs.size + 1) = some (seqObj "list" (List.toArray out) c) → KeyedOut b kz vs out →
      Q (.ref (s.heap.objs.size + 1)) { s' with heap := h', toks := tk }) :
    wpAny (model prog w) A (call (.builtin "sorted") [.ref l] kw) Q E s := by
  have hsz : (copyHeap s.heap vs).objs.size + 1 = s.heap.objs.size + 3 := by
    unfold copyHeap
    rw [size_push', Heap.size_update, size_push']
  refine sorted_of_sort hl hZ ha1 ha2 fun E' => ?_
  rw [ht]
  refine keyJ_tree (kz := kz) (s := { s with heap := copyHeap s.heap vs }) J (copyHeap_at s.heap vs) hJ ?_ hlen hZ hal hsk hu ?_ fin ?_
  · show ∀ ks s' h', J ks s' → Heap.SameBut ((copyHeap s.heap vs).objs.size + 1) s'.heap h' → _
    rw [hsz]
    exact stay
  · show ∀ (j : Nat) (x : Value) (ks : List Value) (s' : Shared) (e e1 : Nat), vs[j]? = some x → ks.length = j → J ks s' → s'.heap.get? ((copyHeap s.heap vs).objs.size + 1) = _ → _
    rw [hsz]
    exact turn
  · intro ks s' h' tk out c j1 j2 j3 j4 j5
    refine ⟨rfl, h ks s' h' tk out c j1 j2 (fun d o h1 h2 => j3 d o h1 ?_) j4 j5⟩
    show d ≠ (copyHeap s.heap vs).objs.size + 1
    rw [hsz]
    exact h2
end
end Iv
set_option Elab.async false
set_option linter.all false
set_option maxRecDepth 100000
set_option maxHeartbeats 2000000
/-! Iu8: a lambda of one parameter (turned from the kit's lambda without one). -/
namespace Iv
open PySem PySem.Spec PyProof.Rows L2 LamX
/-- one parameter x, no other name of its own: captured ones and globals -/
structure LamS1 (sc scope : Scope) (x : Str) : Prop where
  kind : scope.kind = .function
  co : scope.isCoroutine = false
  gen : scope.isGenerator = false
  par : scope.names.lookup x = some .local
  own : ∀ y ∈ scope.names, y.2 ≠ .cell ∧ (y.2 = .local → y.1 = x)
  free : ∀ y ∈ scope.names, y.2 = .free → sc.names.lookup y.1 = some .cell ∨ sc.names.lookup y.1 = some .free
def lamS1B (sc scope : Scope) (x : Str) : Bool :=
  decide (scope.kind = .function) && !scope.isCoroutine && !scope.isGenerator && decide (scope.names.lookup x = some .local) && scope.names.all fun y => !decide (y.2 = .cell) && (!decide (y.2 = .local) || decide (y.1 = x)) && (!decide (y.2 = .free) || decide (sc.names.lookup y.1 = some .cell) || decide (sc.names.lookup y.1 = some .free))
theorem lamS1_by {sc scope : Scope} {x : Str} (h : lamS1B sc scope x = true) : LamS1 sc scope x := by
  unfold lamS1B at h
  simp only [Bool.and_eq_true, Bool.or_eq_true, Bool.not_eq_true', decide_eq_true_eq, decide_eq_false_iff_not, List.all_eq_true] at h
  obtain ⟨⟨⟨⟨h1, h2⟩, h3⟩, h5⟩, h4⟩ := h
  refine ⟨h1, h2, h3, h5, fun y hy => ⟨(h4 y hy).1.1, fun e => (h4 y hy).1.2.resolve_left fun z => z e⟩, fun y hy e => ?_⟩
  rcases (h4 y hy).2 with (z | z) | z
  · exact absurd e z
  · exact .inl z
  · exact .inr z
theorem LamS1.has {X : Cx} {scope : Scope} {x : Str} (L : LamS1 X.env.scope scope x) (ok : X.Ok) : ∀ y ∈ scope.names, y.2 = .free → ∃ c, X.env.cells.lookup y.1 = some c := fun y hy e => by
  rcases L.free y hy e with k | k
  · exact ok.has _ (.inl k)
  · exact ok.has _ (.inr k)
section
variable {X : Cx} {pins : List (Addr × Obj)} {σ : L2.St} {H HZ : Hp} {s s1 : Shared}
theorem lam_start1 {A : Around} {outer : List PySem.Env} {E : XK} {scope : Scope} {f c' : Addr} {h₁ : Heap} {tk : Nat} {x : Str} {i : Nat} {v : V} {u : Value} (I : Inv X pins σ H s) (L : LamS1 X.env.scope scope x) (e0 : Env0 X.prog X.w X.K X.mg X.base A outer s1 HZ) (hd : A.handled = none)
    (un : Un (frs X.stack) [] H HZ s.heap s1.heap) (hns : h₁.Ns s1.heap.objs.size fun y => ([(x, u)] : List (Str × Value)).reverse.lookup y) (kp : ∀ b o, s1.heap.get? b = some o → h₁.get? b = some o) (hN : X.N.Nodup) (hi : X.N[i]? = some x) (ru : RelV v u) :
    Inv (lamCx X A outer s1 HZ E scope f c') [] (σ.set i (some v)) HZ { s1 with heap := h₁, toks := tk } := by
  have hfree := L.has I.ok
  have cm : ∀ {y c}, (cloFrom X.env.cells scope.names []).lookup y = some c → X.env.cells.lookup y = some c := fun {y c} e => by
    rcases cloFrom_mem (PySem.mem_of_lookup e) with hm | ⟨h1, h2⟩
    · cases hm
    · obtain ⟨c1, hc⟩ := hfree _ h1 rfl
      have hc : X.env.cells.lookup y = some c1 := hc
      have e2 : c = c1 := by
        rw [h2, hc] <;> rfl
      rw [e2]
      exact hc
  have look : ∀ {y}, scope.names.lookup y = some .free → ∃ c, (cloFrom X.env.cells scope.names []).lookup y = some c := fun {y} hl => by
    have hy : (y, NameKind.free) ∈ scope.names := PySem.mem_of_lookup hl
    exact mem_lookup (cloFrom_has (cells := X.env.cells) (acc := []) hy)
  have cellK : ∀ {c : Addr} {v : Option Value}, H c = none → s.heap.IsCell c v → h₁.IsCell c v := fun {c v} n ⟨o, ho, hd⟩ => by
    obtain ⟨sl, q⟩ := un.any ho n (by simp)
    exact ⟨_, kp _ _ q, hd⟩
  have noA : ∀ b : Addr, b ∉ (lamCx X A outer s1 HZ E scope f c').ex := fun b z => absurd (show b ∈ ([] : List Addr) from z) (by simp)
  refine ⟨⟨e0.mod, L.kind, rfl, rfl, Nat.le_refl _, fun y z c e1 e2 => I.ok.inj y z c (cm e1) (cm e2), fun y hy => ?_, fun y c z _ => ?_, fun _ => hd, Around.frames_deeper e0.frames, .inr ⟨rfl, rfl⟩, fun b z => absurd z (noA b), e0.bs, e0.bsz, fun b _ _ => noA b,
      fun b z => absurd z (noA b), e0.funs, e0.frf⟩,
    rfl, e0.bare, Un.kept kp, ⟨_, hns, fun j y v' e1 e2 e3 => ?_⟩, fun y c e => ?_, e0.hok.fresh (Nat.le_refl _), fun y c e => ?_, fun q hq => absurd (show q ∈ ([] : List (Addr × Obj)) ++ [] from hq) (by simp), e0.hok.kept kp, by rw [List.length_set]; exact I.len⟩
  · have hy : scope.names.lookup y = some .cell ∨ scope.names.lookup y = some .free := hy
    rcases hy with hy | hy
    · exact absurd rfl (L.own _ (PySem.mem_of_lookup hy)).1
    · exact look hy
  · have z : false = true := z
    cases z
  · have e1 : X.N[j]? = some y := e1
    have e3 : Vis scope y := e3
    have li : i < σ.length := by
      rw [I.len]
      exact (List.getElem?_eq_some_iff.mp hi).1
    by_cases hj : i = j
    · subst hj
      rw [hi] at e1
      cases e1
      rw [List.getElem?_set_self li] at e2
      cases e2
      refine ⟨u, ru, .inl ⟨L.par, ?_⟩⟩
      simp [List.lookup]
    · rw [List.getElem?_set_ne hj] at e2
      rcases e3 with k | k | k
      · have : y = x := (L.own _ (PySem.mem_of_lookup k)).2 rfl
        subst this
        obtain ⟨l1, g1⟩ := List.getElem?_eq_some_iff.mp hi
        obtain ⟨l2, g2⟩ := List.getElem?_eq_some_iff.mp e1
        have pw := List.pairwise_iff_getElem.mp hN
        rcases Nat.lt_or_gt_of_ne hj with z | z
        · exact absurd (g1.trans g2.symm) (pw i j l1 l2 z)
        · exact absurd (g2.trans g1.symm) (pw j i l2 l1 z)
      · exact absurd rfl (L.own _ (PySem.mem_of_lookup k)).1
      · obtain ⟨m, hn, hl⟩ := I.loc
        have hvis : Vis X.env.scope y := (L.free _ (PySem.mem_of_lookup k) rfl).elim (fun k => .inr (.inl k)) (fun k => .inr (.inr k))
        obtain ⟨w', r, q⟩ := hl j y v' e1 e2 hvis
        obtain ⟨c2, h2⟩ := look k
        refine ⟨w', r, .inr ⟨.inr k, c2, h2, ?_⟩⟩
        have c1 := cm h2
        rcases q with ⟨k', _⟩ | ⟨_, c3, e', z⟩
        · have k' : X.env.scope.names.lookup y = some .local := k'
          rcases L.free _ (PySem.mem_of_lookup k) rfl with k2 | k2 <;> rw [show X.env.scope.names.lookup y = _ from k2] at k' <;> cases k'
        · rw [c1] at e'
          cases e'
          exact cellK (I.freeC y _ c1) z
  · obtain ⟨w', z⟩ := I.cell y c (cm e)
    exact ⟨w', cellK (I.freeC y c (cm e)) z⟩
  · obtain ⟨v, o, ho, hd⟩ := I.cell y c (cm e)
    exact un.free c o ho (I.freeC y c (cm e)) (by simp)
/-- what is wanted of a lambda's end -/
abbrev ECX (X : Cx) (HZ : Hp) (s1 : Shared) (E : XK) : Value → Shared → Prop := fun e s' => L2.CX X.prog X.w X.stack HZ s1 E e s'
/-- the lambda is called with one value, from what a built-in function of the def's context runs: I of the lambda's making, I1 of the call -/
theorem lam_call1 {pins1 : List (Addr × Obj)} {A : Around} {E : XK} {scope : Scope} {f c' : Addr} {x : Str} {i k : Nat} {v : V} {u pm ctv : Value} {params : Arguments} {body : Expr} {tb : TE} {Q : VK}
    (I : Inv X pins σ H s) (I1 : Inv X pins1 σ HZ s1) (un : Un (frs X.stack) [] H HZ s.heap s1.heap) (e0 : Env0 X.prog X.w X.K X.mg X.base A X.stack s1 HZ) (L : LamS1 X.env.scope scope x)
    (hf : s.heap.get? f = some (PySem.W.kla_obj "<lambda>" (X.env.qual ++ "<lambda>") params body scope (cloFrom X.env.cells scope.names []) pm c' ctv)) (hfn : H f = none) (hfr : f ∉ frs X.stack) (hco : HZ c' = some (CodeO c' (X.env.qual ++ "<lambda>")))
    (hbind : ∀ u : Value, bindArgs (PySem.W.kla_fn "<lambda>" (X.env.qual ++ "<lambda>") params body scope (cloFrom X.env.cells scope.names []) pm (.ref c') ctv) ⟨[u], []⟩ = pure [(x, u)])
    (hd : A.handled = none) (hdep : A.depth < recursionLimit) (hN : X.N.Nodup) (hi : X.N[i]? = some x) (ru : RelV v u)
    (hbody : PE (lamCx X A X.stack s1 HZ E scope f c') body tb) (h : tb (σ.set i (some v)) HZ Q) :
    wpAny (model X.prog X.w) A (call (.ref f) [u]) (fun r s' => CE X.stack X.prog X.w HZ s1 Q r s') (ECX X HZ s1 E) s1 := by
  have of1 := un.keep f _ hf hfn hfr (by simp)
  obtain ⟨⟨oc, vs, t, hoc, hdc, hvc⟩, _, _⟩ := I1.hok c' _ hco
  have rc : codeAny (model X.prog X.w) A (.call (.ref f) ⟨[u], []⟩) (CR (L2.CX X.prog X.w) X.stack X.prog X.w HZ s1 Q E) s1 := by
    refine PySem.W.kla_callFunE hdep of1 rfl L.co L.gen rfl ⟨c', oc, vs, t, rfl, hoc, hdc, hvc⟩ ?_
    rw [hbind]
    refine wpAny_pure (wpAny_newFunctionEnv (fun y hy => (L.own y hy).1) (fun y hy => by
      rw [List.mem_singleton.mp hy]
      exact L.par) (fun h₁ hns hsb => ⟨I1.nolimit.fresh _ hsb, ?_⟩) L.kind)
    show codeAny _ _ (.expr body (lamEnv X scope s1.heap.objs.size f c')) _ _
    have kp : ∀ b o, s1.heap.get? b = some o → h₁.get? b = some o := fun b o e => hsb.extBut b o (Nat.ne_of_lt (Heap.lt_size e)) (Heap.get?_push_of_some _ e)
    have J : Inv (lamCx X A X.stack s1 HZ E scope f c') [] (σ.set i (some v)) HZ { s1 with heap := h₁, toks := s1.toks + ([(x, u)] : List (Str × Value)).length } :=
      lam_start1 I L e0 hd un hns kp hN hi ru
    refine PySem.W.kla_codeExpr (wpAny_mono (hbody.run [] _ _ HZ Q J h) (fun v s' hq => ?_) fun e s' hq => hq)
    obtain ⟨w', H', J', rv, q⟩ := hq
    exact ⟨w', H', J'.os, J'.bare, J'.base, J'.hok, rv, q⟩
  refine wpAny_call (codeAny_mono rc fun r s' hq => ?_)
  cases r with
  | error e => exact hq
  | ok fl =>
    cases fl with
    | ret u => exact hq
    | _ => exact False.elim hq
/-- what the making tells of the lambda at f -/
structure LamMade (X : Cx) (T : List (Addr × Str)) (params : Arguments) (body : Expr) (scope : Scope) (H H1 : Hp) (s' : Shared) (f c' : Addr) (pm ctv : Value) : Prop where
  ext : ExtN H H1
  tr : ∀ b o, H b = some o → ∃ o', H1 b = some o'
  tabs : Tabs T H1
  at_ : s'.heap.get? f = some (PySem.W.kla_obj "<lambda>" (X.env.qual ++ "<lambda>") params body scope (cloFrom X.env.cells scope.names []) pm c' ctv)
  no : H1 f = none
  nf : f ∉ frs X.stack
  code : H1 c' = some (CodeO c' (X.env.qual ++ "<lambda>"))
theorem lam_new {T : List (Addr × Str)} {c P : Addr} {params : Arguments} {body : Expr} {scope : Scope} {pos : Pos} {E : Value → Shared → Prop} {Q : Value → Shared → Prop} (I : Inv X pins σ H s) (B : TabB X.base X.mg c P) (hcode : X.env.code = .ref c)
    (hm : (P, X.env.qual ++ "<lambda>") ∈ T) (hu : ∀ p ∈ T, p.1 = P → p.2 = X.env.qual ++ "<lambda>") (hT : Tabs T H) (hdef : defaultsOf params X.env = ([], [])) (hfree : ∀ y ∈ scope.names, y.2 = .free → ∃ c, X.env.cells.lookup y.1 = some c)
    (h : ∀ (f c' : Addr) (pm ctv : Value) (H1 : Hp) (s' : Shared), Inv X pins σ H1 s' → LamMade X T params body scope H H1 s' f c' pm ctv → Q (.ref f) s') :
    wpAny (model X.prog X.w) X.A (eval (.Lambda params body scope pos) X.env) Q E s := by
  obtain ⟨ps, hP, ht, ha⟩ := hT _ hm
  have tabAt := I.hok P _ hP
  have builtins := B.bm.keeps I.bk
  have nf : ∀ f, s.heap.objs.size ≤ f → f ∉ frs X.stack := fun f hf z => (List.mem_cons.mp (I.stkSub _ z)).elim
    (fun e => absurd I.lt (by rw [← e]; exact Nat.not_lt.mpr hf)) (I.nofs hf)
  refine PySem.W.kla_eval hdef ?_
  cases hc : codeAmong pos ps.toList with
  | some cv =>
    obtain ⟨c', rfl, hco⟩ := ha pos cv hc
    refine PySem.W.kla_makeFunctionHit (mg := X.mg) (c := c) (P := P) (closure_ok hfree) I.ok.glob (I.mod.glob.keeps I.bk) hcode (B.code.keeps I.bk) tabAt ht hc builtins fun ctv h' tk old size => ?_
    exact h h'.objs.size c' ((X.mg "__name__").getD .none) ctv H _ (I.kept fun b o e => Heap.get?_push_of_some _ (old b o e)) ⟨.refl H, fun b o e => ⟨o, e⟩, hT, Heap.get?_push_size _ rfl, I.hok.fresh size, nf _ size, hco⟩
  | none =>
    refine PySem.W.kla_makeFunction (mg := X.mg) (c := c) (P := P) (closure_ok hfree) I.ok.glob (I.mod.glob.keeps I.bk) hcode (B.code.keeps I.bk) tabAt ht hc B.gP builtins fun c' ctv h' tk old new below made table => ?_
    obtain ⟨c2, oc, vs, t, ec, ho1, ho2, ho3⟩ := made
    cases ec
    have none' : H c' = none := I.hok.fresh new
    have size : s.heap.objs.size ≤ h'.objs.size := Nat.le_trans new (Nat.le_of_lt below)
    generalize hk : PySem.W.kla_obj "<lambda>" (X.env.qual ++ "<lambda>") params body scope (cloFrom X.env.cells scope.names []) ((X.mg "__name__").getD .none) c' ctv = lam
    have e1 : (h'.push lam).get? h'.objs.size = some lam := Heap.get?_push_size _ (by rw [← hk]; rfl)
    have I1 := inv_table (t' := tk) (h' := h'.push lam) (q := X.env.qual ++ "<lambda>") (more := #[rawInt pos.line, rawInt pos.col, .ref c']) I hP (fun b o hb e => Heap.get?_push_of_some _ (old b o hb e)) (Heap.get?_push_of_some _ table) new
      ⟨oc, vs, t, Heap.get?_push_of_some _ ho1, ho2, ho3⟩
    generalize hg : upd (upd H P (.tbl (ps ++ #[rawInt pos.line, rawInt pos.col, .ref c']))) c' (CodeO c' (X.env.qual ++ "<lambda>")) = G at I1
    have atc : G c' = some (CodeO c' (X.env.qual ++ "<lambda>")) := by rw [← hg, upd_same]
    have atP : G P = some (.tbl (ps ++ #[rawInt pos.line, rawInt pos.col, .ref c'])) := by rw [← hg, upd_ne (ne_of_none hP none'), upd_same]
    have other : ∀ b, b ≠ P → b ≠ c' → G b = H b := fun b n1 n2 => by rw [← hg, upd_ne n2, upd_ne n1]
    have grows : ExtN H G := fun b o e n => by
      rw [other b (fun z => n ps (Option.some.inj (e.symm.trans (z ▸ hP)))) (ne_of_none e none')]
      exact e
    have tl : (ps ++ #[rawInt pos.line, rawInt pos.col, .ref c']).toList = ps.toList ++ [rawInt pos.line, rawInt pos.col, .ref c'] := by simp
    refine h h'.objs.size c' ((X.mg "__name__").getD .none) ctv G _ I1 ⟨grows, fun b o e => ?_, fun p hp => ?_, by rw [hk]; exact e1, ?_, nf _ size, atc⟩
    · by_cases z : b = P
      · exact ⟨_, z ▸ atP⟩
      · exact ⟨o, by rw [other b z (ne_of_none e none')]; exact e⟩
    · by_cases z : p.1 = P
      · rw [hu p hp z, z]
        refine ⟨_, atP, by rw [tl]; exact PySem.TriplesOk_snoc _ _ _ _ ht, fun pos' cv h2 => ?_⟩
        rw [tl] at h2
        rcases among_app _ ht h2 with y | y
        · obtain ⟨c0, k1, k2⟩ := ha pos' cv y
          exact ⟨c0, k1, grows _ _ k2 codeO_ne⟩
        · exact ⟨c', y, atc⟩
      · obtain ⟨qs, k1, k2, k3⟩ := hT p hp
        refine ⟨qs, by rw [other _ z (ne_of_none k1 none')]; exact k1, k2, fun pos' cv h2 => ?_⟩
        obtain ⟨c0, k4, k5⟩ := k3 pos' cv h2
        exact ⟨c0, k4, grows _ _ k5 codeO_ne⟩
    · rw [other _ (Nat.ne_of_gt (Nat.lt_of_lt_of_le (Heap.lt_size tabAt) size)) (Nat.ne_of_gt below)]
      exact I.hok.fresh size
end
end Iv
set_option Elab.async false
set_option linter.all false
set_option maxRecDepth 100000
set_option maxHeartbeats 2000000
/-! Iu9: range(a, b, -1), list(range(n)), [x] * n, names = a, b, .. of new lists, op= on ints. -/
namespace Iv
open PySem PySem.Spec PyProof.Rows L2

/-! ### range(a, b, -1) -/
theorem rngdD_get (a b : Int) (i : Nat) : (rngdD a b)[i]? = if i < (a - b).toNat then some (.int (a - (i : Int))) else none := by
  unfold rngdD
  rw [List.getElem?_map]
  split
  · rename_i h
    rw [List.getElem?_range h]
    rfl
  · rename_i h
    rw [List.getElem?_eq_none (by simpa using h)]
    rfl
theorem rngdD_len (a b : Int) : (rngdD a b).length = (a - b).toNat := by simp [rngdD]
section
variable {K : PySem.W.Frag}
theorem it_rngd {a b : Int} {n : Nat} (hn : n = (a - b).toNat) : ItOk K (rngdD a b) (Itc a (-1) n) fun _ _ => True where
  go i H B _ h := by
    show i < n
    simp [rngdD] at h
    omega
  stop i H B _ h := by
    show n ≤ i
    simp [rngdD] at h
    omega
  yld i H B v H' _ t hi y := by
    obtain ⟨rfl, rfl⟩ := y
    rw [rngdD_len] at hi
    refine ⟨.int (a - (i : Int)), by rw [rngdD_get, if_pos hi], Same.refl _, ?_⟩
    rw [show a + (i : Int) * -1 = a - (i : Int) by omega]
    exact .int _
  keep _ _ _ _ _ _ := trivial
end
section
variable {X : Cx} {C : Cc} {W : WX} {Φ : Phi} {x y z tg : Expr} {p pos : Pos}
/-- the written -1 -/
abbrev negOne : E := .prim .neg [.ex (.cst (.int 1))]
theorem ev_negOne (ρ : Env) : evE Φ negOne ρ = .ok (.int (-1)) ρ := by
  simp only [evE, evOs, evO, R.bind, resOs, resO, prim, negD, R.ofO]
theorem pe_negOne {j : Nat} {p1 p2 : Pos} : PE X (.UnaryOp .USub (.Constant (.int 1) j p1) p2) (tE C W (evE Φ negOne)) := (pe_un un_neg pe_int).imp fun σ H Q ⟨Z, ρ, e, g⟩ => by
  rw [ev_negOne] at g
  exact ⟨1, rfl, g.now e _ (.int (-1))⟩
theorem i_rngd {a b : E} (hg : Gl X "range") (hm : X.mg "range" = none) (hs : starEach [x, y, z] X.env = (false, eval x X.env) :: starEach [y, z] X.env) (hpl : (backTo pos (starEach [y, z] X.env)).any (·.1) = false)
    (h : PA X [x, y, z] (tCons (tE C W (evE Φ a)) (tCons (tE C W (evE Φ b)) (tCons (tE C W (evE Φ negOne)) tNil)))) :
    PI X tg (.Call (.Name "range" p) [x, y, z] [] pos) (tI C W (evI Φ (.rngd a b))) := pi_imp (pi_range3 hg hm h hs hpl) fun σ H R' ⟨Z, ρ, e0, g⟩ => by
  simp only [evI] at g
  refine ⟨Z, ρ, e0, g.bind.and fun d ρ1 H1 e1 s1 k v r => ?_⟩
  refine ⟨Z, ρ1, e1, k.bind.and fun d2 ρ2 H2 e2 s2 k2 w rw => ?_⟩
  cases r with
  | int m =>
    cases rw with
    | int n =>
      dsimp only at k2
      split at k2
      · rename_i hz
        unfold rngOk at hz
        simp only [Bool.and_eq_true, decide_eq_true_eq] at hz
        refine ⟨Z, ρ2, e2, ?_⟩
        rw [ev_negOne]
        intro H3 e3 s3 u ru
        cases ru with
        | int =>
          refine ⟨m, n, -1, (m - n).toNat, rfl, .neg (by omega) (by omega) (by omega) (by omega), ?_⟩
          have k3 := k2 H3 e3 s3
          exact k3 _ _ (it_rngd rfl) trivial
      · exact (show False from k2).elim
    | _ => exact (show False from k2).elim
  | _ => exact (show False from k2).elim
/-! ### list(range(n)) -/
theorem rp_rg {H : Hp} {B : Addr → Prop} {K : PySem.W.Frag} (a b : Int) : RpL K H B (rgV a b) (rngD a b) := by
  unfold rgV rngD
  induction (List.range (b - a).toNat) with
  | nil => exact .nil
  | cons i r ih => exact .cons (.int _) ih
theorem l_lrng {e : E} {p2 pos2 : Pos} (hc : X.calm = true) (hg : Gl X "list") (hm : X.mg "list" = none) (hg2 : Gl X "range") (hm2 : X.mg "range" = none) (hx : starEach [x] X.env = [(false, eval x X.env)]) (h : PE X x (tE C W (evE Φ e))) :
    PE X (.Call (.Name "list" p) [.Call (.Name "range" p2) [x] [] pos2] [] pos) (tL C W (evL Φ (.lrng e))) := (pe_listRg hc hg hm (prg_1 hg2 hm2 h hx) rfl).imp fun σ H Q ⟨Z, ρ, e0, g⟩ => by
  simp only [evL] at g
  refine ⟨Z, ρ, e0, g.bind.and fun d ρ1 H1 e1 s1 k v r => ?_⟩
  cases r with
  | int n =>
    refine ⟨n, rfl, ?_⟩
    dsimp only at k
    split at k
    · rename_i hz
      simp only [Bool.and_eq_true, decide_eq_true_eq] at hz
      refine ⟨⟨by omega, by omega, by omega, by omega, by omega⟩, fun q hq => ?_⟩
      have k := k.grown e1 (same_upd (o := .lst (rgV 0 n)) hq)
      exact k q _ (back_of e0 e1 s1 q hq) (e1.addZ hq) upd_same (rp_rg 0 n)
    · exact (show False from k).elim
  | _ => exact (show False from k).elim
end

/-! ### names = a, b, .. -/
def setAll (σ : L2.St) : List Nat → List V → L2.St
  | i :: is, v :: vs => setAll (σ.set i (some v)) is vs
  | _, _ => σ
section
variable {C : Cc} {W : WX} {Z Z1 Z' Zi : Addr → Prop} {σ σ1 : L2.St} {ρ ρ1 : Env} {H : Hp} {vs : List V} {as : List AV}
theorem AvL.put (h : AvL C Z' σ ρ H Zi vs as) (bn : ∀ b, Bn Z1 σ1 ρ1 b → Bn Z' σ ρ b) (zz : ∀ b, Z' b → ¬ Zi b → Z1 b) (no : ∀ a ∈ as, ∀ i, a ≠ AV.io i) : AvL C Z1 σ1 ρ1 H Zi vs as := by
  induction h with
  | nil => exact .nil
  | dat r _ ih => exact .dat (r.weak bn) (ih zz fun a ha => no a (List.mem_cons_of_mem _ ha))
  | io r _ ih => exact (no _ (List.mem_cons_self ..) _ rfl).elim
  | tmp n z hp r h0 _ ih => exact .tmp n (zz _ z n) hp (r.weak bn) h0 (ih (fun b w k => zz b w fun q => k (.inl q)) fun a ha => no a (List.mem_cons_of_mem _ ha))
theorem putAs_noio : ∀ {is : List Nat} {as : List AV} {ρ ρ' : Env}, putAs ρ is as = some ρ' → ∀ a ∈ as, ∀ i, a ≠ AV.io i
  | [], [], _, _, _ => fun a ha => by cases ha
  | i :: is, a :: as, ρ, ρ', h => fun b hb => by
    unfold putAs at h
    split at h
    · rename_i ρ1 h1
      rcases List.mem_cons.mp hb with q | q
      · subst q
        intro k z
        subst z
        cases h1
      · exact putAs_noio (is := is) h b q
    · cases h
  | [], _ :: _, _, _, h => by cases h
  | _ :: _, [], _, _, h => by cases h
theorem putAs_ok {H0 : Hp} {σ0 : L2.St} {ρ0 : Env} (z0 : ∀ b, C.Z0 b → Z b) : ∀ {as : List AV} {is : List Nat} {vs : List V} {Z' Zi : Addr → Prop} {σ : L2.St} {ρ ρ' : Env}, (∀ i ∈ is, ∀ p ∈ C.io, p.1 ≠ i) → EnvR C Z' σ ρ H → (∀ b, Z b → Zi b) → (∀ b, Z b → Z' b) →
    AvL C Z' σ ρ H Zi vs as → putAs ρ is as = some ρ' → Stq σ0 ρ0 H0 σ ρ H → (∀ b o, H0 b = some o → Z' b → Z b) →
    ∃ Z1 : Addr → Prop, EnvR C Z1 (setAll σ is vs) ρ' H ∧ Stq σ0 ρ0 H0 (setAll σ is vs) ρ' H ∧ ∀ b, Z b → Z1 b
  | [], [], vs, Z', Zi, σ, ρ, ρ', _, e, _, hz, r, hp, s, _ => by
    cases hp
    cases r
    exact ⟨Z', e, s, hz⟩
  | a :: as, i :: is, vs, Z', Zi, σ, ρ, ρ', hio, e, up, hz, r, hp, s, hn => by
    unfold putAs at hp
    split at hp
    · rename_i ρ1 h1
      cases vs with
      | nil => cases r
      | cons v vs =>
        obtain ⟨r1, Zj, k1, k2, rt⟩ := r.tail
        obtain ⟨Z1, e1, s1, z1, zd, zu⟩ := putA_ok (hio i (List.mem_cons_self ..)) e z0 (r1.zi up) hz h1 s hn
        have bn : ∀ b, Bn Z1 (σ.set i (some v)) ρ1 b → Bn Z' σ ρ b := fun b z => by
          rcases z with z | z
          · exact .inl (zd b z)
          · rcases putA_own h1 z with ⟨xs, q1, q2⟩ | z
            · subst q1
              exact .inl (r1.tmpZ q2)
            · exact .inr z
        have rt' := rt.put (Z1 := Z1) bn (fun b w k => (zu b w).resolve_right fun ⟨xs, q1, q2⟩ => k (k2 b xs q1 q2)) (putAs_noio hp)
        exact putAs_ok (is := is) z0 (fun j hj => hio j (List.mem_cons_of_mem _ hj)) e1 (fun b z => k1 b (up b z)) z1 rt' hp s1 fun b o h z => hn b o h (zd b z)
    · cases hp
  | [], _ :: _, _, _, _, _, _, _, _, _, _, _, _, hp, _, _ => by cases hp
  | _ :: _, [], _, _, _, _, _, _, _, _, _, _, _, hp, _, _ => by cases hp
end
def gNms (is : List Nat) : TGs := fun vs σ H Q => vs.length = is.length ∧ Q (setAll σ is vs) H
section
variable {X : Cx} {C : Cc} {W : WX} {Φ : Phi} {pos : Pos}
theorem gNms_nil : PGs X [] (gNms []) := pgs_nil.imp fun vs σ H Q ⟨h, q⟩ => by
  have : vs = [] := List.length_eq_zero_iff.mp h
  subst this
  exact ⟨rfl, q⟩
theorem gNms_cons {i : Nat} {is : List Nat} {x : Expr} {xs : List Expr} (h : PG X x (gName i)) (hs : PGs X xs (gNms is)) (he : (assignEach (x :: xs) X.env).map (·.2) = assign x X.env :: (assignEach xs X.env).map (·.2)) : PGs X (x :: xs) (gNms (i :: is)) := (pgs_cons h hs he).imp fun vs σ H Q ⟨h, q⟩ => by
  cases vs with
  | nil => simp at h
  | cons v vs => exact ⟨v, vs, rfl, by simpa using h, q⟩
theorem asgm_read {K : PySem.W.Frag} {is : List Nat} {as : List A} (hio : ∀ i ∈ is, ∀ p ∈ C.io, p.1 ≠ i) (hl : as.length ≤ 1000) (hK : K = C.K) {D : Ends} {σ : L2.St} {H : Hp} (h : tS C W (evS Φ (.asgm is as)) D σ H) :
    tAsg (tTup (tAs C W (evAs Φ as))) (gTup K is.length (gNms is)) D σ H := by
  obtain ⟨Z, ρ, e0, g⟩ := h
  simp only [evS] at g
  refine ⟨Z, ρ, e0, ?_⟩
  cases hr : evAs Φ as ρ with
  | stuck =>
    rw [hr] at g
    exact g.elim
  | exc c p ρ1 =>
    rw [hr] at g
    exact fun cls dd H1 e1 s1 x => g cls dd σ H1 e1 s1 x
  | ok avs ρ1 =>
    rw [hr] at g
    intro H1 e1 s1 vs Z1 up1 hz1 e1' r1
    have g : GoodS C W Z σ ρ H (match putAs ρ1 is avs with | some ρ2 => .nx ρ2 | none => .stuck) D := g
    split at g
    · rename_i ρ2 hp
      have hlen : vs.length = as.length := r1.len.trans (evAs_len hr)
      have hli : avs.length = is.length := by
        have : ∀ {is : List Nat} {as : List AV} {ρ ρ' : Env}, putAs ρ is as = some ρ' → as.length = is.length := by
          intro is
          induction is with
          | nil =>
            intro as ρ ρ' h
            cases as with
            | nil => rfl
            | cons => cases h
          | cons i is ih =>
            intro as ρ ρ' h
            cases as with
            | nil => cases h
            | cons a as =>
              unfold putAs at h
              split at h
              · rw [List.length_cons, List.length_cons, ih h]
              · cases h
        exact this hp
      have hvl : vs.length = is.length := r1.len.trans hli
      refine ⟨by rw [hlen, sizeLine_eq]; omega, fun t ht => ?_⟩
      have sm := same_upd (o := .tup vs) ht
      refine ⟨t, vs, rfl, .inl (.inl upd_same), hvl, hvl, ?_⟩
      have st := s1.trans (Stq.same (σ := σ) (ρ := ρ1) sm)
      have r2 := r1.step e1' (Stq.same sm) (fun b z => z) (fun _ _ _ z => z)
      obtain ⟨Z2, e2, s2, z2⟩ := putAs_ok (Z := Z) e0.z0 hio (e1'.grow sm) (fun b z => z) up1 r2 hp st hz1
      exact g.nxt (e2.weakZ z2 e0.z0) s2
    · exact g.elim
theorem s_asgm {is : List Nat} {as : List A} {xs tgs : List Expr} {k k2 : Nat} {pt pt2 : Pos} (hK : X.K = C.K) (hc : X.calm = true) (hio : ∀ i ∈ is, ∀ p ∈ C.io, p.1 ≠ i) (hl : as.length ≤ 1000) (ha : PA X xs (tAs C W (evAs Φ as))) (hg : PGs X tgs (gNms is)) (hlen : is.length = tgs.length)
    (hn : (assignEach tgs X.env).length = tgs.length) (hst : (assignEach tgs X.env).findIdx? (·.1) = none) (hw : swappedStores [.Tuple tgs k pt] (.Tuple xs k2 pt2) X.env = pure none) (hs : swapsWithSole [.Tuple tgs k pt] (.Tuple xs k2 pt2) pos.line X.env = pure false) :
    PS X (.Assign [.Tuple tgs k pt] (.Tuple xs k2 pt2) pos) (tS C W (evS Φ (.asgm is as))) := (ps_asg (pe_tup ha) (pg_tup hc hg hn hst) hs hw).imp fun D σ H h => hlen ▸ asgm_read hio hl hK h

/-! ### op= -/
theorem aug_ip {op : Operator} {p : Prim} {K : PySem.W.Frag} (h : (op = .Add ∧ p = .add) ∨ (op = .Sub ∧ p = .sub)) : PIp X op (fun x y H Q => ∃ i j z, x = .int i ∧ y = .int j ∧ augD p (.int i) (.int j) = some (.int z) ∧ Q (.int z) H) := by
  rcases h with ⟨rfl, rfl⟩ | ⟨rfl, rfl⟩
  · intro pins s σ H x y v u Q I r1 r2 ⟨i, j, z, e1, e2, hz, q⟩
    cases hz
    exact ip_add pins s σ H x y v u Q I r1 r2 ⟨i, j, e1, e2, q⟩
  · intro pins s σ H x y v u Q I r1 r2 ⟨i, j, z, e1, e2, hz, q⟩
    cases hz
    exact ip_sub pins s σ H x y v u Q I r1 r2 ⟨i, j, e1, e2, q⟩
theorem augD_int {p : Prim} {d e z : D} (h : augD p d e = some z) : ∃ i j k, d = .int i ∧ e = .int j ∧ z = .int k := by
  cases d with
  | int i =>
    cases e with
    | int j =>
      simp only [augD] at h
      split at h <;> cases h <;> exact ⟨i, j, _, rfl, rfl, rfl⟩
    | _ => cases h
  | _ => cases h
theorem s_aug {op : Operator} {p : Prim} {i : Nat} {z : Str} {e : E} {x : Expr} {pos' : Pos} (hop : (op = .Add ∧ p = .add) ∨ (op = .Sub ∧ p = .sub)) (hio : ∀ p ∈ C.io, p.1 ≠ i) (hN : X.N.Nodup) (hi : X.N[i]? = some z) (hx : Loc X.env.scope z) (hf : X.fn z = true ∨ X.env.scope.names.lookup z = some .local) (h : PE X x (tE C W (evE Φ e))) :
    PS X (.AugAssign (.Name z pos') op x pos) (tS C W (evS Φ (.aug p i e))) := (ps_aug hN hi hx h (aug_ip (K := X.K) hop) hf).imp fun D σ H ⟨Z, ρ, e0, g⟩ => by
  simp only [evS] at g
  split at g
  · rename_i d hd
    obtain ⟨v, h1, h2⟩ := e0.dat i d hd
    refine ⟨v, h1, Z, ρ, e0, g.ofR.and fun d2 ρ1 H1 e1 s1 k w rw => ?_⟩
    split at k
    · rename_i z hz
      obtain ⟨a, b, c, rfl, rfl, rfl⟩ := augD_int hz
      cases h2
      cases rw
      refine ⟨a, b, c, rfl, rfl, hz, ?_⟩
      split at k
      · rename_i hlt
        obtain ⟨e2, s2⟩ := e1.setDat hlt hio (.int c)
        exact k.nxt e2 s2
      · exact k.elim
    · exact k.elim
  · exact g.elim
theorem get_list : PGet X (rIxL X.K) := by
  intro pins s σ H x y v u Q I rx ry h
  obtain ⟨p, xs, i, z, rfl, rfl, hq, he, q⟩ := h
  cases rx
  obtain ⟨t, rfl⟩ := ry
  obtain ⟨its, r, pl, hz⟩ := I.list hq
  obtain ⟨j, h1, h2, h3, h4, h5⟩ := atI_get he
  obtain ⟨w, ew, rw'⟩ := r.get h2
  have hl := r.length
  have hn := line63
  have fin : EP X pins σ Q w s := ⟨z, H, I, rw', q⟩
  by_cases h0 : 0 ≤ i
  · have hj : i.toNat = j := by
      rw [seqIndex_of h0 h5] at h1
      exact Option.some.inj h1
    exact wpAny_getItem_list pl.isList h0 (by omega) (by rw [hj]; simpa using ew) fin
  · have hj : (i + (its.toArray.size : Int)).toNat = j := by
      rw [seqIndex_neg (by omega) h4] at h1
      rw [List.size_toArray, ← hl]
      exact Option.some.inj h1
    exact wpAny_getItem_list_neg pl.isList (by omega) (by rw [List.size_toArray] <;> omega) (by omega) (by rw [hj]; simpa using ew) fin
theorem s_augs {op : Operator} {p : Prim} {i : Nat} {kE e : E} {o kx x : Expr} {tpos : Pos} (hK : X.K = C.K) (hop : (op = .Add ∧ p = .add) ∨ (op = .Sub ∧ p = .sub)) (ho : PE X o (tVar i)) (hk : PE X kx (tE C W (evE Φ kE))) (h : PE X x (tE C W (evE Φ e)))
    (ha : ∀ ov iv new, augStore kx ov iv new = (do holding [new, ov, iv] (setItem ov iv new); release [new, ov, iv] []; pure .next)) :
    PS X (.AugAssign (.Subscript o kx tpos) op x pos) (tS C W (evS Φ (.augs p i kE e))) := (ps_augS ho hk get_list h (aug_ip (K := X.K) hop) set_list ha).imp fun D σ H ⟨Z, ρ, e0, g⟩ => by
  simp only [evS] at g
  split at g
  · rename_i xs0 hs0
    obtain ⟨a, vs0, h1, _, _, _⟩ := e0.own i xs0 hs0
    refine ⟨_, h1, Z, ρ, e0, g.ofR.and fun kv ρ1 H1 e1 s1 k w rw => ?_⟩
    split at k
    · rename_i xs hs
      split at k
      · rename_i old hold
        obtain ⟨a', vs, h1', h2, h3, h4⟩ := e1.own i xs hs
        rw [h1] at h1'
        cases h1'
        cases kv with
        | int n =>
          cases rw
          have hold : L2.atI xs n = some old := hold
          obtain ⟨v, hv, rv⟩ := h3.atI hold
          refine ⟨a, vs, n, v, rfl, rfl, hK ▸ (.inl (.inl h2)), hv, ?_⟩
          refine ⟨Z, ρ1, e1, k.ofR.and fun d2 ρ2 H2 e2 s2 k2 w2 rw2 => ?_⟩
          split at k2
          · rename_i ys hy
            split at k2
            · rename_i z hz
              split at k2
              · rename_i zs hzs
                obtain ⟨a1, b1, c1, rfl, rfl, rfl⟩ := augD_int hz
                cases rv
                cases rw2
                refine ⟨a1, b1, c1, rfl, rfl, hz, ?_⟩
                obtain ⟨j, hj, rfl⟩ := ixN_set hzs
                obtain ⟨a'', vs2, h1'', g2, g3, g4⟩ := e2.own i ys hy
                rw [h1] at h1''
                cases h1''
                refine ⟨a, vs2, n, j, rfl, rfl, g2, by rw [g3.length]; exact hj, ?_⟩
                obtain ⟨e3, s3⟩ := e2.setOwn hy h1 (g3.set j (.int c1))
                exact k2.nxt e3 s3
              · exact k2.elim
            · exact k2.elim
          · exact k2.elim
        | _ => cases hold
      · exact k.elim
    · exact k.elim
  · exact g.elim
end

/-! ### [x] * n -/
section
variable {X : Cx} {C : Cc} {W : WX} {Φ : Phi} {pos lpos cpos : Pos}
theorem flat_rep {α : Type} (x : α) : ∀ n : Nat, (List.replicate n [x]).flatten = List.replicate n x
  | 0 => rfl
  | n + 1 => by rw [List.replicate_succ, List.flatten_cons, flat_rep x n]; rfl
theorem rp_rep {K : PySem.W.Frag} {H : Hp} {B : Addr → Prop} {v : V} {d : D} (h : Rp K H B v d) : ∀ n : Nat, RpL K H B (List.replicate n v) (List.replicate n d)
  | 0 => .nil
  | n + 1 => .cons h (rp_rep h n)
/-- the values of constants -/
def cstV : D → Option V
  | .non => some .non
  | .bl b => some (.bl b)
  | .int i => some (.int i)
  | .str x => some (.str x)
  | _ => none
theorem cstV_rp {d : D} {v : V} (h : cstV d = some v) (K : PySem.W.Frag) (H : Hp) (B : Addr → Prop) : Rp K H B v d := by
  cases d with
  | non => cases h; exact .non
  | bl b => cases h; exact .bl b
  | int i => cases h; exact .int i
  | str x => cases h; exact .str x
  | _ => cases h
theorem l_repV {d : D} {v : V} {e : E} {c y : Expr} (hv : cstV d = some v) (hc : PE X c (tC v)) (hs : starEach [c] X.env = (false, eval c X.env) :: starEach [] X.env) (h : PE X y (tE C W (evE Φ e))) : PE X (.BinOp (.List [c] lpos) .Mult y pos) (tL C W (evL Φ (.rep d e))) :=
  (pe_op op_rep (pe_lst (pa_cons hc pa_nil hs)) h).imp fun σ H Q ⟨Z, ρ, e0, g⟩ => by
  simp only [evL] at g
  show (1 ≤ sizeLine ∧ ∀ l, H l = none → _)
  refine ⟨by decide, fun l hl => ?_⟩
  have sm := same_upd (o := .lst [v]) hl
  have e1 : EnvR C (fun b => Z b ∨ b = l) σ ρ (upd H l (.lst [v])) := e0.addZ hl
  have e2 := e0.grow sm
  have g2 : Good C W Z σ ρ (upd H l (.lst [v])) ((evE Φ e ρ).bind fun d_1 ρ1 => match d_1 with | D.int n => if (decide (-1000000 ≤ n) && decide (n ≤ 1000000)) = true then R.ok (List.replicate n.toNat d) ρ1 else R.stuck | x => R.stuck) fun ds ρ' H' => ∀ q vs, H q = none → EnvR C (fun b => Z b ∨ b = q) σ ρ' H' → H' q = some (.lst vs) → RpL C.K H' (Bn (fun b => Z b ∨ b = q) σ ρ') vs ds → Q (.ref q) H' := by
    revert g
    cases (evE Φ e ρ).bind fun d_1 ρ1 => match d_1 with | D.int n => if (decide (-1000000 ≤ n) && decide (n ≤ 1000000)) = true then R.ok (List.replicate n.toNat d) ρ1 else R.stuck | x => R.stuck with
    | stuck => exact id
    | exc cc p ρ1 => exact fun g cls dd H1 e1 s1 x => g cls dd H1 e1 ((Stq.same sm).trans s1) x
    | ok a ρ1 => exact fun g H1 e1 s1 => g H1 e1 ((Stq.same sm).trans s1)
  refine ⟨fun b => Z b ∨ b = l, ρ, e1, (g2.bind.upZ (fun b z => .inl z) e0.z0).and fun dn ρ1 H1 e3 s3 k w r => ?_⟩
  cases r with
  | int n =>
    dsimp only at k
    split at k
    · rename_i hz
      simp only [Bool.and_eq_true, decide_eq_true_eq] at hz
      have hl1 : H1 l = some (.lst [v]) := (s3.keep l _ upd_same (nt_lst _) (e1.nown (.inr rfl))).1
      refine ⟨l, n, [v], rfl, rfl, hl1, by omega, by omega, by rw [sizeLine_eq]; simp; omega, fun q hq => ?_⟩
      rw [flat_rep]
      have eZ : EnvR C Z σ ρ1 H1 := e3.weakZ (fun b z => .inl z) e0.z0
      have k := k.grown eZ (same_upd (o := .lst (List.replicate n.toNat v)) hq)
      exact k q _ (back_of e0 eZ ((Stq.same sm).trans s3) q hq) (eZ.addZ hq) upd_same (rp_rep (cstV_rp hv _ _ _) _)
    · exact (show False from k).elim
  | _ => exact (show False from k).elim
end
end Iv
set_option Elab.async false
set_option linter.all false
set_option maxRecDepth 100000
set_option maxHeartbeats 4000000
/-! Iu10: sorted(l, key=lambda x: k). -/
namespace Iv
open PySem PySem.Spec PyProof.Rows L2 LamX

/-! ### a slot for a while -/
section
variable {C : Cc} {Z : Addr → Prop} {σ : L2.St} {ρ : Env} {H H1 : Hp} {i : Nat} {v : Option V}
theorem own_unset {b : Addr} {d : D} (hd : ρ[i]? = some (.dat d)) (h : OwnA σ (ρ.set i .none) b) : OwnA (σ.set i v) ρ b := by
  obtain ⟨j, xs, h1, h2⟩ := h
  have q : i ≠ j := fun q => by
    subst q
    rw [List.getElem?_set_self (getElem?_lt hd)] at h1
    cases h1
  rw [List.getElem?_set_ne q] at h1
  exact ⟨j, xs, h1, by rw [List.getElem?_set_ne q]; exact h2⟩
theorem EnvR.unset {d : D} (e : EnvR C Z (σ.set i v) ρ H) (hd : ρ[i]? = some (.dat d)) : EnvR C Z σ (ρ.set i .none) H ∧ Stq (σ.set i v) ρ H σ (ρ.set i .none) H := by
  have look : ∀ {j : Nat} {s : Slot}, (ρ.set i .none)[j]? = some s → s ≠ .none → i ≠ j ∧ ρ[j]? = some s := fun {j s} h n => by
    by_cases q : i = j
    · subst q
      rw [List.getElem?_set_self (getElem?_lt hd)] at h
      cases h
      exact (n rfl).elim
    · rw [List.getElem?_set_ne q] at h
      exact ⟨q, h⟩
  have bn : ∀ b, Bn Z σ (ρ.set i .none) b → Bn Z (σ.set i v) ρ b := fun b z => z.imp id (own_unset hd)
  refine ⟨⟨by have := e.len; simpa using this, fun j d' h => ?_, fun j xs h => ?_, fun j k a xs ys h1 h2 h3 h4 => ?_, e.zt, e.z0, fun p hp => ?_, e.keep, e.tr0, e.tab, fun b h => e.fresh b (own_unset hd h)⟩, ⟨fun b o h _ n => ⟨h, fun z => n (own_unset hd z)⟩, fun b o h => ⟨o, h⟩⟩⟩
  · obtain ⟨q, h⟩ := look h (by simp)
    obtain ⟨w, g1, g2⟩ := e.dat j d' h
    rw [List.getElem?_set_ne q] at g1
    exact ⟨w, g1, g2.weak bn⟩
  · obtain ⟨q, h⟩ := look h (by simp)
    obtain ⟨a, vs, g1, g2, g3, g4⟩ := e.own j xs h
    rw [List.getElem?_set_ne q] at g1
    exact ⟨a, vs, g1, g2, g3.weak bn, g4⟩
  · obtain ⟨q1, k1⟩ := look h1 (by simp)
    obtain ⟨q2, k2⟩ := look h2 (by simp)
    exact e.inj j k a xs ys k1 k2 (by rw [List.getElem?_set_ne q1]; exact h3) (by rw [List.getElem?_set_ne q2]; exact h4)
  · obtain ⟨g1, xs, g2⟩ := e.io p hp
    have q : i ≠ p.1 := fun q => by
      rw [← q, hd] at g2
      cases g2
    rw [List.getElem?_set_ne q] at g1
    exact ⟨g1, xs, by rw [List.getElem?_set_ne q]; exact g2⟩
/-- a code object more in a table -/
theorem EnvR.tabs (e : EnvR C Z σ ρ H) (x : ExtN H H1) (tr : ∀ b o, H b = some o → ∃ o', H1 b = some o') (t : Tabs C.tb H1) : EnvR C Z σ ρ H1 ∧ Stq σ ρ H σ ρ H1 := by
  have kp : ∀ b o, H b = some o → Nt o → ¬ Bn Z σ ρ b → H1 b = some o ∧ ¬ Bn Z σ ρ b := fun b o h n k => ⟨x b o h n, k⟩
  refine ⟨⟨e.len, fun j d h => ?_, fun j xs h => ?_, e.inj, fun b h => ?_, e.z0, e.io, fun b o h n k => x b o (e.keep b o h n k) n, fun b o h => ?_, t, e.fresh⟩, ⟨fun b o h n k => ⟨x b o h n, k⟩, tr⟩⟩
  · obtain ⟨w, g1, g2⟩ := e.dat j d h
    exact ⟨w, g1, g2.keep kp⟩
  · obtain ⟨a, vs, g1, g2, g3, g4⟩ := e.own j xs h
    exact ⟨a, vs, g1, x a _ g2 (nt_lst _), g3.keep kp, g4⟩
  · obtain ⟨o, q⟩ := e.zt b h
    exact tr b o q
  · obtain ⟨o', q⟩ := e.tr0 b o h
    exact tr b o' q
end
/-- private objects at ch may have changed; that at T becomes known -/
theorem inv_fill {X : Cx} {pins : List (Addr × Obj)} {σ : L2.St} {H : Hp} {s : Shared} {h' : Heap} {t' : Nat} {ch : List Addr} {T : Addr} {ob : HO} (I : Inv X pins σ H s) (k : ∀ b o, b ∉ ch → s.heap.get? b = some o → h'.get? b = some o) (hf : ∀ b ∈ ch, FpOk X pins H b) (hT : T ∈ ch)
    (new : ObjOk X.prog X.w (upd H T ob) h' T ob) : Inv X pins σ (upd H T ob) { s with heap := h', toks := t' } := by
  have n0 : H T = none := (hf T hT).1
  have ne : ∀ b u, H b = some u → b ≠ T := fun b u e z => by
    rw [z, n0] at e
    cases e
  have nch : ∀ b u, H b = some u → b ∉ ch := fun b u e z => by
    rw [(hf b z).1] at e
    cases e
  refine I.step (g' := s.gens) (d' := s.drawn) (ch := ch) (fun b hb => ?_) (fun b o _ _ hc e _ => k b o hc e) (fun b o _ _ hc e _ => ⟨o.slots, k b o hc e⟩) (fun b o hc _ n => ?_) (fun b o hc e => ⟨o, k b o hc e⟩)
    (fun b xs e => by rw [upd_ne (ne b _ e)]; exact e) (fun b o u e => by rw [upd_ne (ne b _ e)]; exact e) (fun b ps e => ⟨#[], by rw [upd_ne (ne b _ e), e]; simp⟩) (fun m hm => ?_) (fun b u e => ?_) I.bare
  · obtain ⟨_, a1, _, a3, a4, a5⟩ := hf b hb
    exact ⟨a3, a1, a4, a5⟩
  · rw [upd_ne fun z => hc (by rw [z]; exact hT)]
    exact n
  · obtain ⟨o, es, ep, ho, r⟩ := hm
    exact ⟨o, es, ep, k _ o (fun z => (hf _ z).2.1 rfl) ho, r⟩
  · by_cases z : b = T
    · subst z
      rw [upd_same] at e
      cases e
      exact new
    · rw [upd_ne z] at e
      refine (I.hok b u e).stay (fun c v hc q => k c v ?_ q) (fun c q => by rw [upd_ne (ne c _ q)]; exact q) fun c xs q => by rw [upd_ne (ne c _ q)]; exact q
      rcases hc with y | y
      · rw [y]
        exact nch b u e
      · exact nch c _ y
/-! ### the keys -/
section
variable {e : Env → R D} {i : Nat} {x : D} {r ks : List D} {ρ ρ2 : Env}
theorem keyL_cons (h : keyL e i (x :: r) ρ = .ok ks ρ2) : ∃ d ρ1 d1 ds, ρ[i]? = some .none ∧ e (ρ.set i (.dat x)) = .ok d ρ1 ∧ ρ1[i]? = some (.dat d1) ∧ keyL e i r (ρ1.set i .none) = .ok ds ρ2 ∧ ks = d :: ds := by
  rw [keyL] at h
  split at h
  · rename_i h0
    obtain ⟨d, ρ1, h1, h⟩ := bind_ok h
    split at h
    · rename_i d1 hd
      obtain ⟨ds, ρ3, h2, h⟩ := bind_ok h
      cases h
      exact ⟨d, ρ1, d1, ds, h0, h1, hd, h2, rfl⟩
    · cases h
  · cases h
theorem keyL_len : ∀ {xs ks : List D} {ρ ρ2 : Env}, keyL e i xs ρ = .ok ks ρ2 → ks.length = xs.length
  | [], _, _, _, h => by
    rw [keyL] at h
    cases h
    rfl
  | x :: r, _, _, _, h => by
    obtain ⟨d, ρ1, d1, ds, _, _, _, h2, rfl⟩ := keyL_cons h
    rw [List.length_cons, List.length_cons, keyL_len h2]
end
structure LamOk (X : Cx) (C : Cc) (n : Nat) : Prop where
  tab : ∃ c P, TabB X.base X.mg c P ∧ X.env.code = .ref c ∧ (P, X.env.qual ++ "<lambda>") ∈ C.tb ∧ ∀ p ∈ C.tb, p.1 = P → p.2 = X.env.qual ++ "<lambda>"
  room : RoomB n X.A
/-- an exception that nobody wants -/
theorem ecx_no {X : Cx} {HZ : Hp} {s1 : Shared} {e : Value} {s' : Shared} (h : ECX X HZ s1 (fun _ _ _ => False) e s') : False := by
  obtain ⟨_, _, _, _, _, _, _, _, _, _, _, _, z⟩ := h
  exact z
section
variable {X : Cx} {C : Cc} {Φ : Phi} {pins : List (Addr × Obj)} {σ : L2.St}
/-- what holds behind so many keys: vs, ds the items, all the keys told, a and kS the sort's own lists -/
def KeyI (X : Cx) (C : Cc) (pins : List (Addr × Obj)) (σ : L2.St) (e : Env → R D) (i : Nat) (Z : Addr → Prop) (vs : List V) (ds all : List D) (ρ1 ρ2 : Env) (H1 HL : Hp) (sL : Shared) (c' : Addr) (q : Str) (a kS : Addr) (ks : List Value) (s' : Shared) : Prop :=
  ∃ (H' : Hp) (ρ' : Env) (kvs : List V) (kds rest : List D), Inv X pins σ H' s' ∧ EnvR C Z σ ρ' H' ∧ Stq σ ρ1 H1 σ ρ' H' ∧ H' a = none ∧ H' kS = none ∧ RpL C.K H' (Bn Z σ ρ') vs ds ∧ Vals kvs ks ∧ RpL C.K H' (Bn Z σ ρ') kvs kds ∧
    keyL e i (ds.drop ks.length) ρ' = .ok rest ρ2 ∧ kds ++ rest = all ∧ Un (frs X.stack) [] HL H' sL.heap s'.heap ∧ H' c' = some (CodeO c' q)
theorem codeO_nt (c : Addr) (q : Str) : Nt (CodeO c q) := fun ps z => codeO_ne ps z
theorem keyI_stay {e : Env → R D} {i : Nat} {Z : Addr → Prop} {vs : List V} {ds all : List D} {ρ1 ρ2 : Env} {H1 HL : Hp} {sL : Shared} {c' : Addr} {q : Str} {a kS : Addr} {ks : List Value} {s' : Shared} {h' : Heap} (J : KeyI X C pins σ e i Z vs ds all ρ1 ρ2 H1 HL sL c' q a kS ks s')
    (f : FpOk X pins (fun _ => none) kS) (nk : ∀ o, sL.heap.get? kS ≠ some o) (sb : Heap.SameBut kS s'.heap h') : KeyI X C pins σ e i Z vs ds all ρ1 ρ2 H1 HL sL c' q a kS ks { s' with heap := h' } := by
  obtain ⟨H', ρ', kvs, kds, rest, I, j2, j3, j4, j5, j6, j7, j8, j9, j10, un, j12⟩ := J
  obtain ⟨_, f1, f2, f3, f4, f5⟩ := f
  have kp : ∀ b o, b ≠ kS → s'.heap.get? b = some o → h'.get? b = some o := fun b o n e => (sb.2 b n).trans e
  have nb : ∀ b o, sL.heap.get? b = some o → b ≠ kS := fun b o e z => nk o (z ▸ e)
  refine ⟨H', ρ', kvs, kds, rest, I.turned (t' := s'.toks) kp j5 f1 f3 f4 f5, j2, j3, j4, j5, j6, j7, j8, j9, j10, ⟨fun b o e n1 n2 n3 => kp b o (nb b o e) (un.keep b o e n1 n2 n3), fun b o e n1 n2 n3 => ?_, un.free, fun b o e n3 => ?_, un.tups, un.frzs, un.tbls⟩, j12⟩
  · obtain ⟨sl, k⟩ := un.slot b o e n1 n2 n3
    exact ⟨sl, kp b _ (nb b o e) k⟩
  · obtain ⟨o', k⟩ := un.there b o e n3
    exact ⟨o', kp b _ (nb b o e) k⟩
end

open PySem.W in
theorem each_reads {X : Cx} {pins : List (Addr × Obj)} {σ : L2.St} {H : Hp} {s : Shared} {B : Addr → Prop} (I : Inv X pins σ H s) : ∀ {ds : List D} {vs : List V} {us : List Value}, RpL X.K H B vs ds → Vals vs us → EachIs (fun u k => ∃ as, Reads s.heap u k as) us (ds.map D.p)
  | [], _, _, .nil, .nil => .nil
  | _ :: _, _, _, .cons a b, .cons r rs => .cons (Rp.reads I a r) (each_reads I b rs)
open PySem.W in
theorem each_zip3 : ∀ {vs : List V} {us : List Value} {ds ks : List D}, Vals vs us → vs.length = ds.length → ks.length = ds.length → EachIs (fun u (b : (V × D) × D) => RelV b.1.1 u) us ((vs.zip ds).zip ks)
  | [], _, [], [], .nil, _, _ => .nil
  | v :: vs, u :: us, d :: ds, k :: ks, .cons r rs, h1, h2 => .cons r (each_zip3 rs (by simpa using h1) (by simpa using h2))
open PySem.W in
theorem each_vals3 : ∀ {us : List Value} {bs : List ((V × D) × D)}, EachIs (fun u (b : (V × D) × D) => RelV b.1.1 u) us bs → Vals (bs.map (·.1.1)) us
  | _, _, .nil => .nil
  | _, _, .cons r rs => .cons r (each_vals3 rs)
theorem RpL.trip {K : PySem.W.Frag} {H : Hp} {B : Addr → Prop} : ∀ {bs : List ((V × D) × D)}, (∀ b ∈ bs, Rp K H B b.1.1 b.1.2) → RpL K H B (bs.map (·.1.1)) (bs.map (·.1.2))
  | [], _ => .nil
  | b :: bs, h => .cons (h b (List.mem_cons_self ..)) (RpL.trip fun c hc => h c (List.mem_cons_of_mem _ hc))
theorem zip3_keys : ∀ {vs : List V} {ds ks : List D}, vs.length = ds.length → ks.length = ds.length → ((vs.zip ds).zip ks).map (fun b => b.2.p) = ks.map D.p ∧ ((vs.zip ds).zip ks).map (fun b => (b.1.2, b.2)) = ds.zip ks
  | [], [], [], _, _ => ⟨rfl, rfl⟩
  | v :: vs, d :: ds, k :: ks, h1, h2 => by
    obtain ⟨a, b⟩ := zip3_keys (vs := vs) (ds := ds) (ks := ks) (by simpa using h1) (by simpa using h2)
    simp only [List.zip_cons_cons, List.map_cons]
    exact ⟨by rw [a], by rw [b]⟩
section
variable {X : Cx} {C : Cc} {W : WX} {Φ : Phi}
theorem l_skey {n i : Nat} {l : LE} {kE : E} {y body : Expr} {params : Arguments} {scope : Scope} {x : Str} {lpos kpos p pos : Pos} (hK : X.K = C.K) (LO : LamOk X C n) (hg : Gl X "sorted") (hm : X.mg "sorted" = none) (hy : starEach [y] X.env = [(false, eval y X.env)])
    (hl : PE X y (tL C W (evL Φ l))) (L : LamS1 X.env.scope scope x) (hdef : defaultsOf params X.env = ([], []))
    (hbind : ∀ (cl : List (Str × Addr)) (pm cv ctv u : Value), bindArgs (PySem.W.kla_fn "<lambda>" (X.env.qual ++ "<lambda>") params body scope cl pm cv ctv) ⟨[u], []⟩ = pure [(x, u)])
    (hN : X.N.Nodup) (hi : X.N[i]? = some x) (hio : ∀ p ∈ C.io, p.1 ≠ i)
    (hbody : ∀ (s : Shared) (H : Hp) (E : XK) (f c' : Addr), PE (lamCx X X.A.in1.in1 X.stack s H E scope f c') body (tE C noW (evE Φ kE))) :
    PE X (.Call (.Name "sorted" p) [y] [⟨some "key", .Lambda params body scope lpos, kpos⟩] pos) (tL C W (evL Φ (.skey i l kE))) := by
  refine ⟨fun pins s σ H Q I h => ?_⟩
  obtain ⟨Z, ρ, e0, g⟩ := h
  simp only [evL] at g
  obtain ⟨c, P, TB, hcode, hmT, huT⟩ := LO.tab
  have room := LO.room
  refine wpAny_Call_Name_kw (ld_blt I hg hm boot_sorted ?_ (by decide) (by decide))
  have hA : PA X [y] (tCons (tL C W (evL Φ l)) tNil) := pa_cons hl pa_nil hy
  refine PyProof.Rows.callWith_kw (thn (hA.run pos pins s σ H (fun us H1 => ∃ p vs xs ρ1, us = [V.ref p] ∧ EnvR C Z σ ρ1 H1 ∧ Stp σ ρ ρ1 H H1 ∧ H1 p = some (.lst vs) ∧ RpL C.K H1 (Bn Z σ ρ1) vs xs ∧
      Good C W Z σ ρ1 H1 (noExc ((keyL (evE Φ kE) i xs ρ1).bind fun ks ρ2 => if sortOk ks then .ok (keySort xs ks) ρ2 else .stuck)) fun ds ρ' H' => ∀ q vs, H q = none → EnvR C (fun b => Z b ∨ b = q) σ ρ' H' → H' q = some (.lst vs) → RpL C.K H' (Bn (fun b => Z b ∨ b = q) σ ρ') vs ds → Q (.ref q) H') I
      ⟨Z, ρ, e0, g.bind.and fun xs ρ1 H1 e1 s1 k p vs hp e2 hv r => ⟨p, vs, xs, ρ1, rfl, e1, s1, hv, r.weak fun b z => z.imp .inl id, k⟩⟩) fun us s1 ⟨vs0, H1, I1, r1, q1⟩ => ?_) (by rw [hy]; rfl) (by rw [hy]; rfl) rfl rfl
  obtain ⟨p, vs, xs, ρ1, rfl, e1, sq1, hv, rl, k⟩ := q1
  obtain ⟨u0, rfl, ru0⟩ := vals1 r1
  obtain rfl : u0 = Value.ref p := ru0
  show wpAny _ _ (evalAll [(do let v ← eval (.Lambda params body scope lpos) X.env; standAt pos; pure v)]) _ _ s1
  refine wpAny_evalAll_cons (wpAny_bind (lam_new I1 TB hcode hmT huT e1.tab hdef (L.has I1.ok) fun f c' pm ctv HL sL IL M => wpAny_bind (wpAny_standAt (wpAny_pure (wpAny_evalAll_nil ?_)))))
  show wpAny _ _ (call (.builtin "sorted") [.ref p] [(Str.ofString "key", .ref f)]) _ _ sL
  obtain ⟨eL, sqL⟩ := e1.tabs M.ext M.tr M.tabs
  obtain ⟨ks, ρ2, hks, k2⟩ := noExc_ok k
  by_cases hso : sortOk ks = true
  rotate_left
  · rw [if_neg hso] at k2
    exact k2.elim
  rw [if_pos hso] at k2
  have k2 : Good C W Z σ ρ1 H1 (.ok (keySort xs ks) ρ2) _ := k2
  simp only [sortOk, Bool.and_eq_true, Bool.or_eq_true, List.all_eq_true, decide_eq_true_eq] at hso
  obtain ⟨⟨⟨z1, z2⟩, z3⟩, z4⟩ := hso
  have hvL : HL p = some (.lst vs) := M.ext p _ hv (nt_lst _)
  have rlL : RpL C.K HL (Bn Z σ ρ1) vs xs := sqL.rpl rl
  obtain ⟨its, rv, hlst, hz⟩ := IL.list (show SqL X.K HL p vs from .inl (.inl hvL))
  have n1 := rlL.length
  have n2 := keyL_len hks
  have n3 := rv.length
  have fa : FpOk X pins (fun _ => none) (sL.heap.objs.size + 1) := IL.fpOk (Nat.le_succ _) rfl
  have fk : FpOk X pins (fun _ => none) (sL.heap.objs.size + 3) := IL.fpOk (Nat.le_add_right _ _) rfl
  have old : ∀ b o, sL.heap.get? b = some o → (PySem.W.sortingHeap (PySem.W.copyHeap sL.heap its) (sL.heap.objs.size + 1) its).get? b = some o := fun b o e => PySem.W.sortingHeap_old (Nat.ne_of_lt (Nat.lt_succ_of_lt (Heap.lt_size e))) (PySem.W.copyHeap_old e)
  have kzm : ∀ {d : PyData}, d ∈ ks.map D.p → ∃ z ∈ ks, z.p = d := fun hd => List.mem_map.mp hd
  refine sorted_J (kz := ks.map D.p) (b := false) (KeyI X C pins σ (evE Φ kE) i Z vs xs ks ρ1 ρ2 H1 HL sL c' (X.env.qual ++ "<lambda>") (sL.heap.objs.size + 1) (sL.heap.objs.size + 3)) hlst.isList ?J0 ?stay (by rw [List.length_map]; omega) (by rw [← n3]; exact hz) ?hal ?hsk ?hu (ksk_s1 _ _) (fun _ => ksk_l1 _ _) (fun _ => ksk_t1 _ _) ?turn ?fin ?fill
  case J0 => exact ⟨HL, ρ1, [], [], ks, IL.kept (t' := sL.toks) old, eL, sqL, IL.hok.fresh (Nat.le_succ _), IL.hok.fresh (Nat.le_add_right _ _), rlL, .nil, .nil, hks, rfl, Un.kept old, M.code⟩
  case stay => exact fun ks' s' h' J sb => keyI_stay J fk (fun o e => absurd (Heap.lt_size e) (Nat.not_lt.mpr (Nat.le_add_right _ _))) sb
  case hal =>
    intro d hd d' hd'
    obtain ⟨a, ha, rfl⟩ := kzm hd
    obtain ⟨b, hb, rfl⟩ := kzm hd'
    exact z1 a ha b hb
  case hsk =>
    rcases z2 with z2 | z2
    · refine .inl fun d hd => ?_
      obtain ⟨a, ha, rfl⟩ := kzm hd
      exact tupN_of (z2 a ha)
    · refine .inr fun d hd => ?_
      obtain ⟨a, ha, rfl⟩ := kzm hd
      exact notT_of (z2 a ha)
  case hu =>
    intro d hd
    obtain ⟨a, ha, rfl⟩ := kzm hd
    have := shaped_depth (z3 a ha)
    have := room.un
    show X.A.units + 1 + 1 + _ < _
    omega
  case turn =>
    intro j u ks' s' ep e1' hu hlen J nk na
    obtain ⟨H', ρ', kvs, kds, rest, Ij, ej, sj, haN, hkN, rj, vj, rkj, hkey, hall, unj, hcj⟩ := J
    subst hlen
    have hjl : ks'.length < vs.length := by
      have := getElem?_lt hu
      omega
    obtain ⟨v, hvj⟩ : ∃ v, vs[ks'.length]? = some v := ⟨_, List.getElem?_eq_getElem hjl⟩
    obtain ⟨u', hu', ru⟩ := rv.get hvj
    have eu : u' = u := Option.some.inj (hu'.symm.trans hu)
    subst eu
    obtain ⟨d, hd, rd⟩ := rj.getV hvj
    rw [drop_cons hd] at hkey
    obtain ⟨kd, ρa, da, rest', h0, hk1, hda, hrest, hcons⟩ := keyL_cons hkey
    obtain ⟨es, ss⟩ := ej.setDat (getElem?_lt h0) hio rd
    have fp : ∀ b ∈ [sL.heap.objs.size + 3, sL.heap.objs.size + 1], FpOk X pins H' b := fun b hb => by
      rcases List.mem_cons.mp hb with q | q
      · rw [q]
        exact ⟨hkN, fk.2⟩
      · rw [List.mem_singleton.mp q]
        exact ⟨haN, fa.2⟩
    have I' := Ij.pinned fp fun b hb => by
      rcases List.mem_cons.mp hb with q | q
      · exact ⟨_, by rw [q]; exact nk, by intro v z; cases z⟩
      · exact ⟨_, by rw [List.mem_singleton.mp q]; exact na, by intro v z; cases z⟩
    refine wpAny_mono (lam_call1 (k := 0) (tb := tE C noW (evE Φ kE)) (Q := fun v' H'' => EnvR C Z (σ.set i (some v)) ρa H'' ∧ Stp (σ.set i (some v)) (ρ'.set i (.dat d)) ρa H' H'' ∧ Rp C.K H'' (Bn Z (σ.set i (some v)) ρa) v' kd) (E := fun _ _ _ => False)
      IL I' unj I'.env0.in1.in1 L M.at_ M.no M.nf hcj (hbind _ _ _ _) room.hd (by have := room.dp; show X.A.depth < _; omega) hN hi ru (hbody _ _ _ _ _) ⟨Z, _, es, by rw [hk1]; exact fun H'' e'' s'' v' r' => ⟨e'', s'', r'⟩⟩) (fun r s'' hce => ?_) (fun e s'' z => ecx_no z)
    obtain ⟨v', H'', os, bare, un2, hok2, rv', e'', st'', r''⟩ := hce
    have I2 := I'.call' (ch := []) os un2 hok2 bare fun b z => absurd z (by simp)
    obtain ⟨pk1, pk2, _⟩ := I2.pin _ (List.mem_append_right _ (List.mem_append_right _ (mem_pinsAt (List.mem_cons_self ..) nk)))
    obtain ⟨pa1, pa2, _⟩ := I2.pin _ (List.mem_append_right _ (List.mem_append_right _ (mem_pinsAt (List.mem_cons_of_mem _ (List.mem_cons_self ..)) na)))
    obtain ⟨eu, su⟩ := e''.unset hda
    have chain := ss.trans (st''.trans su)
    refine ⟨⟨H'', ρa.set i .none, kvs ++ [v'], kds ++ [kd], rest', I2.unpinned, eu, sj.trans chain, pa2, pk2, chain.rpl rj, vj.append (.cons rv' .nil), (chain.rpl rkj).append (.one (su.rp r'')), ?_, ?_, unj.trans un2, ?_⟩, pk1, pa1⟩
    · rw [List.length_append, List.length_singleton]
      exact hrest
    · rw [← hall, hcons]
      simp
    · refine (chain.keep c' _ hcj (codeO_nt _ _) fun z => ?_).1
      obtain ⟨j, zs, g1, g2⟩ := z
      obtain ⟨a, us, g3, g4, _⟩ := ej.own j zs g1
      rw [g2] at g3
      cases g3
      rw [g4] at hcj
      have z := Option.some.inj hcj
      unfold CodeO at z
      cases z
  case fin =>
    intro ks' s' J hlen
    obtain ⟨H', ρ', kvs, kds, rest, Ij, ej, sj, haN, hkN, rj, vj, rkj, hkey, hall, unj, hcj⟩ := J
    rw [List.drop_eq_nil_of_le (by omega), keyL] at hkey
    cases hkey
    rw [List.append_nil] at hall
    subst hall
    rw [← hK] at rkj
    exact each_reads Ij rkj vj
  case fill =>
    intro ks' s' h' tk out cc J hlen keep at_ ko
    obtain ⟨H', ρ', kvs, kds, rest, Ij, ej, sj, haN, hkN, rj, vj, rkj, hkey, hall, unj, hcj⟩ := J
    rw [List.drop_eq_nil_of_le (by omega), keyL] at hkey
    cases hkey
    obtain ⟨em1, em2⟩ := zip3_keys (vs := vs) (ds := xs) (ks := ks) n1 n2
    have ez := each_zip3 (ks := ks) rv n1 n2
    rw [← em1] at ko
    have eo := PySem.W.keyedOut_each (rev := false) (fun b : (V × D) × D => b.2.p) ko ez
    generalize hB : ((vs.zip xs).zip ks).mergeSort (PySem.W.dataLe false fun b : (V × D) × D => b.2.p) = B at eo
    have hperm : B.Perm ((vs.zip xs).zip ks) := by
      rw [← hB]
      exact List.mergeSort_perm _ _
    have hout : B.map (·.1.2) = keySort xs ks := by
      have e1 : B.map (fun b => (b.1.2, b.2)) = (xs.zip ks).mergeSort leK := by
        rw [← hB, ← em2]
        exact List.map_mergeSort (r := PySem.W.dataLe false fun b : (V × D) × D => b.2.p) (s := leK) (f := fun b : (V × D) × D => (b.1.2, b.2)) (fun a _ b _ => rfl)
      unfold keySort
      rw [← e1, List.map_map]
      rfl
    have rp : RpL C.K H' (Bn Z σ ρ2) (B.map (·.1.1)) (keySort xs ks) := by
      rw [← hout]
      refine RpL.trip fun b hb => ?_
      have hb1 := hperm.mem_iff.mp hb
      exact rj.zipM b.1 (List.of_mem_zip (show (b.1, b.2) ∈ _ from hb1)).1
    have hBl : B.length = vs.length := by
      rw [hperm.length_eq, List.length_zip, List.length_zip]
      omega
    have fp : ∀ b ∈ [sL.heap.objs.size + 1, sL.heap.objs.size + 3], FpOk X pins H' b := fun b hb => by
      rcases List.mem_cons.mp hb with q | q
      · rw [q]
        exact ⟨haN, fa.2⟩
      · rw [List.mem_singleton.mp q]
        exact ⟨hkN, fk.2⟩
    have I3 := inv_fill (t' := tk) (h' := h') (ob := .lst (B.map (·.1.1))) Ij (fun b o hb e => keep b o (fun z => hb (by rw [z]; exact List.mem_cons_self ..)) (fun z => hb (by rw [z]; exact List.mem_cons_of_mem _ (List.mem_cons_self ..))) e) fp (List.mem_cons_self ..)
      ⟨by rw [List.length_map, hBl]; exact hz, out, cc, each_vals3 eo, at_⟩
    refine ⟨.ref _, _, I3, rfl, ?_⟩
    have sm := same_upd (o := .lst (B.map (·.1.1))) haN
    exact k2 _ (ej.grow sm) (sj.trans (Stq.same sm)) _ _ (back_of e0 ej (sq1.trans sj) _ haN) (ej.addZ haN) upd_same ((rp.new haN).weak bnZ)
end
end Iv
set_option Elab.async false
set_option linter.all false
set_option maxRecDepth 100000
set_option maxHeartbeats 2000000
/-! Iv15: a text of the program against the small language: the checks of expressions. -/
namespace Iv
open PySem PySem.Spec PyProof.Rows L2

structure FnT where
  name : Str
  ps : List Str
  fr : Bool
structure Tbl where
  fns : List FnT
  free : List Str
  csts : List (Str × D)
  mods : List (Str × String)

mutual
def D.same : D → D → Bool
  | .non, .non => true
  | .bl a, .bl b => a == b
  | .int a, .int b => a == b
  | .str a, .str b => a == b
  | .tup a, .tup b => D.sameL a b
  | .lst a, .lst b => D.sameL a b
  | .emp, .emp => true
  | _, _ => false
def D.sameL : List D → List D → Bool
  | [], [] => true
  | a :: as, b :: bs => D.same a b && D.sameL as bs
  | _, _ => false
end
mutual
theorem D.same_eq : ∀ {a b : D}, D.same a b = true → a = b
  | .non, b, h => by cases b <;> simp [D.same] at h ⊢
  | .bl a, b, h => by cases b <;> simp [D.same] at h ⊢ <;> exact h
  | .int a, b, h => by cases b <;> simp [D.same] at h ⊢ <;> exact h
  | .str a, b, h => by cases b <;> simp [D.same] at h ⊢ <;> exact h
  | .tup a, b, h => by
    cases b <;> simp [D.same] at h ⊢
    exact D.sameL_eq h
  | .lst a, b, h => by
    cases b <;> simp [D.same] at h ⊢
    exact D.sameL_eq h
  | .emp, b, h => by cases b <;> simp [D.same] at h ⊢
theorem D.sameL_eq : ∀ {a b : List D}, D.sameL a b = true → a = b
  | [], b, h => by cases b <;> simp [D.sameL] at h ⊢
  | a :: as, b, h => by
    cases b with
    | nil => simp [D.sameL] at h
    | cons b bs =>
      simp [D.sameL] at h
      rw [D.same_eq h.1, D.sameL_eq h.2]
end

def plainX : Expr → Bool
  | .Starred .. => false
  | _ => true
def visB (sc : Scope) (y : Str) : Bool := match sc.names.lookup y with
  | some .local => true
  | some .cell => true
  | some .free => true
  | _ => false
def locB (sc : Scope) (y : Str) : Bool := match sc.names.lookup y with
  | some .local => true
  | some .cell => true
  | _ => false
def nmB (N : List Str) (sc : Scope) (i : Nat) (y : Str) : Bool := decide (N[i]? = some y) && visB sc y
def glB (sc : Scope) (y : Str) : Bool := match sc.names.lookup y with
  | some .globalImplicit => true
  | _ => false
def notSlice : Expr → Bool
  | .Slice .. => false
  | _ => true
def notComp : Expr → Bool
  | .ListComp .. => false
  | .SetComp .. => false
  | .DictComp .. => false
  | _ => true
def notSet : Expr → Bool
  | .Set .. => false
  | _ => true
def cB : D → Const → Bool
  | .non, .none => true
  | .bl a, .bool b => a == b
  | .int a, .int b => a == b
  | .str a, .str b => a == b
  | _, _ => false
def binP : Operator → Option Prim
  | .Add => some .add
  | .Sub => some .sub
  | .Mult => some .mul
  | .FloorDiv => some .fdiv
  | .Mod => some .mod
  | .Pow => some .pow
  | _ => none
def cmpP : CmpOp → Prim
  | .Eq => .eq
  | .NotEq => .ne
  | .Lt => .lt
  | .LtE => .le
  | .Gt => .gt
  | .GtE => .ge
  | .Is => .isN
  | .IsNot => .notN
  | .In => .isin
  | .NotIn => .notin
def bltP : Prim → Option Str
  | .len => some "len"
  | .abs => some "abs"
  | .max => some "max"
  | .min => some "min"
  | .sum => some "sum"
  | .all => some "all"
  | .any => some "any"
  | .divmod => some "divmod"
  | .repr => some "repr"
  | .sorted => some "sorted"
  | _ => none
def typP : Prim → Option Str
  | .tuple => some "tuple"
  | .list => some "list"
  | .int1 => some "int"
  | .str1 => some "str"
  | _ => none
def gbB (T : Tbl) (sc : Scope) (f : Str) : Bool := glB sc f && T.free.contains f
def isaB (T : Tbl) (sc : Scope) : List String → List Expr → Bool
  | [], [] => true
  | t :: ts, .Name y _ :: xs => (y == (t : Str)) && isaTs.contains t && gbB T sc y && isaB T sc ts xs
  | _, _ => false
/-- the text of an operation, k: of its operands -/
def okPx (T : Tbl) (sc : Scope) (p : Prim) (x : Expr) (k : List Expr → Bool) : Bool := match x with
  | .BinOp l o r _ => decide (binP o = some p) && k [l, r]
  | .Compare l ops rs _ => (match ops, rs with
    | [o], [r] => decide (cmpP o = p) && !(behindInMarks o r) && k [l, r]
    | _, _ => false)
  | .UnaryOp o y _ => decide (o = .USub) && decide (p = .neg) && k [y]
  | .Subscript l s _ => (match s with
    | .Slice lo hi st _ => (match lo, hi, st with
      | none, none, some (.UnaryOp o (.Constant (.int n) _ _) _) => decide (o = .USub) && decide (n = 1) && decide (p = .rev) && k [l]
      | none, none, none => decide (p = .slc false false) && k [l]
      | some a, none, none => decide (p = .slc true false) && k [l, a]
      | none, some b, none => decide (p = .slc false true) && k [l, b]
      | _, _, _ => false)
    | s => decide (p = .idx) && notSlice s && k [l, s])
  | .Call f xs kws _ => (match f, kws with
    | .Name f _, [] => if p = .gcd then glB sc f && T.mods.contains (f, "math.gcd") && decide (xs.length = 2) && k xs else gbB T sc f && (match p, xs with
      | .isinst Ts, [y, t] => (f == ("isinstance" : Str)) && k [y] && plainX y && (match t with
        | .Tuple ts _ _ => decide (Ts.length ≤ 9) && isaB T sc Ts ts
        | t => isaB T sc Ts [t])
      | p, xs => (decide (bltP p = some f) || decide (typP p = some f)) && !xs.isEmpty && k xs)
    | _, _ => false)
  | _ => false
def callB (T : Tbl) (sc : Scope) (f : Str) (ks : List Nat) (xs : List Expr) (kws : List Keyword) (fr : Bool) : Bool := glB sc f && (match T.fns.find? (fun g => g.name == f) with
  | none => false
  | some g => (!fr || g.fr) && (if kws.isEmpty then ks.isEmpty && decide (xs.length = g.ps.length) && decide g.ps.Nodup
    else
      let names := kws.filterMap (·.arg)
      let L := g.ps.take xs.length ++ names
      decide (names.length = kws.length) && decide (xs.length + names.length = g.ps.length) && decide L.Nodup && g.ps.all (fun n => L.contains n) && names.all (fun n => g.ps.contains n) && decide (ks = g.ps.map L.idxOf) && !g.ps.isEmpty))
def ownOf (N : List Str) (ow : List Nat) : List (Str × Nat) := ow.map fun i => (N.getD i ⟨#[]⟩, i)
def compB (N : List Str) (sc sc2 : Scope) (ow : List Nat) (t : T) : Bool := blkC N sc sc2 (ownOf N ow) && t.ns.all (fun i => ow.contains i)

/-- a lambda of one parameter, in slot i -/
def lamB (N : List Str) (io : List Nat) (sc scope : Scope) (p : Arguments) (i : Nat) : Bool := match p.args with
  | [a] => p.posonlyargs.isEmpty && p.kwonlyargs.isEmpty && p.vararg.isNone && p.kwarg.isNone && p.defaults.isEmpty && p.kw_defaults.isEmpty && decide (N[i]? = some a.arg) && lamS1B sc scope a.arg && !(io.contains i)
  | _ => false
section
variable (Tb : Tbl) (N : List Str) (io : List Nat)
mutual
def okE : Bool → E → Scope → Expr → Bool
  | lm, .var i, sc, x => match x with
    | .Name y _ => nmB N sc i y
    | _ => false
  | lm, .cst d, _, x => match x with
    | .Constant c _ _ => cB d c
    | .Dict ks vs _ => ks.isEmpty && vs.isEmpty && D.same d .emp
    | _ => false
  | lm, .glb y d, sc, x => match x with
    | .Name z _ => (z == y) && glB sc y && Tb.csts.any (fun p => p.1 == y && D.same p.2 d)
    | _ => false
  | lm, .prim p os, sc, x => okPx Tb sc p x fun xs => okOs lm os sc xs
  | lm, .chain p q a b c, sc, x => match x with
    | .Compare l ops rs _ => (match ops, rs with
      | [o1, o2], [m, r] => decide (cmpP o1 = p) && decide (cmpP o2 = q) && !(lastMarks [o1, o2] [m, r]) && okE lm a sc l && okE lm b sc m && okE lm c sc r
      | _, _ => false)
    | _ => false
  | lm, .and a b, sc, x => match x with
    | .BoolOp o vs pos => (match vs with
      | y :: z :: zs => decide (o = .And) && okE lm a sc y && (if zs.isEmpty then okE lm b sc z else okE lm b sc (.BoolOp .And (z :: zs) pos))
      | _ => false)
    | _ => false
  | lm, .or a b, sc, x => match x with
    | .BoolOp o vs pos => (match vs with
      | y :: z :: zs => decide (o = .Or) && okE lm a sc y && (if zs.isEmpty then okE lm b sc z else okE lm b sc (.BoolOp .Or (z :: zs) pos))
      | _ => false)
    | _ => false
  | lm, .not a, sc, x => match x with
    | .UnaryOp o y _ => decide (o = .Not) && okE lm a sc y
    | _ => false
  | lm, .ite c a b, sc, x => match x with
    | .IfExp t y z _ => okE lm c sc t && okE lm a sc y && okE lm b sc z
    | _ => false
  | lm, .tup es, sc, x => match x with
    | .Tuple xs _ _ => decide (es.length ≤ 1000) && okEs lm es sc xs
    | _ => false
  | lm, .call f as ks, sc, x => match x with
    | .Call g xs kws _ => (match g with
      | .Name g _ => (g == f) && callB Tb sc f ks xs kws false && okAs lm as sc xs kws
      | _ => false)
    | _ => false
  | lm, .meth p o os, sc, x => match x with
    | .Call g xs kws p2 => (match g, xs, kws with
      | .Attribute (.Name z q) m p1, [y], [] => decide (p = .index) && (m == ("index" : Str)) && decide (p1.endLine = p2.line) && plainX y && okO lm o sc (.Name z q) && okOs lm os sc [y]
      | _, _, _ => false)
    | _ => false
  | lm, .cut a b c, sc, x => match x with
    | .Subscript l s _ => (match s with
      | .Slice lo hi st _ => (match lo, hi, st with
        | some y, some z, none => okO lm a sc l && okE lm b sc y && okE lm c sc z
        | _, _, _ => false)
      | _ => false)
    | _ => false
  | lm, .ofL l, sc, x => okL lm l sc x
def okL : Bool → LE → Scope → Expr → Bool
  | lm, .disp es, sc, x => match x with
    | .List xs _ => decide (es.length ≤ 1000) && okEs lm es sc xs
    | _ => false
  | lm, .prim p os, sc, x => p.fresh && okPx Tb sc p x fun xs => okOs lm os sc xs
  | lm, .comp ow t it ifs e, sc, x => match x with
    | .ListComp elt gs sc2 _ => (match gs with
      | [⟨tg, iter, ifx, n⟩] => decide (n = 0) && compB N sc sc2 ow t && notSet iter && okI lm it sc tg iter && okT lm t (relS sc2 sc) sc2 tg && okIf lm ifs (relS sc2 sc) ifx && okE lm e (relS sc2 sc) elt
      | _ => false)
    | _ => false
  | lm, .call f as ks, sc, x => match x with
    | .Call g xs kws _ => (match g with
      | .Name g _ => (g == f) && callB Tb sc f ks xs kws true && okAs lm as sc xs kws
      | _ => false)
    | _ => false
  | lm, .lrng e, sc, x => match x with
    | .Call g xs kws _ => (match g, xs, kws with
      | .Name f _, [.Call g2 xs2 kws2 _], [] => (match g2, xs2, kws2 with
        | .Name f2 _, [y], [] => (f == ("list" : Str)) && gbB Tb sc f && (f2 == ("range" : Str)) && gbB Tb sc f2 && plainX y && okE lm e sc y
        | _, _, _ => false)
      | _, _, _ => false)
    | _ => false
  | lm, .skey i l k, sc, x => match x with
    | .Call g xs kws _ => (match g, xs, kws with
      | .Name f _, [y], [⟨some kn, .Lambda params body scope _, _⟩] => lm && (f == ("sorted" : Str)) && gbB Tb sc f && (kn == ("key" : Str)) && plainX y && okL lm l sc y && lamB N io sc scope params i && okE false k scope body
      | _, _, _ => false)
    | _ => false
  | lm, .rep d e, sc, x => match x with
    | .BinOp (.List [.Constant c _ _] _) o y _ => decide (o = .Mult) && cB d c && okE lm e sc y
    | _ => false
  | lm, .sset ow vs1 t it t1 it1 e, sc, x => match x with
    | .Call g xs kws _ => (match g, xs, kws with
      | .Name f _, [.SetComp elt gs sc2 _], [] => (match gs with
        | [⟨tg, iter, ifx, n⟩, ⟨tg1, iter1, ifx1, n1⟩] => (f == ("sorted" : Str)) && gbB Tb sc f && decide (n = 0) && decide (n1 = 0) && ifx.isEmpty && ifx1.isEmpty && compB N sc sc2 ow t && t1.ns.all (fun i => vs1.contains i) && vs1.all (fun i => ow.contains i) && notSet iter && notSet iter1 &&
          okI lm it sc tg iter && okT lm t (relS sc2 sc) sc2 tg && okI lm it1 (relS sc2 sc) tg1 iter1 && okT lm t1 (relS sc2 sc) sc2 tg1 && okE lm e (relS sc2 sc) elt
        | _ => false)
      | _, _, _ => false)
    | _ => false
def okO : Bool → O → Scope → Expr → Bool
  | lm, .ex e, sc, x => okE lm e sc x
  | lm, .sl i, sc, x => match x with
    | .Name y _ => nmB N sc i y
    | _ => false
def okOs : Bool → List O → Scope → List Expr → Bool
  | lm, [], _, xs => xs.isEmpty
  | lm, o :: os, sc, xs => match xs with
    | [] => false
    | x :: xs => plainX x && okO lm o sc x && okOs lm os sc xs
def okEs : Bool → List E → Scope → List Expr → Bool
  | lm, [], _, xs => xs.isEmpty
  | lm, o :: os, sc, xs => match xs with
    | [] => false
    | x :: xs => plainX x && okE lm o sc x && okEs lm os sc xs
def okA : Bool → A → Scope → Expr → Bool
  | lm, .ex e, sc, x => okE lm e sc x
  | lm, .io i, sc, x => match x with
    | .Name y _ => nmB N sc i y
    | _ => false
  | lm, .fr l, sc, x => okL lm l sc x
def okAs : Bool → List A → Scope → List Expr → List Keyword → Bool
  | lm, [], _, xs, ks => xs.isEmpty && ks.isEmpty
  | lm, a :: as, sc, xs, ks => match xs with
    | x :: xs => plainX x && okA lm a sc x && okAs lm as sc xs ks
    | [] => match ks with
      | [] => false
      | ⟨nm, v, _⟩ :: ks => nm.isSome && okA lm a sc v && okAs lm as sc [] ks
def okI : Bool → It → Scope → Expr → Expr → Bool
  | lm, .seq e, sc, _, x => okE lm e sc x
  | lm, .rng e, sc, _, x => match x with
    | .Call g xs kws _ => (match g, xs, kws with
      | .Name f _, [y], [] => (f == ("range" : Str)) && gbB Tb sc f && plainX y && okE lm e sc y
      | _, _, _ => false)
    | _ => false
  | lm, .rng2 a b, sc, _, x => match x with
    | .Call g xs kws _ => (match g, xs, kws with
      | .Name f _, [y, z], [] => (f == ("range" : Str)) && gbB Tb sc f && plainX y && plainX z && okE lm a sc y && okE lm b sc z
      | _, _, _ => false)
    | _ => false
  | lm, .rngd a b, sc, _, x => match x with
    | .Call g xs kws _ => (match g, xs, kws with
      | .Name f _, [y, z, .UnaryOp o (.Constant (.int n) _ _) _], [] => (f == ("range" : Str)) && gbB Tb sc f && plainX y && plainX z && decide (o = .USub) && decide (n = 1) && okE lm a sc y && okE lm b sc z
      | _, _, _ => false)
    | _ => false
  | lm, .enum e, sc, tg, x => match x with
    | .Call g xs kws _ => (match g, xs, kws, tg with
      | .Name f _, [y], [], .Tuple _ _ _ => (f == ("enumerate" : Str)) && gbB Tb sc f && plainX y && okE lm e sc y
      | _, _, _, _ => false)
    | _ => false
  | lm, .zip a b, sc, tg, x => match x with
    | .Call g xs kws _ => (match g, xs, kws, tg with
      | .Name f _, [y, z], [], .Tuple _ _ _ => (f == ("zip" : Str)) && gbB Tb sc f && plainX y && plainX z && okE lm a sc y && okE lm b sc z
      | _, _, _, _ => false)
    | _ => false
def okIf : Bool → Option E → Scope → List Expr → Bool
  | lm, none, _, xs => xs.isEmpty
  | lm, some c, sc, xs => match xs with
    | [x] => okE lm c sc x
    | _ => false
def okT : Bool → T → Scope → Scope → Expr → Bool
  | lm, .nm i, _, ss, x => match x with
    | .Name y _ => decide (N[i]? = some y) && locB ss y && !(io.contains i)
    | _ => false
  | lm, .tup ts, sc, ss, x => match x with
    | .Tuple xs _ _ => decide (ts.length = xs.length) && okTs lm ts sc ss xs
    | _ => false
  | lm, .sub i k, sc, _, x => match x with
    | .Subscript o kx _ => (match o with
      | .Name y _ => nmB N sc i y && notSlice kx && okE lm k sc kx
      | _ => false)
    | _ => false
def okTs : Bool → List T → Scope → Scope → List Expr → Bool
  | lm, [], _, _, xs => xs.isEmpty
  | lm, t :: ts, sc, ss, xs => match xs with
    | [] => false
    | x :: xs => plainX x && okT lm t sc ss x && okTs lm ts sc ss xs
end
end
end Iv
set_option Elab.async false
set_option linter.all false
set_option maxRecDepth 100000
set_option maxHeartbeats 4000000
/-! Iv16: what the checks of expressions tell. -/
namespace Iv
open PySem PySem.Spec PyProof.Rows L2

/-! ### shapes of the text -/
theorem star_ok {x : Expr} (xs : List Expr) (env : PySem.Env) (h : plainX x = true) : starEach (x :: xs) env = (false, eval x env) :: starEach xs env := by
  cases x <;> first | rfl | cases h
theorem back_any {pos : Pos} {env : PySem.Env} : ∀ {xs : List Expr}, xs.all plainX = true → (backTo pos (starEach xs env)).any (·.1) = false
  | [], _ => rfl
  | x :: xs, h => by
    rw [List.all_cons, Bool.and_eq_true] at h
    rw [star_ok xs env h.1]
    show (false || (backTo pos (starEach xs env)).any (·.1)) = false
    rw [back_any h.2, Bool.or_false]
theorem back_all {pos : Pos} {env : PySem.Env} : ∀ {xs : List Expr}, xs.all plainX = true → (backTo pos (starEach xs env)).all (fun x => !x.1) = true
  | [], _ => rfl
  | x :: xs, h => by
    rw [List.all_cons, Bool.and_eq_true] at h
    rw [star_ok xs env h.1]
    show (!false && (backTo pos (starEach xs env)).all (fun x => !x.1)) = true
    rw [back_all h.2]
    rfl
theorem plainIx_of {x : Expr} (h : notSlice x = true) : PlainIx x := by
  intro o i
  cases x <;> first | rfl | cases h
theorem folded_of {x : Expr} (h : notSet x = true) (env : PySem.Env) : ∀ v, foldedSetIterable x env v = pure v := by
  intro v
  cases x <;> first | rfl | cases h
theorem attr_base {z : Str} {q : Pos} {m : Str} {env : PySem.Env} : attributeBase (.Name z q) m env (eval (.Name z q) env) = eval (.Name z q) env := rfl
theorem vis_of {sc : Scope} {y : Str} (h : visB sc y = true) : Vis sc y := by
  unfold visB at h
  split at h
  · exact .inl ‹_›
  · exact .inr (.inl ‹_›)
  · exact .inr (.inr ‹_›)
  · cases h
theorem loc_of' {sc : Scope} {y : Str} (h : locB sc y = true) : Loc sc y := by
  unfold locB at h
  split at h
  · exact .inl ‹_›
  · exact .inr ‹_›
  · cases h
theorem gl_of {sc : Scope} {y : Str} (h : glB sc y = true) : sc.names.lookup y = some .globalImplicit := by
  unfold glB at h
  split at h
  · assumption
  · cases h

/-! ### the context -/
structure FnH (X : Cx) (C : Cc) (Φ : Phi) (n : Nat) (g : FnT) : Prop where
  ex : ∃ f fd, X.mg g.name = some (.ref f) ∧ PySem.W.keepIn X.K (.ref f) = true ∧ Plain fd g.ps ∧ fd.params.args.map (·.arg) = g.ps ∧ FnG X.prog X.w X.K X.mg X.base n f fd g.ps (spF C.K C.cl C.tb g.fr (Φ g.name))
  dbg : (g.name == ("__debug__" : Str)) = false
structure CtxE (Tb : Tbl) (N : List Str) (io : List Nat) (lm : Bool) (n : Nat) (Φ : Phi) (C : Cc) (W : WX) (sc ss : Scope) (X : Cx) : Prop where
  hsc : X.env.scope = sc
  hK : X.K = C.K
  calm : X.calm = true
  hN : X.N = N
  nd : N.Nodup
  room : RoomG n X.A
  tk : Takes X W
  hio : ∀ p ∈ C.io, p.1 ∈ io
  fns : ∀ g ∈ Tb.fns, FnH X C Φ n g
  free : ∀ f ∈ Tb.free, X.mg f = none
  cst : ∀ p ∈ Tb.csts, (∃ u v, X.mg p.1 = some u ∧ RelV v u ∧ ∀ H B, Rp C.K H B v p.2) ∧ (p.1 == ("__debug__" : Str)) = false
  st : ∀ y, locB ss y = true → Loc X.env.scope y ∧ (X.fn y = true ∨ X.env.scope.names.lookup y = some .local)
  dbg : ∀ y ∈ N, (y == ("__debug__" : Str)) = false ∧ (y == ("__classdict__" : Str)) = false
  mods : ∀ p ∈ Tb.mods, X.mg p.1 = some (.builtin p.2) ∧ (p.1 == ("__debug__" : Str)) = false
  lam : lm = true → LamOk X C n
section
variable {Tb : Tbl} {N : List Str} {io : List Nat} {lm : Bool} {n : Nat} {Φ : Phi} {C : Cc} {W : WX} {sc ss : Scope} {X : Cx}
theorem CtxE.hu (c : CtxE Tb N io lm n Φ C W sc ss X) : X.A.units + 65 < cLine := by
  have := c.room.rm.un
  omega
theorem CtxE.gl (c : CtxE Tb N io lm n Φ C W sc ss X) {y : Str} (h : glB sc y = true) : Gl X y := by
  show X.env.scope.names.lookup y = _
  rw [c.hsc]
  exact gl_of h
theorem CtxE.gb (c : CtxE Tb N io lm n Φ C W sc ss X) {y : Str} (h : gbB Tb sc y = true) : Gl X y ∧ X.mg y = none := by
  unfold gbB at h
  rw [Bool.and_eq_true] at h
  exact ⟨c.gl h.1, c.free y (List.contains_iff_mem.mp h.2)⟩
theorem CtxE.nm (c : CtxE Tb N io lm n Φ C W sc ss X) {i : Nat} {y : Str} {p : Pos} (h : nmB N sc i y = true) : PE X (.Name y p) (tVar i) := by
  unfold nmB at h
  rw [Bool.and_eq_true, decide_eq_true_eq] at h
  have hm := List.mem_of_getElem? h.1
  exact pe_var (by rw [c.hN]; exact h.1) (by rw [c.hsc]; exact vis_of h.2) (c.dbg y hm).1 (c.dbg y hm).2
/-- within a comprehension -/
theorem CtxE.blk (c : CtxE Tb N io lm n Φ C W sc ss X) (sc2 : Scope) (s : Shared) (H : Hp) (A : Addr) (cl : List (Str × Addr)) (fp : List Addr) : CtxE Tb N io lm n Φ C noW (relS sc2 sc) sc2 (X.blk s H sc2 (compEnvC sc2 cl A X.env) fp) where
  hsc := by rw [← c.hsc]; rfl
  hK := c.hK
  calm := c.calm
  hN := c.hN
  nd := c.nd
  room := c.room
  tk := fun u s' ⟨_, _, _, _, _, _, _, _, _, _, _, _, _, _, _, _, w⟩ => w.elim
  hio := c.hio
  fns := fun g hg => ⟨(c.fns g hg).ex, (c.fns g hg).dbg⟩
  free := c.free
  cst := c.cst
  st := fun y h => by
    show (_ ∨ _) ∧ (_ ∨ _)
    have e : (X.blk s H sc2 (compEnvC sc2 cl A X.env) fp).env.scope = relS sc2 X.env.scope := rfl
    unfold locB at h
    split at h
    · have k := lookup_relS_keep (sc := X.env.scope) (k := .local) (by decide) ‹_›
      exact ⟨.inl k, .inr k⟩
    · have k := lookup_relS_keep (sc := X.env.scope) (k := .cell) (by decide) ‹_›
      refine ⟨.inr k, .inl ?_⟩
      show (sc2.names.lookup y == some .cell) = true
      rw [‹sc2.names.lookup y = some .cell›]
      rfl
    · cases h
  dbg := c.dbg
  mods := c.mods
  lam := fun h => ⟨(c.lam h).tab, (c.lam h).room⟩
/-- within a lambda that a built-in function calls -/
theorem CtxE.inLam (c : CtxE Tb N io lm n Φ C W sc ss X) (L : LamOk X C n) (scope : Scope) (s : Shared) (H : Hp) (E : XK) (f c' : Addr) : CtxE Tb N io false n Φ C noW scope { scope with names := [] } (LamX.lamCx X X.A.in1.in1 X.stack s H E scope f c') where
  hsc := rfl
  hK := c.hK
  calm := rfl
  hN := c.hN
  nd := c.nd
  room := L.room.lam _
  tk := fun u s' ⟨_, _, _, _, _, _, _, _, _, _, _, _, _, _, _, _, w⟩ => w.elim
  hio := c.hio
  fns := fun g hg => ⟨(c.fns g hg).ex, (c.fns g hg).dbg⟩
  free := c.free
  cst := c.cst
  st := fun y h => by cases h
  dbg := c.dbg
  mods := c.mods
  lam := fun h => by cases h
end

/-! ### tests by value -/
section
variable {Φ : Phi}
def plainE : E → Bool
  | .and .. => false
  | .or .. => false
  | .not .. => false
  | .ite .. => false
  | _ => true
theorem evC_val : ∀ {e : E}, plainE e = true → ∀ ρ, evC Φ e ρ = (evE Φ e ρ).bind boolD
  | .var i, _, ρ => by simp only [evC]
  | .cst d, _, ρ => by
    simp only [evC, evE]
    rfl
  | .glb x d, _, ρ => by
    simp only [evC, evE]
    rfl
  | .prim p os, _, ρ => evC_prim os ρ
  | .chain p q a b c, _, ρ => evC_chain q a b c ρ
  | .tup es, _, ρ => by
    simp only [evC, evE]
    rw [R.bind_assoc]
    rfl
  | .call f as ks, _, ρ => by simp only [evC, evE]
  | .meth p o os, _, ρ => by simp only [evC, evE]
  | .cut a b c, _, ρ => by simp only [evC, evE]
  | .ofL l, _, ρ => by
    simp only [evC, evE]
    rw [R.bind_assoc]
    rfl
  | .and .., h, _ => by cases h
  | .or .., h, _ => by cases h
  | .not .., h, _ => by cases h
  | .ite .., h, _ => by cases h
end
section
variable {Tb : Tbl} {N : List Str} {io : List Nat} {lm : Bool} {n : Nat} {Φ : Phi} {C : Cc} {W : WX} {sc ss : Scope} {X : Cx}
structure SdE (X : Cx) (C : Cc) (W : WX) (Φ : Phi) (e : E) (x : Expr) : Prop where
  pe : PE X x (tE C W (evE Φ e))
  pt : PT X x (tT C W (evC Φ e))
  pw : ∀ op vs pos, x = .BoolOp op vs pos → PW X x (tT C W (evC Φ e))
theorem sd_val {e : E} {x : Expr} (hK : X.K = C.K) (hp : plainE e = true) (h : PE X x (tE C W (evE Φ e))) (he : ∀ w, isTrue x X.env w = (do let v ← w; standAt x.pos; holding [v] (truthy v))) (hn : ∀ op vs pos, x ≠ .BoolOp op vs pos) : SdE X C W Φ e x :=
  ⟨h, (t_val hK h he).imp fun σ H Q ⟨Z, ρ, e, g⟩ => ⟨Z, ρ, e, by rw [evC_val hp] at g; exact g⟩, fun op vs pos q => (hn op vs pos q).elim⟩
theorem pt_ite {z x y : Expr} {pos : Pos} {c a b : E} (hc : PT X z (tT C W (evC Φ c))) (ha : PT X x (tT C W (evC Φ a))) (hb : PT X y (tT C W (evC Φ b))) : PT X (.IfExp z x y pos) (tT C W (evC Φ (.ite c a b))) := ⟨fun pins s σ H Q I ⟨Z, ρ, e, g⟩ => by
  simp only [evC] at g
  show wpAny _ _ (do if ← isTrue z X.env (eval z X.env) then isTrue x X.env (eval x X.env) else isTrue y X.env (eval y X.env)) _ _ s
  refine wpAny_bind (thn (hc.run pins s σ H (fun k H1 => (if k = true then tT C W (evC Φ a) else tT C W (evC Φ b)) σ H1 Q) I ⟨Z, ρ, e, g.bind.and fun k ρ1 H1 e1 s1 q => ?_⟩) fun d s1 ⟨H1, I1, q1⟩ => ?_)
  · cases k with
    | true => exact ⟨Z, ρ1, e1, q⟩
    | false => exact ⟨Z, ρ1, e1, q⟩
  · cases d with
    | true => exact ha.run pins s1 σ H1 Q I1 q1
    | false => exact hb.run pins s1 σ H1 Q I1 q1⟩

/-! ### operations -/
/-- the operands' readings -/
inductive OsR (X : Cx) (C : Cc) (W : WX) (Φ : Phi) : List O → List Expr → Prop
  | nil : OsR X C W Φ [] []
  | cons {o : O} {os : List O} {x : Expr} {xs : List Expr} : plainX x = true → PE X x (tO C W (evO Φ o)) → OsR X C W Φ os xs → OsR X C W Φ (o :: os) (x :: xs)
theorem OsR.pa {os : List O} {xs : List Expr} (h : OsR X C W Φ os xs) : PA X xs (tOs C W (evOs Φ os)) := by
  induction h with
  | nil => exact a_nil
  | cons p a _ ih => exact a_cons a ih (pa_cons a ih (star_ok _ _ p))
theorem OsR.plain {os : List O} {xs : List Expr} (h : OsR X C W Φ os xs) : xs.all plainX = true := by
  induction h with
  | nil => rfl
  | cons p _ _ ih => rw [List.all_cons, p, ih]; rfl
theorem o_bin {o : Operator} {p : Prim} (h : binP o = some p) : OpR X (binaryOp o) (rP2 X.K p) := by
  cases o <;> cases h
  · exact o_add
  · exact o_sub
  · exact o_mul
  · exact o_mod
  · exact o_pow
  · exact o_fdiv
theorem o_cmp (hu : X.A.units + 65 < cLine) (o : CmpOp) : OpR X (compareOp o) (rP2 X.K (cmpP o)) := by
  cases o
  · exact o_eq (by omega)
  · exact o_ne (by omega)
  · exact o_lt
  · exact o_le
  · exact o_gt
  · exact o_ge
  · exact o_is
  · exact o_isnot
  · exact o_in hu
  · exact o_notin hu
theorem isCmp_of (o : CmpOp) : (cmpP o).isCmp = true := by cases o <;> rfl
theorem ty_name (c : CtxE Tb N io lm n Φ C W sc ss X) {T : String} {y : Str} {p : Pos} (h : y = (T : Str)) (h5 : T ∈ isaTs) (hg : Gl X y ∧ X.mg y = none) : PE X (.Name y p) (tC (.ty T)) := by
  subst h
  have h5 : T = "int" ∨ T = "bool" ∨ T = "str" ∨ T = "tuple" ∨ T = "list" := by simpa [isaTs] using h5
  rcases h5 with rfl | rfl | rfl | rfl | rfl
  · exact pe_bltn hg.1 hg.2 (u := .type "int") (by decide +kernel) rfl
  · exact pe_bltn hg.1 hg.2 (u := .type "bool") (by decide +kernel) rfl
  · exact pe_bltn hg.1 hg.2 (u := .type "str") (by decide +kernel) rfl
  · exact pe_bltn hg.1 hg.2 (u := .type "tuple") (by decide +kernel) rfl
  · exact pe_bltn hg.1 hg.2 (u := .type "list") (by decide +kernel) rfl
theorem tys_pa (c : CtxE Tb N io lm n Φ C W sc ss X) : ∀ {Ts : List String} {xs : List Expr}, isaB Tb sc Ts xs = true → PA X xs (tTys Ts) ∧ (∀ T ∈ Ts, T ∈ isaTs) ∧ xs.all plainX = true
  | [], [], _ => ⟨pa_nil.imp fun _ _ _ h => h, fun _ h => (nomatch h), rfl⟩
  | T :: Ts, .Name y p :: xs, h => by
    simp only [isaB, Bool.and_eq_true] at h
    obtain ⟨⟨⟨h1, h2⟩, h3⟩, h4⟩ := h
    obtain ⟨i1, i2, i3⟩ := tys_pa c h4
    have h5 := List.contains_iff_mem.mp h2
    refine ⟨(pa_cons (ty_name c (eq_of_beq h1) h5 (c.gb h3)) i1 (star_ok _ _ rfl)).imp fun σ H Q h => h, fun S hS => ?_, by rw [List.all_cons, i3]; rfl⟩
    rcases List.mem_cons.mp hS with q | q
    · rw [q]; exact h5
    · exact i2 S q
theorem isi_ok (c : CtxE Tb N io lm n Φ C W sc ss X) {Ts : List String} {o : O} {y t : Expr} {q pos : Pos} {f : Str} (hf : f = ("isinstance" : Str)) (hg : gbB Tb sc f = true) (hy : plainX y = true) (ho : PE X y (tO C W (evO Φ o)))
    (ht : (match t with | .Tuple ts _ _ => decide (Ts.length ≤ 9) && isaB Tb sc Ts ts | t => isaB Tb sc Ts [t]) = true) : PE X (.Call (.Name f q) [y, t] [] pos) (tRaw C W (.isinst Ts) (evOs Φ [o])) := by
  subst hf
  obtain ⟨g1, g2⟩ := c.gb hg
  have one : isaB Tb sc Ts [t] = true → PE X (.Call (.Name "isinstance" q) [y, t] [] pos) (tRaw C W (.isinst Ts) (evOs Φ [o])) := fun h => by
    cases Ts with
    | nil => cases h
    | cons T Ts =>
      cases t with
      | Name z p =>
        simp only [isaB, Bool.and_eq_true] at h
        obtain ⟨⟨⟨h1, h2⟩, h3⟩, h4⟩ := h
        cases Ts with
        | cons S Ts => cases h4
        | nil =>
          have e := eq_of_beq h1
          subst e
          have hT := ty_name (p := p) c rfl (List.contains_iff_mem.mp h2) (c.gb h3)
          exact r_isi c.hK (List.contains_iff_mem.mp h2) g1 g2 ho hT (pa_cons ho (pa_cons hT pa_nil (star_ok _ _ rfl)) (star_ok _ _ hy)) (star_ok _ _ hy) rfl
      | _ => cases h
  cases t with
  | Tuple ts k p =>
    rw [Bool.and_eq_true, decide_eq_true_eq] at ht
    obtain ⟨a1, a2, a3⟩ := tys_pa c ht.2
    have hT : PE X (.Tuple ts k p) (tTup (tTys Ts)) := pe_tup a1
    exact r_isiT c.hK a2 ht.1 g1 g2 ho hT (pa_cons ho (pa_cons hT pa_nil (star_ok _ _ rfl)) (star_ok _ _ hy)) (star_ok _ _ hy) rfl
  | _ => exact one ht
theorem blt_ok (c : CtxE Tb N io lm n Φ C W sc ss X) {p : Prim} {f : Str} (h : bltP p = some f) : ∃ id, CallR X (.builtin id) (rP C.K p) ∧ bootBuiltins f = some (.builtin id) ∧ f ≠ "__name__" ∧ (f == ("__debug__" : Str)) = false := by
  rw [← c.hK]
  cases p <;> cases h
  · exact ⟨"len", c_len, by decide +kernel, by decide +kernel, by decide +kernel⟩
  · exact ⟨"abs", c_abs, by decide +kernel, by decide +kernel, by decide +kernel⟩
  · exact ⟨"max", c_max c.calm, by decide +kernel, by decide +kernel, by decide +kernel⟩
  · exact ⟨"min", c_min c.calm, by decide +kernel, by decide +kernel, by decide +kernel⟩
  · exact ⟨"sum", c_sum c.calm, by decide +kernel, by decide +kernel, by decide +kernel⟩
  · exact ⟨"all", c_all c.calm, by decide +kernel, by decide +kernel, by decide +kernel⟩
  · exact ⟨"any", c_any c.calm, by decide +kernel, by decide +kernel, by decide +kernel⟩
  · exact ⟨"repr", c_repr c.room.gd c.hu, by decide +kernel, by decide +kernel, by decide +kernel⟩
  · exact ⟨"divmod", c_divmod, by decide +kernel, by decide +kernel, by decide +kernel⟩
  · exact ⟨"sorted", c_sorted (by have := c.room.rm.un; omega), by decide +kernel, by decide +kernel, by decide +kernel⟩
theorem typ_ok (c : CtxE Tb N io lm n Φ C W sc ss X) {p : Prim} {f : Str} (h : typP p = some f) : ∃ T, CallR X (.type T) (rP C.K p) ∧ bootBuiltins f = some (.type T) ∧ f ≠ "__name__" ∧ (f == ("__debug__" : Str)) = false := by
  rw [← c.hK]
  cases p <;> cases h
  · exact ⟨"tuple", c_tuple, by decide +kernel, by decide +kernel, by decide +kernel⟩
  · exact ⟨"list", c_list, by decide +kernel, by decide +kernel, by decide +kernel⟩
  · exact ⟨"int", c_int1, by decide +kernel, by decide +kernel, by decide +kernel⟩
  · exact ⟨"str", c_str1, by decide +kernel, by decide +kernel, by decide +kernel⟩
theorem one_of {os : List O} {x : Expr} (h : OsR X C W Φ os [x]) : ∃ o, os = [o] ∧ plainX x = true ∧ PE X x (tO C W (evO Φ o)) := by
  cases h with
  | cons p a t =>
    cases t
    exact ⟨_, rfl, p, a⟩
theorem two_of {os : List O} {x y : Expr} (h : OsR X C W Φ os [x, y]) : ∃ o q, os = [o, q] ∧ PE X x (tO C W (evO Φ o)) ∧ PE X y (tO C W (evO Φ q)) := by
  cases h with
  | cons p a t =>
    obtain ⟨q, rfl, _, b⟩ := one_of t
    exact ⟨_, q, rfl, a, b⟩
/-- an operation's text -/
theorem px_ok (c : CtxE Tb N io lm n Φ C W sc ss X) {p : Prim} {os : List O} {x : Expr} {k : List Expr → Bool} (h : okPx Tb sc p x k = true) (hk : ∀ xs, k xs = true → OsR X C W Φ os xs) :
    PE X x (tRaw C W p (evOs Φ os)) ∧ (∀ op vs pos, x ≠ .BoolOp op vs pos) ∧ ((∃ l o r pos, x = .Compare l [o] [r] pos ∧ p = cmpP o ∧ behindInMarks o r = false ∧ OsR X C W Φ os [l, r]) ∨ ∀ w, isTrue x X.env w = (do let v ← w; standAt x.pos; holding [v] (truthy v))) := by
  cases x with
  | BinOp l o r pos =>
    simp only [okPx, Bool.and_eq_true, decide_eq_true_eq] at h
    obtain ⟨a, b, rfl, ha, hb⟩ := two_of (hk _ h.2)
    refine ⟨r_bin ?_ ha hb, fun _ _ _ q => (nomatch q), .inr fun w => rfl⟩
    rw [← c.hK]
    exact o_bin h.1
  | Compare l ops rs pos =>
    simp only [okPx] at h
    split at h
    · rename_i o r
      simp only [Bool.and_eq_true, decide_eq_true_eq, Bool.not_eq_true'] at h
      obtain ⟨⟨h1, h2⟩, h3⟩ := h
      have hs := hk _ h3
      obtain ⟨a, b, rfl, ha, hb⟩ := two_of hs
      subst h1
      refine ⟨r_cmp ?_ ha hb h2, fun _ _ _ q => (nomatch q), .inl ⟨l, o, r, pos, rfl, rfl, h2, hs⟩⟩
      rw [← c.hK]
      exact o_cmp c.hu o
    · cases h
  | UnaryOp o y pos =>
    simp only [okPx, Bool.and_eq_true, decide_eq_true_eq] at h
    obtain ⟨⟨rfl, rfl⟩, h3⟩ := h
    obtain ⟨a, rfl, _, ha⟩ := one_of (hk _ h3)
    refine ⟨r_un ?_ ha, fun _ _ _ q => (nomatch q), .inr fun w => rfl⟩
    rw [← c.hK]
    exact o_neg
  | Subscript l s pos =>
    refine ⟨?_, fun _ _ _ q => (nomatch q), .inr fun w => rfl⟩
    have idx : (decide (p = .idx) && notSlice s && k [l, s]) = true → PE X (.Subscript l s pos) (tRaw C W p (evOs Φ os)) := fun h => by
      simp only [Bool.and_eq_true, decide_eq_true_eq] at h
      obtain ⟨⟨rfl, h2⟩, h3⟩ := h
      obtain ⟨a, b, rfl, ha, hb⟩ := two_of (hk _ h3)
      refine r_idx ?_ ha hb (plainIx_of h2)
      rw [← c.hK]
      exact o_idx
    cases s with
    | Slice lo hi st sp =>
      simp only [okPx] at h
      split at h
      · simp only [Bool.and_eq_true, decide_eq_true_eq] at h
        obtain ⟨⟨⟨rfl, rfl⟩, rfl⟩, h3⟩ := h
        obtain ⟨a, rfl, _, ha⟩ := one_of (hk _ h3)
        exact r_rev c.hK ha
      · simp only [Bool.and_eq_true, decide_eq_true_eq] at h
        obtain ⟨rfl, h3⟩ := h
        obtain ⟨a, rfl, _, ha⟩ := one_of (hk _ h3)
        exact r_slc0 c.hK ha
      · simp only [Bool.and_eq_true, decide_eq_true_eq] at h
        obtain ⟨rfl, h3⟩ := h
        obtain ⟨a, b, rfl, ha, hb⟩ := two_of (hk _ h3)
        exact r_slcL c.hK ha hb
      · simp only [Bool.and_eq_true, decide_eq_true_eq] at h
        obtain ⟨rfl, h3⟩ := h
        obtain ⟨a, b, rfl, ha, hb⟩ := two_of (hk _ h3)
        exact r_slcH c.hK ha hb
      · cases h
    | _ => exact idx h
  | Call f xs kws pos =>
    refine ⟨?_, fun _ _ _ q => (nomatch q), .inr fun w => rfl⟩
    simp only [okPx] at h
    split at h
    · rename_i f q
      split at h
      · rename_i hgcd
        subst hgcd
        simp only [Bool.and_eq_true, decide_eq_true_eq] at h
        obtain ⟨⟨⟨g1, g2⟩, _⟩, h3⟩ := h
        have hs := hk _ h3
        obtain ⟨m1, m2⟩ := c.mods _ (List.contains_iff_mem.mp g2)
        cases xs with
        | nil => simp at *
        | cons x xs =>
          have hp := hs.plain
          rw [List.all_cons, Bool.and_eq_true] at hp
          exact pe_callBfun (c.hK ▸ c_gcd) (c.gl g1) m1 hs.pa m2 (star_ok _ _ hp.1) (back_any hp.2)
      rw [Bool.and_eq_true] at h
      obtain ⟨hg, h⟩ := h
      split at h
      · rename_i Ts y t
        simp only [Bool.and_eq_true] at h
        obtain ⟨⟨⟨h1, h2⟩, h3⟩, h4⟩ := h
        obtain ⟨a, rfl, _, ha⟩ := one_of (hk _ h2)
        exact isi_ok c (eq_of_beq h1) hg h3 ha h4
      · simp only [Bool.and_eq_true, Bool.or_eq_true, decide_eq_true_eq] at h
        obtain ⟨⟨h1, h2⟩, h3⟩ := h
        have hs := hk _ h3
        obtain ⟨g1, g2⟩ := c.gb hg
        cases xs with
        | nil => cases h2
        | cons x xs =>
          have hp := hs.plain
          rw [List.all_cons, Bool.and_eq_true] at hp
          rcases h1 with h1 | h1
          · obtain ⟨id, k1, k2, k3, k4⟩ := blt_ok c h1
            exact r_blt k1 g1 g2 k2 hs.pa k3 k4 (star_ok _ _ hp.1) (back_any hp.2)
          · obtain ⟨id, k1, k2, k3, k4⟩ := typ_ok c h1
            exact r_typ k1 g1 g2 k2 hs.pa k3 k4 (star_ok _ _ hp.1) (back_any hp.2)
    · cases h
  | _ => cases h
theorem sd_prim (c : CtxE Tb N io lm n Φ C W sc ss X) {p : Prim} {os : List O} {x : Expr} {k : List Expr → Bool} (h : okPx Tb sc p x k = true) (hk : ∀ xs, k xs = true → OsR X C W Φ os xs) : SdE X C W Φ (.prim p os) x := by
  obtain ⟨h1, h2, h3⟩ := px_ok c h hk
  rcases h3 with ⟨l, o, r, pos, rfl, rfl, hm, hs⟩ | h3
  · obtain ⟨a, b, rfl, ha, hb⟩ := two_of hs
    refine ⟨e_prim h1, t_cmp (isCmp_of o) ?_ ha hb hm, fun op vs pos q => by cases q⟩
    rw [← c.hK]
    exact o_cmp c.hu o
  · exact sd_val c.hK rfl (e_prim h1) h3 h2
end
end Iv
set_option Elab.async false
set_option linter.all false
set_option maxRecDepth 100000
set_option maxHeartbeats 4000000
/-! Iv17: what the checks of expressions tell. -/
namespace Iv
open PySem PySem.Spec PyProof.Rows L2

section
variable {Tb : Tbl} {N : List Str} {io : List Nat} {lm : Bool} {n : Nat} {Φ : Phi} {C : Cc} {W : WX} {sc ss : Scope} {X : Cx}
/-! ### calls of defs -/
theorem find_name {f : Str} {g : FnT} {l : List FnT} (h : l.find? (fun g => g.name == f) = some g) : g ∈ l ∧ g.name = f := by
  have h1 := List.find?_some h
  exact ⟨List.mem_of_find?_eq_some h, eq_of_beq h1⟩
theorem kw_some {pos : Pos} {env : PySem.Env} : ∀ {kws : List Keyword}, (kws.filterMap (·.arg)).length = kws.length → (backToKw pos (keywordEach kws env)).all (·.1.isSome) = true ∧ (backToKw pos (keywordEach kws env)).any (·.1.isNone) = false
  | [], _ => ⟨rfl, rfl⟩
  | ⟨nm, v, p⟩ :: kws, h => by
    cases nm with
    | none =>
      have h1 : (kws.filterMap (·.arg)).length = kws.length + 1 := h
      have := List.length_filterMap_le (·.arg) kws
      omega
    | some x =>
      have h1 : (kws.filterMap (·.arg)).length + 1 = kws.length + 1 := h
      obtain ⟨i1, i2⟩ := kw_some (pos := pos) (env := env) (kws := kws) (by omega)
      constructor
      · show (true && (backToKw pos (keywordEach kws env)).all (·.1.isSome)) = true
        rw [i1]
        rfl
      · show (false || (backToKw pos (keywordEach kws env)).any (·.1.isNone)) = false
        rw [i2]
        rfl
theorem kw_names {pos : Pos} {env : PySem.Env} : ∀ {kws : List Keyword}, (backToKw pos (keywordEach kws env)).filterMap (·.1) = kws.filterMap (·.arg)
  | [] => rfl
  | ⟨nm, v, p⟩ :: kws => by
    cases nm with
    | none =>
      show (backToKw pos (keywordEach kws env)).filterMap (·.1) = kws.filterMap (·.arg)
      exact kw_names
    | some x =>
      show x :: (backToKw pos (keywordEach kws env)).filterMap (·.1) = x :: kws.filterMap (·.arg)
      rw [kw_names]
/-- how the checked call binds -/
theorem bind_ok' {g : FnT} {fd : FuncData} {m : Nat} {kws : List Keyword} {ks : List Nat} (hp : Plain fd g.ps) (ha : fd.params.args.map (·.arg) = g.ps)
    (h : (if kws.isEmpty then ks.isEmpty && decide (m = g.ps.length) && decide g.ps.Nodup
    else
      let names := kws.filterMap (·.arg)
      let L := g.ps.take m ++ names
      decide (names.length = kws.length) && decide (m + names.length = g.ps.length) && decide L.Nodup && g.ps.all (fun n => L.contains n) && names.all (fun n => g.ps.contains n) && decide (ks = g.ps.map L.idxOf) && !g.ps.isEmpty) = true) :
    BindN fd g.ps m (kws.filterMap (·.arg)) ks ∧ (kws.filterMap (·.arg)).length = kws.length := by
  cases kws with
  | nil =>
    simp only [List.isEmpty_nil, if_true, Bool.and_eq_true, decide_eq_true_eq] at h
    obtain ⟨⟨h1, h2⟩, h3⟩ := h
    refine ⟨⟨fun us ws hu hw => ?_⟩, rfl⟩
    have hw : ws = [] := List.length_eq_zero_iff.mp hw
    subst hw
    show bindArgs fd ⟨us, []⟩ = pure (g.ps.zip (permL (us ++ []) ks))
    rw [List.append_nil, permL, if_pos h1]
    exact bind_pos hp h3 (hu.trans h2)
  | cons k kws =>
    simp only [List.isEmpty_cons, Bool.false_eq_true, if_false, Bool.and_eq_true, decide_eq_true_eq, Bool.not_eq_true', List.all_eq_true, List.contains_iff_mem] at h
    obtain ⟨⟨⟨⟨⟨⟨h1, h2⟩, h3⟩, h4⟩, h5⟩, h6⟩, h7⟩ := h
    refine ⟨⟨fun us ws hu hw => ?_⟩, h1⟩
    subst hu
    rw [bind_kw hp (by omega) hw (fun k hk => by rw [ha]; exact h5 k hk) h3 h4, permL, if_neg, h6]
    rw [h6]
    cases hq : g.ps with
    | nil => rw [hq] at h7; cases h7
    | cons a b => simp
/-- the arguments' readings -/
structure AsR (X : Cx) (C : Cc) (W : WX) (Φ : Phi) (as : List A) (xs : List Expr) (kws : List Keyword) : Prop where
  ex : ∃ as1 as2, as = as1 ++ as2 ∧ as1.length = xs.length ∧ as2.length = kws.length ∧ PA X xs (tAs C W (evAs Φ as1)) ∧ PK X kws (tAs C W (evAs Φ as2))
  plain : xs.all plainX = true
theorem as_kw {a : A} {as : List A} {nm : Option Str} {v : Expr} {p : Pos} {kws : List Keyword} (ha : PE X v (tA C W (evA Φ a))) (h : AsR X C W Φ as [] kws) : AsR X C W Φ (a :: as) [] (⟨nm, v, p⟩ :: kws) := by
  obtain ⟨⟨as1, as2, rfl, l1, l2, h1, h2⟩, _⟩ := h
  have e : as1 = [] := List.length_eq_zero_iff.mp l1
  subst e
  exact ⟨⟨[], a :: as2, rfl, rfl, congrArg Nat.succ l2, h1, ak_cons ha h2⟩, rfl⟩
theorem as_pos {a : A} {as : List A} {x : Expr} {xs : List Expr} {kws : List Keyword} (hx : plainX x = true) (ha : PE X x (tA C W (evA Φ a))) (h : AsR X C W Φ as xs kws) : AsR X C W Φ (a :: as) (x :: xs) kws := by
  obtain ⟨⟨as1, as2, rfl, l1, l2, h1, h2⟩, hp⟩ := h
  exact ⟨⟨a :: as1, as2, rfl, congrArg Nat.succ l1, l2, as_cons (pa_cons ha h1 (star_ok _ _ hx)), h2⟩, by rw [List.all_cons, hx, hp]; rfl⟩
theorem call_ok (c : CtxE Tb N io lm n Φ C W sc ss X) {f : Str} {q pos : Pos} {as : List A} {ks : List Nat} {xs : List Expr} {kws : List Keyword} {fr : Bool} (h : callB Tb sc f ks xs kws fr = true) (ha : AsR X C W Φ as xs kws) :
    ∃ frg as1 as2, (fr = true → frg = true) ∧ as = as1 ++ as2 ∧ PE X (.Call (.Name f q) xs kws pos) (tCallG as1.length as2.length ks (spF C.K C.cl C.tb frg (Φ f)) W (tAs C W (evAs Φ as1)) (tAs C W (evAs Φ as2))) := by
  unfold callB at h
  rw [Bool.and_eq_true] at h
  obtain ⟨hg, h⟩ := h
  split at h
  · cases h
  · rename_i g hf
    obtain ⟨hm, rfl⟩ := find_name hf
    rw [Bool.and_eq_true] at h
    obtain ⟨h0, h⟩ := h
    obtain ⟨⟨fa, fd, f1, f2, f3, f4, f5⟩, hd⟩ := c.fns g hm
    obtain ⟨hb, hl⟩ := bind_ok' f3 f4 h
    obtain ⟨⟨as1, as2, rfl, l1, l2, h1, h2⟩, hp⟩ := ha
    obtain ⟨k1, k2⟩ := kw_some (pos := pos) (env := X.env) hl
    have hgl := c.gl hg
    refine ⟨g.fr, as1, as2, fun hfr => ?_, rfl, ?_⟩
    · rw [hfr] at h0
      simpa using h0
    · rw [l1, l2, ← hl]
      cases xs with
      | nil =>
        have e : as1 = [] := List.length_eq_zero_iff.mp l1
        subst e
        refine (pe_g0 f5 c.room hgl f1 f2 hb c.tk h2 k1 kw_names hd (by rw [k2]; rfl)).imp fun σ H Q q => ?_
        obtain ⟨Z, ρ, e, g⟩ := q
        simp only [evAs] at g
        exact g.now e [] Z (fun _ z => z) (fun _ _ _ z => z) e .nil
      | cons x xs =>
        have hp' := hp
        rw [List.all_cons, Bool.and_eq_true] at hp'
        exact pe_g f5 c.room hgl f1 f2 hb c.tk h1 h2 k1 kw_names hd (star_ok _ _ hp'.1) (by rw [back_any hp, k2]; rfl)

theorem sub_assign {o k : Expr} {p : Pos} {env : PySem.Env} (h : notSlice k = true) (v : Value) : assign (.Subscript o k p) env v = (do
    let ov ← holding [v] (eval o env)
    let iv ← holding [v, ov] (eval k env)
    standAt p
    holding [v, ov, iv] (setItem ov iv v)
    release [v, ov, iv] []) := by
  cases k <;> first | rfl | cases h

theorem e_emp {X : Cx} {C : Cc} {W : WX} {Φ : Phi} {pos : Pos} : PE X (.Dict [] [] pos) (tE C W (evE Φ (.cst .emp))) := pe_dnewK.imp fun σ H Q ⟨Z, ρ, e, g⟩ p hn => by
  simp only [evE] at g
  exact (Good.grown (show Good C W Z σ ρ H (R.ok D.emp ρ) _ from g) e (same_upd hn) : ∀ v, _ → _) _ (.emp upd_same (e.there.ne hn))
theorem cst_pe {X : Cx} {d : D} {k : Const} {j : Nat} {p : Pos} (h : cB d k = true) : ∃ v, cstV d = some v ∧ PE X (.Constant k j p) (tC v) := by
  cases d <;> cases k <;> simp [cB] at h
  · exact ⟨_, rfl, pe_non⟩
  · subst h
    exact ⟨_, rfl, pe_bl⟩
  · subst h
    exact ⟨_, rfl, pe_int⟩
  · subst h
    exact ⟨_, rfl, pe_str⟩
theorem l_rep {X : Cx} {C : Cc} {W : WX} {Φ : Phi} {d : D} {k : Const} {e : E} {y : Expr} {j : Nat} {p lpos pos : Pos} (h : cB d k = true) (he : PE X y (tE C W (evE Φ e))) : PE X (.BinOp (.List [.Constant k j p] lpos) .Mult y pos) (tL C W (evL Φ (.rep d e))) := by
  obtain ⟨v, h1, h2⟩ := cst_pe (X := X) (j := j) (p := p) h
  exact l_repV h1 h2 rfl he
/-! ### the soundness of the checks -/
mutual
theorem okE_ok (n : Nat) (Φ : Phi) (C : Cc) : ∀ (e : E) {lm : Bool} {sc ss : Scope} {x : Expr} {X : Cx} {W : WX}, CtxE Tb N io lm n Φ C W sc ss X → okE Tb N io lm e sc x = true → SdE X C W Φ e x
  | .var i, lm, sc, ss, x, X, W, c, h => by
    cases x with
    | Name y p =>
      simp only [okE] at h
      exact sd_val c.hK rfl (e_var (c.nm h)) (fun w => rfl) fun _ _ _ q => (nomatch q)
    | _ => simp [okE] at h
  | .cst d, lm, sc, ss, x, X, W, c, h => by
    cases x with
    | Constant k j p =>
      simp only [okE] at h
      refine sd_val c.hK rfl ?_ (fun w => rfl) fun _ _ _ q => (nomatch q)
      cases d with
      | non =>
        cases k with
        | none => exact e_cst pe_non fun _ _ => .non
        | _ => cases h
      | bl a =>
        cases k with
        | bool b =>
          have e := eq_of_beq h
          subst e
          exact e_cst pe_bl fun _ _ => .bl _
        | _ => cases h
      | int a =>
        cases k with
        | int b =>
          have e := eq_of_beq h
          subst e
          exact e_cst pe_int fun _ _ => .int _
        | _ => cases h
      | str a =>
        cases k with
        | str b =>
          have e := eq_of_beq h
          subst e
          exact e_cst pe_str fun _ _ => .str _
        | _ => cases h
      | tup xs => cases k <;> cases h
      | lst xs => cases k <;> cases h
      | emp => cases k <;> cases h
    | Dict ks vs p =>
      simp only [okE, Bool.and_eq_true, List.isEmpty_iff] at h
      obtain ⟨⟨rfl, rfl⟩, h3⟩ := h
      obtain rfl := D.same_eq h3
      exact sd_val c.hK rfl e_emp (fun w => rfl) fun _ _ _ q => (nomatch q)
    | _ => simp [okE] at h
  | .glb y d, lm, sc, ss, x, X, W, c, h => by
    cases x with
    | Name z p =>
      simp only [okE, Bool.and_eq_true, List.any_eq_true] at h
      obtain ⟨⟨h1, h2⟩, q, h3, h4, h5⟩ := h
      have e1 := eq_of_beq h1
      have e2 := eq_of_beq h4
      have e3 := D.same_eq h5
      obtain ⟨⟨u, v, k1, k2, k3⟩, k4⟩ := c.cst q h3
      subst e1 e3
      rw [e2] at k1 k4
      exact sd_val c.hK rfl (e_glb (pe_glob (c.gl h2) k1 k2 k4) k3) (fun w => rfl) fun _ _ _ q => (nomatch q)
    | _ => simp [okE] at h
  | .prim p os, lm, sc, ss, x, X, W, c, h => by
    simp only [okE] at h
    exact sd_prim c h fun xs hx => okOs_ok n Φ C os c hx
  | .chain p q a b d, lm, sc, ss, x, X, W, c, h => by
    cases x with
    | Compare l ops rs pos =>
      simp only [okE] at h
      split at h
      · rename_i o1 o2 m r
        simp only [Bool.and_eq_true, decide_eq_true_eq, Bool.not_eq_true'] at h
        obtain ⟨⟨⟨⟨⟨rfl, rfl⟩, h3⟩, h4⟩, h5⟩, h6⟩ := h
        have s1 := okE_ok n Φ C a c h4
        have s2 := okE_ok n Φ C b c h5
        have s3 := okE_ok n Φ C d c h6
        have k1 := o_cmp c.hu o1
        have k2 := o_cmp c.hu o2
        rw [c.hK] at k1 k2
        exact ⟨e_chain k1 k2 s1.pe s2.pe s3.pe h3, t_chain (isCmp_of o1) (isCmp_of o2) k1 k2 s1.pe s2.pe s3.pe h3, fun _ _ _ q => (nomatch q)⟩
      · cases h
    | _ => simp [okE] at h
  | .and a b, lm, sc, ss, x, X, W, c, h => by
    cases x with
    | BoolOp o vs pos =>
      simp only [okE] at h
      split at h
      · rename_i y z zs
        simp only [Bool.and_eq_true, decide_eq_true_eq] at h
        obtain ⟨⟨rfl, h1⟩, h2⟩ := h
        have s1 := okE_ok n Φ C a c h1
        have tail : PE X (.BoolOp .And (z :: zs) pos) (tE C W (evE Φ b)) ∧ PW X (.BoolOp .And (z :: zs) pos) (tT C W (evC Φ b)) := by
          cases zs with
          | nil =>
            have s2 := okE_ok n Φ C b c h2
            exact ⟨pe_one s2.pe, pw_and1 s2.pt⟩
          | cons w ws =>
            have s2 := okE_ok n Φ C b c h2
            exact ⟨s2.pe, s2.pw _ _ _ rfl⟩
        have pw := w_and (pos := pos) s1.pt tail.2
        exact ⟨e_and c.hK s1.pe tail.1, pw.pt, fun _ _ _ _ => pw⟩
      · cases h
    | _ => simp [okE] at h
  | .or a b, lm, sc, ss, x, X, W, c, h => by
    cases x with
    | BoolOp o vs pos =>
      simp only [okE] at h
      split at h
      · rename_i y z zs
        simp only [Bool.and_eq_true, decide_eq_true_eq] at h
        obtain ⟨⟨rfl, h1⟩, h2⟩ := h
        have s1 := okE_ok n Φ C a c h1
        have tail : PE X (.BoolOp .Or (z :: zs) pos) (tE C W (evE Φ b)) ∧ PW X (.BoolOp .Or (z :: zs) pos) (tT C W (evC Φ b)) := by
          cases zs with
          | nil =>
            have s2 := okE_ok n Φ C b c h2
            exact ⟨pe_one s2.pe, pw_or1 s2.pt⟩
          | cons w ws =>
            have s2 := okE_ok n Φ C b c h2
            exact ⟨s2.pe, s2.pw _ _ _ rfl⟩
        have pw := w_or (pos := pos) s1.pt tail.2
        exact ⟨e_or c.hK s1.pe tail.1, pw.pt, fun _ _ _ _ => pw⟩
      · cases h
    | _ => simp [okE] at h
  | .not a, lm, sc, ss, x, X, W, c, h => by
    cases x with
    | UnaryOp o y pos =>
      simp only [okE, Bool.and_eq_true, decide_eq_true_eq] at h
      obtain ⟨rfl, h1⟩ := h
      have s1 := okE_ok n Φ C a c h1
      exact ⟨e_not c.hK s1.pe, t_not s1.pt, fun _ _ _ q => (nomatch q)⟩
    | _ => simp [okE] at h
  | .ite t a b, lm, sc, ss, x, X, W, c, h => by
    cases x with
    | IfExp u y z pos =>
      simp only [okE, Bool.and_eq_true] at h
      have s1 := okE_ok n Φ C t c h.1.1
      have s2 := okE_ok n Φ C a c h.1.2
      have s3 := okE_ok n Φ C b c h.2
      exact ⟨e_ite s1.pt s2.pe s3.pe, pt_ite s1.pt s2.pt s3.pt, fun _ _ _ q => (nomatch q)⟩
    | _ => simp [okE] at h
  | .tup es, lm, sc, ss, x, X, W, c, h => by
    cases x with
    | Tuple xs k pos =>
      simp only [okE, Bool.and_eq_true, decide_eq_true_eq] at h
      exact sd_val c.hK rfl (e_tup h.1 (okEs_ok n Φ C es c h.2)) (fun w => rfl) fun _ _ _ q => (nomatch q)
    | _ => simp [okE] at h
  | .call f as ks, lm, sc, ss, x, X, W, c, h => by
    cases x with
    | Call g xs kws pos =>
      simp only [okE] at h
      split at h
      · rename_i g q
        simp only [Bool.and_eq_true] at h
        obtain ⟨⟨h1, h2⟩, h3⟩ := h
        have e := eq_of_beq h1
        subst e
        obtain ⟨frg, as1, as2, _, rfl, k⟩ := call_ok (q := q) (pos := pos) c h2 (okAs_ok n Φ C as c h3)
        exact sd_val c.hK rfl (k.imp fun σ H Q q => e_callR rfl rfl q) (fun w => rfl) fun _ _ _ q => (nomatch q)
      · cases h
    | _ => simp [okE] at h
  | .meth p o os, lm, sc, ss, x, X, W, c, h => by
    cases x with
    | Call g xs kws pos =>
      simp only [okE] at h
      split at h
      · rename_i z q m p1 y
        simp only [Bool.and_eq_true, decide_eq_true_eq] at h
        obtain ⟨⟨⟨⟨⟨rfl, h1⟩, h2⟩, h3⟩, h4⟩, h5⟩ := h
        have e := eq_of_beq h1
        subst e
        have s1 := okO_ok n Φ C o c h4
        obtain ⟨a, rfl, _, s2⟩ := one_of (okOs_ok n Φ C os c h5)
        have hp : [y].all plainX = true := by rw [List.all_cons, h3]; rfl
        refine sd_val c.hK rfl (e_index c.hK c.hu s1 (a_cons s2 a_nil (pa_cons s2 a_nil (star_ok _ _ h3))) attr_base ?_ (by rw [h2]; exact beq_self_eq_true _) (star_ok _ _ h3) rfl) (fun w => rfl) fun _ _ _ q => (nomatch q)
        rw [back_all hp]
        rfl
      · cases h
    | _ => simp [okE] at h
  | .cut a b d, lm, sc, ss, x, X, W, c, h => by
    cases x with
    | Subscript l s pos =>
      simp only [okE] at h
      split at h
      · split at h
        · simp only [Bool.and_eq_true] at h
          exact sd_val c.hK rfl (e_cut c.hK (okO_ok n Φ C a c h.1.1) (okE_ok n Φ C b c h.1.2).pe (okE_ok n Φ C d c h.2).pe) (fun w => rfl) fun _ _ _ q => (nomatch q)
        · cases h
      · cases h
    | _ => simp [okE] at h
  | .ofL l, lm, sc, ss, x, X, W, c, h => by
    simp only [okE] at h
    obtain ⟨h1, h2, h3⟩ := okL_ok n Φ C l c h
    exact sd_val c.hK rfl (e_ofL h1) h3 h2
theorem okL_ok (n : Nat) (Φ : Phi) (C : Cc) : ∀ (l : LE) {lm : Bool} {sc ss : Scope} {x : Expr} {X : Cx} {W : WX}, CtxE Tb N io lm n Φ C W sc ss X → okL Tb N io lm l sc x = true → PE X x (tL C W (evL Φ l)) ∧ (∀ op vs pos, x ≠ .BoolOp op vs pos) ∧ ∀ w, isTrue x X.env w = (do let v ← w; standAt x.pos; holding [v] (truthy v))
  | .disp es, lm, sc, ss, x, X, W, c, h => by
    cases x with
    | List xs pos =>
      simp only [okL, Bool.and_eq_true, decide_eq_true_eq] at h
      exact ⟨l_disp h.1 (okEs_ok n Φ C es c h.2), fun _ _ _ q => (nomatch q), fun w => rfl⟩
    | _ => simp [okL] at h
  | .prim p os, lm, sc, ss, x, X, W, c, h => by
    simp only [okL, Bool.and_eq_true] at h
    obtain ⟨h1, h2, h3⟩ := px_ok c h.2 fun xs hx => okOs_ok n Φ C os c hx
    refine ⟨l_prim h.1 h1, h2, ?_⟩
    rcases h3 with ⟨l, o, r, pos, rfl, rfl, _, _⟩ | h3
    · have := h.1
      cases o <;> cases this
    · exact h3
  | .comp ow t it ifs e, lm, sc, ss, x, X, W, c, h => by
    cases x with
    | ListComp elt gs sc2 pos =>
      simp only [okL] at h
      split at h
      · rename_i tg iter ifx k
        simp only [Bool.and_eq_true, decide_eq_true_eq] at h
        obtain ⟨⟨⟨⟨⟨⟨rfl, h1⟩, h2⟩, h3⟩, h4⟩, h5⟩, h6⟩ := h
        unfold compB at h1
        rw [Bool.and_eq_true] at h1
        have hown : (ownOf N ow).map (·.2) = ow := by
          unfold ownOf
          rw [List.map_map]
          exact List.map_id'' (fun _ => rfl) ow
        have bo : BlkOk X.N X.env.scope sc2 (ownOf N ow) := by
          rw [c.hN, c.hsc]
          exact blkOk_by h1.1
        refine ⟨?_, fun _ _ _ q => (nomatch q), fun w => rfl⟩
        have := l_comp (W := W) (Φ := Φ) (pos := pos) (own := ownOf N ow) (t := t) (it := it) (ifs := ifs) (e := e) c.calm (by rw [c.hN]; exact c.nd) (okI_ok n Φ C it c h3) bo
          (fun s H A cl fp => okT_ok n Φ C t (c.blk sc2 s H A cl fp) h4) (fun s H A cl fp => okIf_ok n Φ C ifs (c.blk sc2 s H A cl fp) h5) (fun s H A cl fp => (okE_ok n Φ C e (c.blk sc2 s H A cl fp) h6).pe)
          (folded_of h2 X.env) (by
            rw [hown]
            exact fun i hi => List.contains_iff_mem.mp (List.all_eq_true.mp h1.2 i hi))
        rw [hown] at this
        exact this
      · cases h
    | _ => simp [okL] at h
  | .call f as ks, lm, sc, ss, x, X, W, c, h => by
    cases x with
    | Call g xs kws pos =>
      simp only [okL] at h
      split at h
      · rename_i g q
        simp only [Bool.and_eq_true] at h
        obtain ⟨⟨h1, h2⟩, h3⟩ := h
        have e := eq_of_beq h1
        subst e
        obtain ⟨frg, as1, as2, hfr, rfl, k⟩ := call_ok (q := q) (pos := pos) c h2 (okAs_ok n Φ C as c h3)
        cases hfr rfl
        exact ⟨k.imp fun σ H Q q => l_callR rfl rfl q, fun _ _ _ q => (nomatch q), fun w => rfl⟩
      · cases h
    | _ => simp [okL] at h
  | .sset ow vs1 t it t1 it1 e, lm, sc, ss, x, X, W, c, h => by
    cases x with
    | Call g xs kws pos =>
      simp only [okL] at h
      split at h
      · rename_i f q elt gs sc2 pos2
        split at h
        · rename_i tg iter ifx k tg1 iter1 ifx1 k1
          simp only [Bool.and_eq_true, decide_eq_true_eq, List.isEmpty_iff] at h
          obtain ⟨⟨⟨⟨⟨⟨⟨⟨⟨⟨⟨⟨⟨⟨⟨a1, a2⟩, rfl⟩, rfl⟩, rfl⟩, rfl⟩, h1⟩, b1⟩, b2⟩, h2⟩, h2b⟩, h3⟩, h4⟩, h5⟩, h6⟩, h7⟩ := h
          have e1 := eq_of_beq a1
          subst e1
          obtain ⟨g1, g2⟩ := c.gb a2
          unfold compB at h1
          rw [Bool.and_eq_true] at h1
          have hown : (ownOf N ow).map (·.2) = ow := by
            unfold ownOf
            rw [List.map_map]
            exact List.map_id'' (fun _ => rfl) ow
          have bo : BlkOk X.N X.env.scope sc2 (ownOf N ow) := by
            rw [c.hN, c.hsc]
            exact blkOk_by h1.1
          refine ⟨?_, fun _ _ _ q => (nomatch q), fun w => rfl⟩
          have := l_sset (W := W) (Φ := Φ) (pos := pos2) (p := q) (q := pos) (own := ownOf N ow) (vs1 := vs1) (t := t) (it := it) (t1 := t1) (it1 := it1) (e := e) c.calm (by rw [c.hN]; exact c.nd) (okI_ok n Φ C it c h3) bo
            (by
              rw [hown]
              exact fun i hi => List.contains_iff_mem.mp (List.all_eq_true.mp b2 i hi))
            (fun s H A cl fp => okT_ok n Φ C t (c.blk sc2 s H A cl fp) h4) (fun s H A cl fp => okI_ok n Φ C it1 (c.blk sc2 s H A cl fp) h5) (fun s H A cl fp => okT_ok n Φ C t1 (c.blk sc2 s H A cl fp) h6) (fun s H A cl fp => (okE_ok n Φ C e (c.blk sc2 s H A cl fp) h7).pe)
            (folded_of h2 X.env) (fun env x => folded_of h2b env x) (by
              rw [hown]
              exact fun i hi => List.contains_iff_mem.mp (List.all_eq_true.mp h1.2 i hi))
            (fun i hi => List.contains_iff_mem.mp (List.all_eq_true.mp b1 i hi)) g1 g2
          rw [hown] at this
          exact this
        · cases h
      · cases h
    | _ => simp [okL] at h
  | .lrng e, lm, sc, ss, x, X, W, c, h => by
    cases x with
    | Call g xs kws pos =>
      simp only [okL] at h
      split at h
      · split at h
        · simp only [Bool.and_eq_true] at h
          obtain ⟨⟨⟨⟨⟨h1, h2⟩, h3⟩, h4⟩, h5⟩, h6⟩ := h
          have q1 := eq_of_beq h1
          have q2 := eq_of_beq h3
          subst q1 q2
          obtain ⟨g1, g2⟩ := c.gb h2
          obtain ⟨g3, g4⟩ := c.gb h4
          exact ⟨l_lrng c.calm g1 g2 g3 g4 (star_ok _ _ h5) (okE_ok n Φ C e c h6).pe, fun _ _ _ q => (nomatch q), fun w => rfl⟩
        · cases h
      · cases h
    | _ => simp [okL] at h
  | .skey i l k, lm, sc, ss, x, X, W, c, h => by
    cases x with
    | Call g xs kws pos =>
      simp only [okL] at h
      split at h
      · rename_i f q y kn params body scope lpos kpos
        simp only [Bool.and_eq_true] at h
        obtain ⟨⟨⟨⟨⟨⟨⟨h0, h1⟩, h2⟩, h3⟩, h4⟩, h5⟩, h6⟩, h7⟩ := h
        have q1 := eq_of_beq h1
        have q2 := eq_of_beq h3
        subst q1 q2
        obtain ⟨g1, g2⟩ := c.gb h2
        have LO := c.lam h0
        unfold lamB at h6
        split at h6
        · rename_i a ha
          simp only [Bool.and_eq_true, decide_eq_true_eq, List.isEmpty_iff, Option.isNone_iff_eq_none, Bool.not_eq_true'] at h6
          obtain ⟨⟨⟨⟨⟨⟨⟨⟨p1, p2⟩, p3⟩, p4⟩, p5⟩, p6⟩, p7⟩, p8⟩, p9⟩ := h6
          refine ⟨l_skey (n := n) c.hK LO g1 g2 (star_ok _ _ h4) (okL_ok n Φ C l c h5).1 (x := a.arg) (by rw [c.hsc]; exact lamS1_by p8) ?_ (fun cl pm cv ctv u => ?_) (by rw [c.hN]; exact c.nd) (by rw [c.hN]; exact p7) (fun p hp z => ?_)
            (fun s H E f c' => (okE_ok n Φ C k (c.inLam LO scope s H E f c') h7).pe), fun _ _ _ q => (nomatch q), fun w => rfl⟩
          · obtain ⟨a1, a2, a3, a4, a5, a6, a7⟩ := params
            simp only at p5 p6
            subst p5 p6
            rfl
          · have := bind_pos (fd := PySem.W.kla_fn "<lambda>" (X.env.qual ++ "<lambda>") params body scope cl pm cv ctv) (P := [a.arg]) (us := [u]) ⟨by rw [p1, ha]; rfl, p2, p3, p4, rfl⟩ (List.nodup_cons.mpr ⟨by simp, List.nodup_nil⟩) rfl
            exact this
          · have := List.contains_iff_mem.mpr (c.hio p hp)
            rw [z, p9] at this
            cases this
        · cases h6
      · cases h
    | _ => simp [okL] at h
  | .rep d e, lm, sc, ss, x, X, W, c, h => by
    cases x with
    | BinOp a o y pos =>
      simp only [okL] at h
      split at h
      · rename_i q
        cases q
        simp only [Bool.and_eq_true, decide_eq_true_eq] at h
        obtain ⟨⟨rfl, h2⟩, h3⟩ := h
        exact ⟨l_rep h2 (okE_ok n Φ C e c h3).pe, fun _ _ _ q => (nomatch q), fun w => rfl⟩
      · cases h
    | _ => simp [okL] at h
theorem okO_ok (n : Nat) (Φ : Phi) (C : Cc) : ∀ (o : O) {lm : Bool} {sc ss : Scope} {x : Expr} {X : Cx} {W : WX}, CtxE Tb N io lm n Φ C W sc ss X → okO Tb N io lm o sc x = true → PE X x (tO C W (evO Φ o))
  | .ex e, lm, sc, ss, x, X, W, c, h => by
    simp only [okO] at h
    exact e_op (okE_ok n Φ C e c h).pe
  | .sl i, lm, sc, ss, x, X, W, c, h => by
    cases x with
    | Name y p =>
      simp only [okO] at h
      exact e_slot (c.nm h)
    | _ => simp [okO] at h
theorem okOs_ok (n : Nat) (Φ : Phi) (C : Cc) : ∀ (os : List O) {lm : Bool} {sc ss : Scope} {xs : List Expr} {X : Cx} {W : WX}, CtxE Tb N io lm n Φ C W sc ss X → okOs Tb N io lm os sc xs = true → OsR X C W Φ os xs
  | [], lm, sc, ss, xs, X, W, c, h => by
    cases xs with
    | nil => exact .nil
    | cons => simp [okOs] at h
  | o :: os, lm, sc, ss, xs, X, W, c, h => by
    cases xs with
    | nil => simp [okOs] at h
    | cons x xs =>
      simp only [okOs, Bool.and_eq_true] at h
      exact .cons h.1.1 (okO_ok n Φ C o c h.1.2) (okOs_ok n Φ C os c h.2)
theorem okEs_ok (n : Nat) (Φ : Phi) (C : Cc) : ∀ (os : List E) {lm : Bool} {sc ss : Scope} {xs : List Expr} {X : Cx} {W : WX}, CtxE Tb N io lm n Φ C W sc ss X → okEs Tb N io lm os sc xs = true → PA X xs (tEs C W (evEs Φ os))
  | [], lm, sc, ss, xs, X, W, c, h => by
    cases xs with
    | nil => exact es_nil
    | cons => simp [okEs] at h
  | o :: os, lm, sc, ss, xs, X, W, c, h => by
    cases xs with
    | nil => simp [okEs] at h
    | cons x xs =>
      simp only [okEs, Bool.and_eq_true] at h
      exact es_cons (pa_cons (okE_ok n Φ C o c h.1.2).pe (okEs_ok n Φ C os c h.2) (star_ok _ _ h.1.1))
theorem okA_ok (n : Nat) (Φ : Phi) (C : Cc) : ∀ (a : A) {lm : Bool} {sc ss : Scope} {x : Expr} {X : Cx} {W : WX}, CtxE Tb N io lm n Φ C W sc ss X → okA Tb N io lm a sc x = true → PE X x (tA C W (evA Φ a))
  | .ex e, lm, sc, ss, x, X, W, c, h => by
    simp only [okA] at h
    exact a_ex (okE_ok n Φ C e c h).pe
  | .io i, lm, sc, ss, x, X, W, c, h => by
    cases x with
    | Name y p =>
      simp only [okA] at h
      exact a_io (c.nm h)
    | _ => simp [okA] at h
  | .fr l, lm, sc, ss, x, X, W, c, h => by
    simp only [okA] at h
    exact a_fr (okL_ok n Φ C l c h).1
theorem okAs_ok (n : Nat) (Φ : Phi) (C : Cc) : ∀ (as : List A) {lm : Bool} {sc ss : Scope} {xs : List Expr} {kws : List Keyword} {X : Cx} {W : WX}, CtxE Tb N io lm n Φ C W sc ss X → okAs Tb N io lm as sc xs kws = true → AsR X C W Φ as xs kws
  | [], lm, sc, ss, xs, kws, X, W, c, h => by
    cases xs with
    | nil =>
      cases kws with
      | nil => exact ⟨⟨[], [], rfl, rfl, rfl, as_nil, ak_nil⟩, rfl⟩
      | cons => simp [okAs] at h
    | cons => simp [okAs] at h
  | a :: as, lm, sc, ss, xs, kws, X, W, c, h => by
    cases xs with
    | nil =>
      cases kws with
      | nil => simp [okAs] at h
      | cons k kws =>
        obtain ⟨nm, v, p⟩ := k
        simp only [okAs, Bool.and_eq_true] at h
        exact as_kw (okA_ok n Φ C a c h.1.2) (okAs_ok n Φ C as c h.2)
    | cons x xs =>
      simp only [okAs, Bool.and_eq_true] at h
      exact as_pos h.1.1 (okA_ok n Φ C a c h.1.2) (okAs_ok n Φ C as c h.2)
theorem okI_ok (n : Nat) (Φ : Phi) (C : Cc) : ∀ (it : It) {lm : Bool} {sc ss : Scope} {tg x : Expr} {X : Cx} {W : WX}, CtxE Tb N io lm n Φ C W sc ss X → okI Tb N io lm it sc tg x = true → PI X tg x (tI C W (evI Φ it))
  | .seq e, lm, sc, ss, tg, x, X, W, c, h => by
    simp only [okI] at h
    exact i_seq c.hK (okE_ok n Φ C e c h).pe
  | .rng e, lm, sc, ss, tg, x, X, W, c, h => by
    cases x with
    | Call g xs kws pos =>
      simp only [okI] at h
      split at h
      · simp only [Bool.and_eq_true] at h
        obtain ⟨⟨⟨h1, h2⟩, h3⟩, h4⟩ := h
        have e1 := eq_of_beq h1
        subst e1
        obtain ⟨g1, g2⟩ := c.gb h2
        exact i_rng g1 g2 (star_ok _ _ h3) (pa_cons (okE_ok n Φ C e c h4).pe pa_nil (star_ok _ _ h3))
      · cases h
    | _ => simp [okI] at h
  | .rng2 a b, lm, sc, ss, tg, x, X, W, c, h => by
    cases x with
    | Call g xs kws pos =>
      simp only [okI] at h
      split at h
      · simp only [Bool.and_eq_true] at h
        obtain ⟨⟨⟨⟨⟨h1, h2⟩, h3⟩, h4⟩, h5⟩, h6⟩ := h
        have e1 := eq_of_beq h1
        subst e1
        obtain ⟨g1, g2⟩ := c.gb h2
        exact i_rng2 g1 g2 (by rw [star_ok _ _ h3, star_ok _ _ h4]; rfl) (star_ok _ _ h4) (pa_cons (okE_ok n Φ C a c h5).pe (pa_cons (okE_ok n Φ C b c h6).pe pa_nil (star_ok _ _ h4)) (star_ok _ _ h3))
      · cases h
    | _ => simp [okI] at h
  | .enum e, lm, sc, ss, tg, x, X, W, c, h => by
    cases x with
    | Call g xs kws pos =>
      simp only [okI] at h
      split at h
      · simp only [Bool.and_eq_true] at h
        obtain ⟨⟨⟨h1, h2⟩, h3⟩, h4⟩ := h
        have e1 := eq_of_beq h1
        subst e1
        obtain ⟨g1, g2⟩ := c.gb h2
        exact i_enum c.hK g1 g2 (star_ok _ _ h3) (pa_cons (okE_ok n Φ C e c h4).pe pa_nil (star_ok _ _ h3))
      · cases h
    | _ => simp [okI] at h
  | .zip a b, lm, sc, ss, tg, x, X, W, c, h => by
    cases x with
    | Call g xs kws pos =>
      simp only [okI] at h
      split at h
      · simp only [Bool.and_eq_true] at h
        obtain ⟨⟨⟨⟨⟨h1, h2⟩, h3⟩, h4⟩, h5⟩, h6⟩ := h
        have e1 := eq_of_beq h1
        subst e1
        obtain ⟨g1, g2⟩ := c.gb h2
        exact i_zip c.hK g1 g2 (star_ok _ _ h3) (star_ok _ _ h4) (pa_cons (okE_ok n Φ C a c h5).pe (pa_cons (okE_ok n Φ C b c h6).pe pa_nil (star_ok _ _ h4)) (star_ok _ _ h3))
      · cases h
    | _ => simp [okI] at h
  | .rngd a b, lm, sc, ss, tg, x, X, W, c, h => by
    cases x with
    | Call g xs kws pos =>
      simp only [okI] at h
      split at h
      · rename_i f q y z o v j p1 p2
        simp only [Bool.and_eq_true, decide_eq_true_eq] at h
        obtain ⟨⟨⟨⟨⟨⟨⟨h1, h2⟩, h3⟩, h4⟩, rfl⟩, rfl⟩, h7⟩, h8⟩ := h
        have e1 := eq_of_beq h1
        subst e1
        obtain ⟨g1, g2⟩ := c.gb h2
        have hp : ∀ {u : Expr} {us : List Expr}, plainX u = true → starEach (u :: us) X.env = (false, eval u X.env) :: starEach us X.env := fun hu => star_ok _ _ hu
        refine i_rngd g1 g2 (hp h3) ?_ (pa_cons (okE_ok n Φ C a c h7).pe (pa_cons (okE_ok n Φ C b c h8).pe (pa_cons pe_negOne pa_nil rfl) (hp h4)) (hp h3))
        rw [hp h4]
        rfl
      · cases h
    | _ => simp [okI] at h
theorem okIf_ok (n : Nat) (Φ : Phi) (C : Cc) : ∀ (ifs : Option E) {lm : Bool} {sc ss : Scope} {xs : List Expr} {X : Cx} {W : WX}, CtxE Tb N io lm n Φ C W sc ss X → okIf Tb N io lm ifs sc xs = true → PTs X xs (tT C W (evIf Φ ifs))
  | none, lm, sc, ss, xs, X, W, c, h => by
    cases xs with
    | nil => exact ts_none
    | cons => simp [okIf] at h
  | some e, lm, sc, ss, xs, X, W, c, h => by
    simp only [okIf] at h
    split at h
    · exact ts_one (okE_ok n Φ C e c h).pt
    · cases h
theorem okT_ok (n : Nat) (Φ : Phi) (C : Cc) : ∀ (t : T) {lm : Bool} {sc ss : Scope} {x : Expr} {X : Cx} {W : WX}, CtxE Tb N io lm n Φ C W sc ss X → okT Tb N io lm t sc ss x = true → PG X x (tG C W t.ns (evT Φ t))
  | .nm i, lm, sc, ss, x, X, W, c, h => by
    cases x with
    | Name y p =>
      simp only [okT, Bool.and_eq_true, decide_eq_true_eq, Bool.not_eq_true'] at h
      obtain ⟨⟨h1, h2⟩, h3⟩ := h
      obtain ⟨k1, k2⟩ := c.st y h2
      exact g_nm (fun p hp q => by
        have := List.contains_iff_mem.mpr (c.hio p hp)
        rw [q, h3] at this
        cases this) (pg_name (by rw [c.hN]; exact c.nd) (by rw [c.hN]; exact h1) k1 k2)
    | _ => simp [okT] at h
  | .tup ts, lm, sc, ss, x, X, W, c, h => by
    cases x with
    | Tuple xs k p =>
      simp only [okT, Bool.and_eq_true, decide_eq_true_eq] at h
      obtain ⟨h1, h2, h3⟩ := okTs_ok n Φ C ts c h.2
      exact g_tup c.hK c.calm h1 h.1 h2 h3
    | _ => simp [okT] at h
  | .sub i k, lm, sc, ss, x, X, W, c, h => by
    cases x with
    | Subscript o kx p =>
      simp only [okT] at h
      split at h
      · simp only [Bool.and_eq_true] at h
        exact g_sub (c.nm h.1.1) (okE_ok n Φ C k c h.2).pe (sub_assign h.1.2)
      · cases h
    | _ => simp [okT] at h
theorem okTs_ok (n : Nat) (Φ : Phi) (C : Cc) : ∀ (ts : List T) {lm : Bool} {sc ss : Scope} {xs : List Expr} {X : Cx} {W : WX}, CtxE Tb N io lm n Φ C W sc ss X → okTs Tb N io lm ts sc ss xs = true →
    PGs X xs (tGs C W xs.length (T.nsL ts) (evTs Φ ts)) ∧ (assignEach xs X.env).length = xs.length ∧ (assignEach xs X.env).findIdx? (·.1) = none
  | [], lm, sc, ss, xs, X, W, c, h => by
    cases xs with
    | nil => exact ⟨gs_nil, rfl, rfl⟩
    | cons => simp [okTs] at h
  | t :: ts, lm, sc, ss, xs, X, W, c, h => by
    cases xs with
    | nil => simp [okTs] at h
    | cons x xs =>
      simp only [okTs, Bool.and_eq_true] at h
      obtain ⟨h1, h2, h3⟩ := okTs_ok n Φ C ts c h.2
      have e : assignEach (x :: xs) X.env = (false, assign x X.env) :: assignEach xs X.env := by
        have := h.1.1
        cases x <;> first | rfl | cases this
      refine ⟨gs_cons (okT_ok n Φ C t c h.1.2) h1 (by rw [e]; rfl), by rw [e]; exact congrArg Nat.succ h2, ?_⟩
      rw [e, List.findIdx?_cons]
      show Option.map (· + 1) _ = none
      rw [h3]
      rfl
end
end
end Iv
set_option Elab.async false
set_option linter.all false
set_option maxRecDepth 100000
set_option maxHeartbeats 4000000
/-! Iv18: the checks of statements and what they tell. -/
namespace Iv
open PySem PySem.Spec PyProof.Rows L2

def swB (sc : Scope) (t : Str) (pos vpos : Pos) (scope : Scope) : Bool := (match sc.names.lookup t with
  | some .local => true
  | _ => false) && (pos.line == vpos.line) && !(scope.names.any fun (n, k) => n == t && (k == .local || k == .cell))
theorem block_fn {env : PySem.Env} (hk : env.scope.kind = .function) : env.blockKind = .function := by
  unfold PySem.Env.blockKind
  rw [hk]
  rfl
theorem sw_no {v : Expr} (h : notComp v = true) (t : Option Expr) (l : Nat) (env : PySem.Env) : swapsWith v t l env = pure false := by
  cases v <;> first | rfl | cases h
theorem sw_comp {elt : Expr} {gs : List Comprehension} {scope sc : Scope} {pos py : Pos} {y : Str} {l : Nat} {env : PySem.Env} (hk : env.scope.kind = .function) (hs : env.scope = sc) :
    swapsWith (.ListComp elt gs scope pos) (some (.Name y py)) l env = pure (swB sc y py pos scope) := by
  unfold swapsWith swB
  simp only [block_fn hk, Expr.pos]
  subst hs
  have e : (env.kindOf y == some .local) = (match env.scope.names.lookup y with | some .local => true | _ => false) := by
    show (env.scope.names.lookup y == some .local) = _
    cases env.scope.names.lookup y with
    | none => rfl
    | some k => cases k <;> rfl
  rw [e]
  rfl
def swN (sc : Scope) (ts : List Expr) : List Str := ts.filterMap fun
  | .Name id pos => if sc.names.lookup id == some .local && pos.line == (ts.head?.map (·.pos.line)).getD 0 then some id else none
  | _ => none
def noSwap (sc : Scope) (tg v : Expr) : Bool := match tg with
  | .Tuple ts _ _ => (match v with
    | .Tuple vs _ _ => decide ((swN sc ts).length ≠ ts.length)
    | _ => true)
  | .Name .. => true
  | .Subscript .. => true
  | _ => false
theorem noSwap_ok {sc : Scope} {tg v : Expr} {env : PySem.Env} (hs : env.scope = sc) (h : noSwap sc tg v = true) : swappedStores [tg] v env = pure none := by
  cases tg with
  | Tuple ts k p =>
    cases v with
    | Tuple vs k2 p2 =>
      simp only [noSwap, decide_eq_true_eq] at h
      unfold swappedStores
      simp only
      split
      · rfl
      · split
        · rfl
        · split
          · rfl
          · rename_i hn
            refine (hn ?_).elim
            rw [Bool.or_eq_true]
            left
            rw [bne_iff_ne]
            intro q
            refine h ?_
            rw [← q, ← hs]
            rfl
    | _ => rfl
  | Name => cases v <;> rfl
  | Subscript => cases v <;> rfl
  | _ => cases h
def parB (sc : Scope) (y1 y2 : Str) (p1 p2 : Pos) (x1 x2 : Expr) : Bool := decide (swN sc [.Name y1 p1, .Name y2 p2] = [y1, y2]) && decide (y1 ≠ y2) && plainX x1 && plainX x2 && !([x1, x2].all (foldedForSure 8)) && !([x1, x2].all (constantsAlone 8))
theorem parB_ok {sc : Scope} {y1 y2 : Str} {p1 p2 pt pt2 : Pos} {k k2 : Nat} {x1 x2 : Expr} {env : PySem.Env} (hk : env.scope.kind = .function) (hs : env.scope = sc) (h : parB sc y1 y2 p1 p2 x1 x2 = true) :
    swappedStores [.Tuple [.Name y1 p1, .Name y2 p2] k pt] (.Tuple [x1, x2] k2 pt2) env = pure (some [y1, y2]) := by
  simp only [parB, Bool.and_eq_true, decide_eq_true_eq, Bool.not_eq_true'] at h
  obtain ⟨⟨⟨⟨⟨h1, h2⟩, h3⟩, h4⟩, h5⟩, h6⟩ := h
  subst hs
  have e1 : [y1, y2].eraseDups = [y1, y2] := by
    have q : (y2 == y1) = false := beq_eq_false_iff_ne.mpr fun z => h2 z.symm
    simp [List.eraseDups_cons, q, h2, Ne.symm h2]
  have hst : ([x1, x2].any fun | .Starred .. => true | _ => false) = false := by
    have a : ∀ {x : Expr}, plainX x = true → (match x with | .Starred .. => true | _ => false) = false := fun {x} h => by
      cases x <;> first | rfl | cases h
    simp only [List.any_cons, List.any_nil, Bool.or_false]
    exact Bool.or_eq_false_iff.mpr ⟨a h3, a h4⟩
  unfold swappedStores
  simp only [block_fn hk]
  rw [if_neg (by simp)]
  split
  · rename_i hc
    exact absurd (hst.symm.trans hc) Bool.false_ne_true
  · generalize hnn : List.filterMap _ _ = names
    have e2 : names = [y1, y2] := hnn.symm.trans h1
    subst e2
    rw [e1, if_neg (by simp), if_neg (by rw [h5]; exact Bool.false_ne_true), if_neg (by rw [h6]; exact Bool.false_ne_true)]

/-! ### the checks -/
section
variable (Tb : Tbl) (N : List Str) (io : List Nat) (lm : Bool) (fr : Bool) (sc : Scope)
def storeB (i : Nat) (y : Str) : Bool := decide (N[i]? = some y) && locB sc y && !(io.contains i)
def tgsB : List Nat → List Expr → Bool
  | [], ts => ts.isEmpty
  | i :: is, ts => match ts with
    | .Name y _ :: ts => storeB N io sc i y && tgsB is ts
    | _ => false
def augB (op : Operator) (p : Prim) : Bool := (decide (op = .Add) && decide (p = .add)) || (decide (op = .Sub) && decide (p = .sub))
def isCompL : LE → Bool
  | .comp .. => true
  | _ => false
mutual
def okS : S → Stmt → Bool
  | .asg t e, st => match st with
    | .Assign tgs v _ => (match tgs with
      | [tg] => okE Tb N io lm e sc v && (match t, tg with
        | .nm i, .Name y _ => storeB N io sc i y && (notComp v || (match e with
          | .ofL l => isCompL l
          | _ => false))
        | t, tg => notComp v && noSwap sc tg v && plainX tg && okT Tb N io lm t sc sc tg)
      | _ => false)
    | _ => false
  | .asgo i l, st => match st with
    | .Assign tgs v _ => (match tgs with
      | [.Name y _] => okL Tb N io lm l sc v && storeB N io sc i y && (notComp v || isCompL l)
      | _ => false)
    | _ => false
  | .par i j a b, st => match st with
    | .Assign tgs v _ => (match tgs, v with
      | [.Tuple [.Name y1 p1, .Name y2 p2] _ _], .Tuple [x1, x2] _ _ => parB sc y1 y2 p1 p2 x1 x2 && storeB N io sc i y1 && storeB N io sc j y2 && decide (i ≠ j) && okA Tb N io lm a sc x1 && okA Tb N io lm b sc x2
      | _, _ => false)
    | _ => false
  | .asgm is as, st => match st with
    | .Assign tgs v _ => (match tgs, v with
      | [.Tuple ts k p], .Tuple xs k2 p2 => noSwap sc (.Tuple ts k p) (.Tuple xs k2 p2) && tgsB N io sc is ts && decide (as.length ≤ 1000) && okAs Tb N io lm as sc xs []
      | _, _ => false)
    | _ => false
  | .aug p i e, st => match st with
    | .AugAssign (.Name y _) op x _ => augB op p && storeB N io sc i y && okE Tb N io lm e sc x
    | _ => false
  | .augs p i k e, st => match st with
    | .AugAssign (.Subscript (.Name y _) kx _) op x _ => augB op p && nmB N sc i y && notSlice kx && okE Tb N io lm k sc kx && okE Tb N io lm e sc x
    | _ => false
  | .frz _, _ => false
  | .expr e, st => match st with
    | .Expr v _ => notComp v && okE Tb N io lm e sc v
    | _ => false
  | .mt m i es, st => match st with
    | .Expr v _ => (match v with
      | .Call (.Attribute (.Name y q) at' apos) xs [] cpos => nmB N sc i y && decide (apos.endLine = cpos.line) && (match m, es, xs with
        | .append, [e], [x] => (at' == ("append" : Str)) && plainX x && okE Tb N io lm e sc x
        | .pop, [], [] => at' == ("pop" : Str)
        | _, _, _ => false)
      | _ => false)
    | _ => false
  | .ext i l, st => match st with
    | .Expr v _ => (match v with
      | .Call (.Attribute (.Name y q) at' apos) [x] [] cpos => nmB N sc i y && decide (apos.endLine = cpos.line) && (at' == ("extend" : Str)) && plainX x && okL Tb N io lm l sc x
      | _ => false)
    | _ => false
  | .ifs c a b, st => match st with
    | .If t x y _ => okE Tb N io lm c sc t && okB a x && okB b y
    | _ => false
  | .whl c b, st => match st with
    | .While t x els _ => els.isEmpty && okE Tb N io lm c sc t && okB b x
    | _ => false
  | .forr t it b, st => match st with
    | .For tg iter x els _ => els.isEmpty && notSet iter && okI Tb N io lm it sc tg iter && okT Tb N io lm t sc sc tg && okB b x
    | _ => false
  | .ret o, st => match st with
    | .Return v _ => (match o, v with
      | .ex (.ofL l), some x => okL Tb N io lm l sc x
      | .ex e, some x => !fr && okE Tb N io lm e sc x
      | .sl i, some (.Name y _) => nmB N sc i y && !(io.contains i)
      | .ex (.cst .non), none => !fr
      | _, _ => false)
    | _ => false
  | .brk, st => match st with
    | .Break _ => true
    | _ => false
  | .cont, st => match st with
    | .Continue _ => true
    | _ => false
  | .pass, st => match st with
    | .Pass _ => true
    | .Expr (.Constant (.str _) _ _) _ => true
    | _ => false
  | .never, _ => true
def okB : List S → List Stmt → Bool
  | [], sts => sts.isEmpty
  | s :: ss, sts => match s with
    | .frz i => !(io.contains i) && okB ss sts
    | s => match sts with
      | [] => false
      | st :: sts => okS s st && okB ss sts
end
end
/-! ### their soundness -/
structure CtxS (Tb : Tbl) (N : List Str) (io : List Nat) (lm : Bool) (n : Nat) (Φ : Phi) (C : Cc) (W : WX) (sc : Scope) (X : Cx) : Prop where
  e : CtxE Tb N io lm n Φ C W sc sc X
  kind : X.env.scope.kind = .function
  pass : PassesOwn (model X.prog X.w) X.A X.env X.xe
section
variable {Tb : Tbl} {N : List Str} {io : List Nat} {lm : Bool} {n : Nat} {Φ : Phi} {C : Cc} {W : WX} {sc : Scope} {X : Cx}
theorem CtxE.notio {ss : Scope} (c : CtxE Tb N io lm n Φ C W sc ss X) {i : Nat} (h : io.contains i = false) : ∀ p ∈ C.io, p.1 ≠ i := fun p hp q => by
  have := List.contains_iff_mem.mpr (c.hio p hp)
  rw [q, h] at this
  cases this
theorem CtxE.store (c : CtxE Tb N io lm n Φ C W sc sc X) {i : Nat} {y : Str} (h : storeB N io sc i y = true) : (∀ p ∈ C.io, p.1 ≠ i) ∧ X.N.Nodup ∧ X.N[i]? = some y ∧ Loc X.env.scope y ∧ (X.fn y = true ∨ X.env.scope.names.lookup y = some .local) := by
  simp only [storeB, Bool.and_eq_true, decide_eq_true_eq, Bool.not_eq_true'] at h
  obtain ⟨⟨h1, h2⟩, h3⟩ := h
  obtain ⟨k1, k2⟩ := c.st y h2
  exact ⟨c.notio h3, by rw [c.hN]; exact c.nd, by rw [c.hN]; exact h1, k1, k2⟩
/-- name = .. of a new list, whatever the form -/
theorem set_newL (c : CtxS Tb N io lm n Φ C W sc X) {l : LE} {v : Expr} {i : Nat} {y : Str} {py pos : Pos} (h : okL Tb N io lm l sc v = true) (hs : storeB N io sc i y = true) (hc : (notComp v || isCompL l) = true) :
    PS X (.Assign [.Name y py] v pos) (tAsg (tL C W (evL Φ l)) (gName i)) := by
  obtain ⟨k0, k1, k2, k3, k4⟩ := c.e.store hs
  have hv := (okL_ok n Φ C l c.e h).1
  cases hn : notComp v with
  | true => exact ps_set k1 k2 k3 hv (sw_no hn _ _ _) k4
  | false =>
    rw [hn, Bool.false_or] at hc
    cases l with
    | comp ow t it ifs e =>
      cases v with
      | ListComp elt gs sc2 vp =>
        cases hsw : swB sc y py vp sc2 with
        | false =>
          refine ps_set k1 k2 k3 hv ?_ k4
          rw [sw_comp c.kind c.e.hsc, hsw]
        | true =>
          simp only [okL] at h
          split at h
          · rename_i tg iter ifx k
            simp only [Bool.and_eq_true, decide_eq_true_eq] at h
            obtain ⟨⟨⟨⟨⟨⟨rfl, h1⟩, h2⟩, h3⟩, h4⟩, h5⟩, h6⟩ := h
            unfold compB at h1
            rw [Bool.and_eq_true] at h1
            have hown : (ownOf N ow).map (·.2) = ow := by
              unfold ownOf
              rw [List.map_map]
              exact List.map_id'' (fun _ => rfl) ow
            have bo : BlkOk X.N X.env.scope sc2 (ownOf N ow) := by
              rw [c.e.hN, c.e.hsc]
              exact blkOk_by h1.1
            have hyl : X.env.scope.names.lookup y = some .local := by
              rw [c.e.hsc]
              unfold swB at hsw
              simp only [Bool.and_eq_true] at hsw
              have := hsw.1.1
              split at this
              · assumption
              · cases this
            have := s_setLc (W := W) (Φ := Φ) (pos := vp) (spos := pos) (py := py) (i := i) (y := y) (own := ownOf N ow) (t := t) (it := it) (ifs := ifs) (e := e) c.e.calm k1 k2 hyl (by rw [sw_comp c.kind c.e.hsc, hsw]) (okI_ok n Φ C it c.e h3) bo
              (fun s H A cl fp => okT_ok n Φ C t (c.e.blk sc2 s H A cl fp) h4) (fun s H A cl fp => okIf_ok n Φ C ifs (c.e.blk sc2 s H A cl fp) h5) (fun s H A cl fp => (okE_ok n Φ C e (c.e.blk sc2 s H A cl fp) h6).pe)
              (folded_of h2 X.env) (by
                rw [hown]
                exact fun i hi => List.contains_iff_mem.mp (List.all_eq_true.mp h1.2 i hi))
            rw [hown] at this
            exact this
          · cases h
      | _ => simp [okL] at h
    | _ => cases hc
theorem augB_ok {op : Operator} {p : Prim} (h : augB op p = true) : (op = .Add ∧ p = .add) ∨ (op = .Sub ∧ p = .sub) := by
  simp only [augB, Bool.or_eq_true, Bool.and_eq_true, decide_eq_true_eq] at h
  exact h
theorem aug_store {kx : Expr} (h : notSlice kx = true) (ov iv new : Value) : augStore kx ov iv new = (do holding [new, ov, iv] (setItem ov iv new); release [new, ov, iv] []; pure .next) := by
  cases kx <;> first | rfl | cases h
theorem tgs_ok (c : CtxE Tb N io lm n Φ C W sc sc X) : ∀ {is : List Nat} {ts : List Expr}, tgsB N io sc is ts = true → (∀ i ∈ is, ∀ p ∈ C.io, p.1 ≠ i) ∧ PGs X ts (gNms is) ∧ is.length = ts.length ∧ (assignEach ts X.env).length = ts.length ∧ (assignEach ts X.env).findIdx? (·.1) = none
  | [], ts, h => by
    cases ts with
    | nil => exact ⟨(fun i hi => by cases hi), gNms_nil, rfl, rfl, rfl⟩
    | cons => simp [tgsB] at h
  | i :: is, ts, h => by
    simp only [tgsB] at h
    split at h
    · rename_i y q ts'
      rw [Bool.and_eq_true] at h
      obtain ⟨h1, h2⟩ := h
      obtain ⟨k0, k1, k2, k3, k4⟩ := c.store h1
      obtain ⟨r0, r1, r2, r3, r4⟩ := tgs_ok c h2
      have e : assignEach (.Name y q :: ts') X.env = (false, assign (.Name y q) X.env) :: assignEach ts' X.env := rfl
      refine ⟨fun j hj => ?_, gNms_cons (pg_name k1 k2 k3 k4) r1 (by rw [e]; rfl), by rw [List.length_cons, List.length_cons, r2], by rw [e]; exact congrArg Nat.succ r3, ?_⟩
      · rcases List.mem_cons.mp hj with z | z
        · rw [z]
          exact k0
        · exact r0 j z
      · rw [e, List.findIdx?_cons]
        show Option.map (· + 1) _ = none
        rw [r4]
        rfl
    · cases h
mutual
theorem okS_ok (n : Nat) (Φ : Phi) (C : Cc) : ∀ (s : S) {st : Stmt}, CtxS Tb N io lm n Φ C W sc X → okS Tb N io lm C.fr sc s st = true → PS X st (tS C W (evS Φ s))
  | .asg t e, st, c, h => by
    cases st with
    | Assign tgs v pos =>
      simp only [okS] at h
      split at h
      · rename_i tg
        rw [Bool.and_eq_true] at h
        obtain ⟨h1, h2⟩ := h
        have hv := (okE_ok n Φ C e c.e h1).pe
        have gen : (notComp v && noSwap sc tg v && plainX tg && okT Tb N io lm t sc sc tg) = true → PS X (.Assign [tg] v pos) (tS C W (evS Φ (.asg t e))) := fun h => by
          simp only [Bool.and_eq_true] at h
          obtain ⟨⟨⟨k1, k2⟩, k3⟩, k4⟩ := h
          refine s_asg hv (okT_ok n Φ C t c.e k4) (sw_no k1 _ _ _) (noSwap_ok c.e.hsc k2) ?_
          cases tg <;> first | rfl | cases k3
        split at h2
        · rename_i i y py
          rw [Bool.and_eq_true] at h2
          obtain ⟨k0, k1, k2, k3, k4⟩ := c.e.store h2.1
          cases hn : notComp v with
          | true => exact s_set k0 k1 k2 k3 k4 hv (sw_no hn _ _ _)
          | false =>
            have h3 := h2.2
            rw [hn, Bool.false_or] at h3
            split at h3
            · rename_i l
              simp only [okE] at h1
              exact (set_newL c h1 h2.1 (by rw [h3, Bool.or_true])).imp fun D σ H q => asgL_read k0 q
            · cases h3
        · exact gen h2
      · cases h
    | _ => simp [okS] at h
  | .asgo i l, st, c, h => by
    cases st with
    | Assign tgs v pos =>
      simp only [okS] at h
      split at h
      · rename_i y py
        simp only [Bool.and_eq_true] at h
        obtain ⟨k0, _⟩ := c.e.store h.1.2
        exact (set_newL c h.1.1 h.1.2 h.2).imp fun D σ H q => asgo_read k0 q
      · cases h
    | _ => simp [okS] at h
  | .par i j a b, st, c, h => by
    cases st with
    | Assign tgs v pos =>
      simp only [okS] at h
      split at h
      · rename_i y1 p1 y2 p2 kt pt x1 x2 k2 pt2
        simp only [Bool.and_eq_true, decide_eq_true_eq] at h
        obtain ⟨⟨⟨⟨⟨h1, h2⟩, h3⟩, h4⟩, h5⟩, h6⟩ := h
        obtain ⟨a0, a1, a2, a3, a4⟩ := c.e.store h2
        obtain ⟨b0, b1, b2, b3, b4⟩ := c.e.store h3
        have hp := h1
        simp only [parB, Bool.and_eq_true, decide_eq_true_eq] at hp
        obtain ⟨⟨⟨⟨⟨q1, q2⟩, q3⟩, q4⟩, _⟩, _⟩ := hp
        have loc : ∀ y, y ∈ [y1, y2] → sc.names.lookup y = some .local := fun y hy => by
          rw [← q1] at hy
          obtain ⟨x, hx, hxy⟩ := List.mem_filterMap.mp hy
          split at hxy
          · split at hxy
            · rename_i hc
              rw [Bool.and_eq_true] at hc
              cases hxy
              exact eq_of_beq hc.1
            · cases hxy
          · cases hxy
        have va := okA_ok n Φ C a c.e h5
        have vb := okA_ok n Φ C b c.e h6
        refine s_par a0 b0 c.e.calm a1 a2 b2 h4 ?_ ?_ (pa_cons va (pa_cons vb pa_nil (star_ok _ _ q4)) (star_ok _ _ q3)) (parB_ok c.kind c.e.hsc h1) rfl
        · rw [c.e.hsc]
          exact loc y1 (by simp)
        · rw [c.e.hsc]
          exact loc y2 (by simp)
      · cases h
    | _ => simp [okS] at h
  | .asgm is as, st, c, h => by
    cases st with
    | Assign tgs v pos =>
      simp only [okS] at h
      split at h
      · rename_i ts k p xs k2 p2
        simp only [Bool.and_eq_true, decide_eq_true_eq] at h
        obtain ⟨⟨⟨h1, h2⟩, h3⟩, h4⟩ := h
        obtain ⟨r0, r1, r2, r3, r4⟩ := tgs_ok c.e h2
        obtain ⟨⟨as1, as2, rfl, l1, l2, a1, a2⟩, _⟩ := okAs_ok n Φ C as c.e h4
        have e : as2 = [] := List.length_eq_zero_iff.mp l2
        subst e
        rw [List.append_nil] at h3 ⊢
        exact s_asgm c.e.hK c.e.calm r0 h3 a1 r1 r2 r3 r4 (noSwap_ok c.e.hsc h1) rfl
      · cases h
    | _ => simp [okS] at h
  | .aug p i e, st, c, h => by
    cases st with
    | AugAssign t op x pos =>
      simp only [okS] at h
      split at h
      · rename_i q
        cases q
        simp only [Bool.and_eq_true] at h
        obtain ⟨⟨h1, h2⟩, h3⟩ := h
        obtain ⟨k0, k1, k2, k3, k4⟩ := c.e.store h2
        exact s_aug (augB_ok h1) k0 k1 k2 k3 k4 (okE_ok n Φ C e c.e h3).pe
      · cases h
    | _ => simp [okS] at h
  | .augs p i k e, st, c, h => by
    cases st with
    | AugAssign t op x pos =>
      simp only [okS] at h
      split at h
      · rename_i q
        cases q
        simp only [Bool.and_eq_true] at h
        obtain ⟨⟨⟨⟨h1, h2⟩, h3⟩, h4⟩, h5⟩ := h
        exact s_augs c.e.hK (augB_ok h1) (c.e.nm h2) (okE_ok n Φ C k c.e h4).pe (okE_ok n Φ C e c.e h5).pe (aug_store h3)
      · cases h
    | _ => simp [okS] at h
  | .frz i, st, c, h => by simp [okS] at h
  | .expr e, st, c, h => by
    cases st with
    | Expr v pos =>
      simp only [okS, Bool.and_eq_true] at h
      exact s_expr (okE_ok n Φ C e c.e h.2).pe (sw_no h.1 _ _ _)
    | _ => simp [okS] at h
  | .mt m i es, st, c, h => by
    cases st with
    | Expr v pos =>
      simp only [okS] at h
      split at h
      · rename_i y q at' apos xs cpos
        simp only [Bool.and_eq_true, decide_eq_true_eq] at h
        obtain ⟨⟨h1, h2⟩, h3⟩ := h
        have hl : (apos.endLine == cpos.line) = true := by rw [h2]; exact beq_self_eq_true _
        split at h3
        · rename_i e x
          simp only [Bool.and_eq_true] at h3
          obtain ⟨⟨k1, k2⟩, k3⟩ := h3
          have e1 := eq_of_beq k1
          subst e1
          exact s_app c.e.hK (c.e.nm h1) (okE_ok n Φ C e c.e k3).pe (star_ok _ _ k2) attr_base hl rfl
        · have e1 := eq_of_beq h3
          subst e1
          exact s_pop c.e.hK (c.e.nm h1) attr_base hl rfl
        · cases h3
      · cases h
    | _ => simp [okS] at h
  | .ext i l, st, c, h => by
    cases st with
    | Expr v pos =>
      simp only [okS] at h
      split at h
      · rename_i y q at' apos x cpos
        simp only [Bool.and_eq_true, decide_eq_true_eq] at h
        obtain ⟨⟨⟨⟨h1, h2⟩, h3⟩, h4⟩, h5⟩ := h
        have hl : (apos.endLine == cpos.line) = true := by rw [h2]; exact beq_self_eq_true _
        have e1 := eq_of_beq h3
        subst e1
        exact s_ext c.e.hK (c.e.nm h1) (okL_ok n Φ C l c.e h5).1 (star_ok _ _ h4) attr_base hl rfl
      · cases h
    | _ => simp [okS] at h
  | .ifs t a b, st, c, h => by
    cases st with
    | If u x y pos =>
      simp only [okS, Bool.and_eq_true] at h
      exact s_if (okE_ok n Φ C t c.e h.1.1).pt (okB_ok n Φ C a c h.1.2) (okB_ok n Φ C b c h.2)
    | _ => simp [okS] at h
  | .whl t b, st, c, h => by
    cases st with
    | While u x els pos =>
      simp only [okS, Bool.and_eq_true, List.isEmpty_iff] at h
      obtain ⟨⟨rfl, h1⟩, h2⟩ := h
      exact s_while c.pass (okE_ok n Φ C t c.e h1).pt (okB_ok n Φ C b c h2)
    | _ => simp [okS] at h
  | .forr t it b, st, c, h => by
    cases st with
    | For tg iter x els pos =>
      simp only [okS, Bool.and_eq_true, List.isEmpty_iff] at h
      obtain ⟨⟨⟨⟨rfl, h0⟩, h1⟩, h2⟩, h3⟩ := h
      exact s_for c.pass c.e.calm (okI_ok n Φ C it c.e h1) (okT_ok n Φ C t c.e h2) (okB_ok n Φ C b c h3) (folded_of h0 _)
    | _ => simp [okS] at h
  | .ret o, st, c, h => by
    cases st with
    | Return v pos =>
      simp only [okS] at h
      split at h
      · exact s_retL (okL_ok n Φ C _ c.e h).1
      · simp only [Bool.and_eq_true, Bool.not_eq_true'] at h
        exact s_ret h.1 (okE_ok n Φ C _ c.e h.2).pe
      · simp only [Bool.and_eq_true, Bool.not_eq_true'] at h
        exact s_retO (c.e.notio h.2) (c.e.nm h.1)
      · simp only [Bool.not_eq_true'] at h
        exact s_retN h
      · cases h
    | _ => simp [okS] at h
  | .brk, st, c, h => by
    cases st with
    | Break pos => exact s_brk
    | _ => simp [okS] at h
  | .cont, st, c, h => by
    cases st with
    | Continue pos => exact s_cont
    | _ => simp [okS] at h
  | .pass, st, c, h => by
    simp only [okS] at h
    split at h
    · exact s_pass
    · exact s_doc
    · cases h
  | .never, st, c, h => s_never
theorem okB_ok (n : Nat) (Φ : Phi) (C : Cc) : ∀ (ss : List S) {sts : List Stmt}, CtxS Tb N io lm n Φ C W sc X → okB Tb N io lm C.fr sc ss sts = true → PSs X sts (tS C W (evS.go Φ ss))
  | [], sts, c, h => by
    cases sts with
    | nil => exact ss_nil
    | cons => simp [okB] at h
  | s :: ss, sts, c, h => by
    have gen : (match (generalizing := false) sts with | [] => false | st :: sts => okS Tb N io lm C.fr sc s st && okB Tb N io lm C.fr sc ss sts) = true → PSs X sts (tS C W (evS.go Φ (s :: ss))) := fun h => by
      cases sts with
      | nil => cases h
      | cons st sts =>
        simp only [Bool.and_eq_true] at h
        exact ss_cons (okS_ok n Φ C s c h.1) (okB_ok n Φ C ss c h.2)
    cases s with
    | frz i =>
      simp only [okB, Bool.and_eq_true, Bool.not_eq_true'] at h
      exact ss_frz (c.e.notio h.1) (okB_ok n Φ C ss c h.2)
    | _ =>
      simp only [okB] at h
      exact gen h
end
end
end Iv
set_option Elab.async false
set_option linter.all false
set_option maxRecDepth 100000
set_option maxHeartbeats 4000000
/-! Iv19: all defs of a text; the law's def; the call of the law. -/
namespace Iv
open PySem PySem.Spec PyProof.Rows L2

/-- a def with its text -/
structure DefI where
  df : Df
  io : List Nat
  params : Arguments
  stmts : List Stmt
  scope : Scope
  /-- it makes lambdas -/
  lam : Bool
/-- what its lambdas are called -/
def DefI.lamQ (F : DefI) : Str := (F.df.name ++ ".<locals>.") ++ "<lambda>"
def DefI.fnT (F : DefI) : FnT := ⟨F.df.name, F.df.ps, F.df.fr⟩
noncomputable def phi (Fs : List DefI) : Nat → Phi
  | 0, _, _ => .stuck
  | n + 1, f, as => match Fs.find? (fun F => F.df.name == f) with
    | some F => runF (phi Fs n) F.df F.io as
    | none => .stuck
def tblOf (Fs : List DefI) (free : List Str) (csts : List (Str × D)) (mods : List (Str × String)) : Tbl := ⟨Fs.map DefI.fnT, free, csts, mods⟩
def scB (N P : List Str) (sc : Scope) : Bool := decide (sc.kind = .function) && !sc.isCoroutine && !sc.isGenerator && decide N.Nodup && decide (N.take P.length = P) && P.all (fun x => locB sc x) && sc.names.all (fun y => decide (y.2 ≠ .free))
theorem scB_ok {N P : List Str} {sc : Scope} (h : scB N P sc = true) : FnScope N P sc := by
  simp only [scB, Bool.and_eq_true, decide_eq_true_eq, Bool.not_eq_true', List.all_eq_true] at h
  obtain ⟨⟨⟨⟨⟨⟨h1, h2⟩, h3⟩, h4⟩, h5⟩, h6⟩, h7⟩ := h
  exact ⟨h1, h2, h3, h4, h5, fun x hx => loc_of' (h6 x hx), fun y hy => h7 y hy⟩
def plainB (p : Arguments) (P : List Str) : Bool := p.posonlyargs.isEmpty && p.kwonlyargs.isEmpty && p.vararg.isNone && p.kwarg.isNone && decide (p.args.map (·.arg) = P)
/-- the text of a def against its meaning -/
def defB (Tb : Tbl) (F : DefI) : Bool := scB F.df.N F.df.ps F.scope && plainB F.params F.df.ps && (F.df.N.all fun y => !(y == ("__debug__" : Str)) && !(y == ("__classdict__" : Str))) && !(F.df.name == ("__debug__" : Str)) && okB Tb F.df.N F.io F.lam F.df.fr F.scope F.df.body F.stmts
section
variable {P : Program} {w : World} {K : PySem.W.Frag} {mg : Str → Option Value} {base : Heap}
abbrev FunI (K : PySem.W.Frag) (F : DefI) (f : Addr) (fd : FuncData) : Prop := FunD K F.df.name F.df.name F.params F.stmts F.scope [] [] f fd
theorem plain_ok {F : DefI} {f : Addr} {fd : FuncData} (h : FunI K F f fd) (hp : plainB F.params F.df.ps = true) : Plain fd F.df.ps ∧ fd.params.args.map (·.arg) = F.df.ps := by
  obtain ⟨oc, od, dV, kV, doc, pm, an, cdv, ct, osl, rfl, lk, hcd, hD, hK⟩ := h.ex
  simp only [plainB, Bool.and_eq_true, decide_eq_true_eq, List.isEmpty_iff, Option.isNone_iff_eq_none] at hp
  obtain ⟨⟨⟨⟨h1, h2⟩, h3⟩, h4⟩, h5⟩ := hp
  rcases hD with ⟨_, rfl⟩ | ⟨e, _⟩
  · refine ⟨⟨?_, h2, h3, h4, rfl⟩, h5⟩
    show F.params.posonlyargs.map (·.arg) ++ F.params.args.map (·.arg) = F.df.ps
    rw [h1, h5]
    rfl
  · exact absurd rfl e
/-- what the module holds -/
structure ModI (Tb : Tbl) (Fs : List DefI) (K : PySem.W.Frag) (mg : Str → Option Value) : Prop where
  fns : ∀ F ∈ Fs, ∃ f fd, FunI K F f fd ∧ mg F.df.name = some (.ref f)
  free : ∀ f ∈ Tb.free, mg f = none
  cst : ∀ p ∈ Tb.csts, (∃ u v, mg p.1 = some u ∧ RelV v u ∧ ∀ H B, Rp K H B v p.2) ∧ (p.1 == ("__debug__" : Str)) = false
  mods : ∀ p ∈ Tb.mods, mg p.1 = some (.builtin p.2) ∧ (p.1 == ("__debug__" : Str)) = false
/-- the tables of the defs that make lambdas: tb has them all -/
def TabI (Fs : List DefI) (K : PySem.W.Frag) (mg : Str → Option Value) (base : Heap) (tb : List (Addr × Str)) : Prop :=
  ∀ F ∈ Fs, F.lam = true → ∀ f fd, FunI K F f fd → mg F.df.name = some (.ref f) → ∃ c P, fd.code = .ref c ∧ LamX.TabB base mg c P ∧ (P, F.lamQ) ∈ tb ∧ ∀ p ∈ tb, p.1 = P → p.2 = F.lamQ
theorem spF_stuck {cl : Str → Option Value} {tb : List (Addr × Str)} {fr : Bool} {φ : List Slot → FR} {vs : List V} {H : Hp} {Q : VK} {E : XK} (hs : ∀ as, φ as = .stuck) (h : spF K cl tb fr φ vs H Q E) : False := by
  obtain ⟨as, Z, ios, _, _, _, _, q⟩ := h
  rw [hs] at q
  exact q
theorem all_ok {Fs : List DefI} {free : List Str} {csts : List (Str × D)} {mods : List (Str × String)} {cl : Str → Option Value} {tb : List (Addr × Str)} (hc : ∀ F ∈ Fs, defB (tblOf Fs free csts mods) F = true) (hn : (Fs.map fun F => F.df.name).Nodup) (M : ModI (tblOf Fs free csts mods) Fs K mg) (TI : TabI Fs K mg base tb) :
    ∀ n, ∀ F ∈ Fs, ∀ f fd, FunI K F f fd → mg F.df.name = some (.ref f) → FnG P w K mg base n f fd F.df.ps (spF K cl tb F.df.fr (phi Fs n F.df.name))
  | 0, F, hF, f, fd, hf, hm => ⟨fun vs H Q E h => (spF_stuck (fun _ => rfl) h).elim, fun A outer s H args us vs Q E _ _ _ _ h => (spF_stuck (fun _ => rfl) h).elim⟩
  | n + 1, F, hF, f, fd, hf, hm => by
    have ih := all_ok (cl := cl) (tb := tb) hc hn M TI n
    have find : Fs.find? (fun G => G.df.name == F.df.name) = some F := by
      clear ih hc M hf TI
      induction Fs with
      | nil => cases hF
      | cons G Gs ihG =>
        obtain ⟨n1, n2⟩ := List.nodup_cons.mp hn
        rcases List.mem_cons.mp hF with q | q
        · subst q
          exact List.find?_cons_of_pos (p := fun G : DefI => G.df.name == F.df.name) (beq_self_eq_true F.df.name)
        · rw [List.find?_cons_of_neg]
          · exact ihG n2 q
          · intro e
            exact n1 (List.mem_map.mpr ⟨F, q, (eq_of_beq e).symm⟩)
    have hphi : phi Fs (n + 1) F.df.name = runF (phi Fs n) F.df F.io := by
      funext as
      rw [phi, find]
    rw [hphi]
    have hd := hc F hF
    simp only [defB, Bool.and_eq_true, Bool.not_eq_true', List.all_eq_true] at hd
    obtain ⟨⟨⟨⟨h1, h2⟩, h3⟩, h4⟩, h5⟩ := hd
    have scp := scB_ok h1
    obtain ⟨oc, od, dV, kV, doc, pm, an, cdv, ct, osl, rfl, lk, hcd, hD, hK⟩ := hf.ex
    have ti := fun h => TI F hF h f _ hf hm
    refine FnG.of lk hcd scp (fun vs H Q E h => spF_len h) fun A outer s H vs Q E room want => ?_
    obtain ⟨C, e1, e2, et, e3, e4, ht⟩ := spF_text want
    subst e1 e2 et
    refine ⟨_, ?_, ht⟩
    have tk : Takes (cxOf (CX P w) P w C.K mg base F.df.N F.df.name F.scope f cdv A outer s H E) (fun cls d _ H => E cls d H) := takes_of rfl rfl rfl rfl
    have ctx : CtxS (tblOf Fs free csts mods) F.df.N F.io F.lam n (phi Fs n) C (fun cls d _ H => E cls d H) F.scope (cxOf (CX P w) P w C.K mg base F.df.N F.df.name F.scope f cdv A outer s H E) := by
      refine ⟨⟨rfl, rfl, rfl, rfl, scp.nd, room.g, tk, fun p hp => ?_, fun g hg => ?_, M.free, M.cst, fun y hy => ⟨loc_of' hy, .inl rfl⟩, fun y hy => ?_, M.mods, fun hl => ?_⟩, scp.kind, passes_of rfl⟩
      · rw [← e4]
        exact List.mem_map.mpr ⟨p, hp, rfl⟩
      · obtain ⟨G, hG, rfl⟩ := List.mem_map.mp hg
        obtain ⟨fg, fdg, k1, k2⟩ := M.fns G hG
        have hd2 := hc G hG
        simp only [defB, Bool.and_eq_true, Bool.not_eq_true'] at hd2
        obtain ⟨p1, p2⟩ := plain_ok k1 hd2.1.1.1.2
        exact ⟨⟨fg, fdg, k2, k1.kp, p1, p2, ih G hG fg fdg k1 k2⟩, hd2.1.2⟩
      · exact h3 y hy
      · obtain ⟨c, P, t1, t2, t3, t4⟩ := ti hl
        exact ⟨⟨c, P, t2, t1, t3, t4⟩, room⟩
    exact okB_ok n (phi Fs n) C F.df.body ctx (by rw [e3]; exact h5)

/-! ### the law -/
theorem rp_ints {H : Hp} {B : Addr → Prop} : ∀ ns : List Int, RpL K H B (ns.map V.int) (ns.map D.int)
  | [] => .nil
  | n :: ns => .cons (.int n) (rp_ints ns)
/-- the law's def tells True -/
theorem law_want {cl : Str → Option Value} {tb : List (Addr × Str)} {φ : List Slot → FR} {H : Hp} {a : Addr} {ns : List Int} (h : φ [.dat (.lst (ns.map D.int))] = .ok (.bl true) []) (ht : LamX.Tabs tb H) (hs : SqL K H a (ns.map V.int)) : spF K cl tb false φ [.ref a] H (fun v _ => v = .bl true) fun _ _ _ => False := by
  refine ⟨[.dat (.lst (ns.map D.int))], fun _ => False, [], ht, fun b z => z.elim, fun b z => (nomatch z), .dat (.lst (hs.imp (fun h => ⟨h, fun z => z.elim id fun z => (nomatch z)⟩) id) (rp_ints ns)) .nil, ?_⟩
  rw [h]
  intro v H' _ _ r
  cases r.1
  rfl
/-- the call of the law's def behind the top; cs: code objects and their tables -/
theorem law_run {mb : Str → Option Value} {k : Nat} {fa a : Addr} {cs : List (Addr × Addr)} {fd : FuncData} {x : Str} {sp : Sp} {s₁ : Shared} {vs : List Value} {ns : List Int} (kin : K.In s₁.heap) (hns : s₁.heap.Ns mainGlobals mg) (hb : s₁.heap.Ns builtinsNs mb)
    (hbb : ∀ x : Str, x ≠ "__name__" → mb x = bootBuiltins x) (hlim : s₁.heap.NoLimit) (hg : s₁.gens = #[])
    (tabs : ∀ p ∈ cs, s₁.heap.get? p.2 = some (PySem.W.tabObj #[]) ∧ K.lookup p.2 = none ∧ PySem.W.CodeHd s₁.heap p.1 p.2)
    (hbm : ∃ (bm : Addr) (ob : Obj), mg "__builtins__" = some (.ref bm) ∧ bm ≠ builtinsNs ∧ s₁.heap.get? bm = some ob ∧ ob.cls = .type "module" ∧ ob.dict = some builtinsNs ∧ ob.data = .plain)
    (ha : s₁.heap.get? a = some { cls := .type "list", data := .seq vs.toArray }) (hi : IntsAre vs ns) (hl : ns.length ≤ sizeLine) (hr : RoomG k callerA)
    (F : ∀ base : Heap, K.In base → base.Ns mainGlobals mg → (∀ p ∈ cs, LamX.TabB base mg p.1 p.2) → FnG P w K mg base k fa fd [x] sp) (bound : ∀ (s : Shared) (u : Value), BindsTo s fd ⟨[u], []⟩ [(x, u)])
    (want : ∀ H : Hp, (∀ p ∈ cs, H p.2 = some (.tbl #[])) → SqL K H a (ns.map V.int) → sp [.ref a] H (fun v _ => v = .bl true) fun _ _ _ => False) :
    codeAny (model P w) callerA (.call (.ref fa) ⟨[.ref a], []⟩) (fun r s' => r = .ok (.ret (.bool true)) ∧ OldK s₁.heap s'.heap ∧ s'.os = s₁.os ∧ AllBare s'.gens) s₁ := by
  have rel := vals_ints hi
  have count := hi.length
  have apart : ∀ p ∈ cs, p.2 ≠ a := fun p hp z => by
    have e := (tabs p hp).1
    rw [z, ha] at e
    cases e
  -- what is tracked: the tables, and the script, if it is no written part
  suffices go : ∀ H : Hp, SqL K H a (ns.map V.int) → HOk P w H s₁.heap → (∀ p ∈ cs, H p.2 = some (.tbl #[])) → (∀ b u, H b = some u → (b = a ∧ K.lookup a = none ∧ u = .frz { cls := .type "list", data := .seq vs.toArray } (.lst (ns.map V.int))) ∨ ∃ p ∈ cs, p.2 = b ∧ u = .tbl #[]) →
      codeAny (model P w) callerA (.call (.ref fa) ⟨[.ref a], []⟩) (fun r s' => r = .ok (.ret (.bool true)) ∧ OldK s₁.heap s'.heap ∧ s'.os = s₁.os ∧ AllBare s'.gens) s₁ by
    let T : Hp := fun b => if b ∈ cs.map (·.2) then some (.tbl #[]) else none
    have tIn : ∀ p ∈ cs, T p.2 = some (.tbl #[]) := fun p hp => if_pos (List.mem_map.mpr ⟨p, hp, rfl⟩)
    have tOf : ∀ b u, T b = some u → ∃ p ∈ cs, p.2 = b ∧ u = .tbl #[] := fun b u z => by
      by_cases q : b ∈ cs.map (·.2)
      · have e : T b = some (.tbl #[]) := if_pos q
        rw [e] at z
        obtain ⟨p, hp, hb⟩ := List.mem_map.mp q
        exact ⟨p, hp, hb, (Option.some.inj z).symm⟩
      · have e : T b = none := if_neg q
        rw [e] at z
        cases z
    cases hk : K.lookup a with
    | some o =>
      have q := kin a o hk
      rw [ha] at q
      cases q
      refine go T (.inr ⟨_, vs.toArray, _, hk, rfl, rfl, rfl, by rw [List.size_toArray, count]; exact hl, rel⟩) (fun b u z => ?_) tIn fun b u z => .inr (tOf b u z)
      obtain ⟨p, hp, rfl, rfl⟩ := tOf b u z
      exact (tabs p hp).1
    | none =>
      let H1 : Hp := fun b => if b = a then some (.frz { cls := .type "list", data := .seq vs.toArray } (.lst (ns.map V.int))) else T b
      have at_a : H1 a = some (.frz { cls := .type "list", data := .seq vs.toArray } (.lst (ns.map V.int))) := if_pos rfl
      have off : ∀ b, b ≠ a → H1 b = T b := fun b n => if_neg n
      have only : ∀ b u, H1 b = some u → (b = a ∧ u = .frz { cls := .type "list", data := .seq vs.toArray } (.lst (ns.map V.int))) ∨ ∃ p ∈ cs, p.2 = b ∧ u = .tbl #[] := fun b u z => by
        by_cases q : b = a
        · subst q
          rw [at_a] at z
          exact .inl ⟨rfl, (Option.some.inj z).symm⟩
        · rw [off b q] at z
          exact .inr (tOf b u z)
      refine go H1 (.inl (.inr ⟨_, at_a⟩)) (fun b u z => ?_) (fun p hp => (off _ (apart p hp)).trans (tIn p hp)) fun b u z => (only b u z).imp (fun z => ⟨z.1, hk, z.2⟩) id
      rcases only b u z with ⟨rfl, rfl⟩ | ⟨p, hp, rfl, rfl⟩
      · exact ⟨ha, by rw [List.length_map]; exact hl, vs, _, rel, ha⟩
      · exact (tabs p hp).1
  intro H seq hok inT only
  have hid : ∀ {b : Addr} {o : Obj}, s₁.heap.get? b = some o → (b = a → K.lookup a = none → False) → (∀ p ∈ cs, p.2 ≠ b) → (hidT s₁.heap H).get? b = some o := fun {b o} e n m => hidT_get e (by
    cases q : H b with
    | none => rfl
    | some u =>
      rcases only b u q with ⟨q1, q2, _⟩ | ⟨p, hp, q1, _⟩
      · exact (n q1 q2).elim
      · exact (m p hp q1).elim)
  -- an object that is neither a list nor an empty table
  have free : ∀ {b : Addr} {o : Obj}, s₁.heap.get? b = some o → o.data ≠ .seq vs.toArray 0 → o.data ≠ .fields #[] → (hidT s₁.heap H).get? b = some o := fun {b o} e n1 n2 => hid e (fun z _ => by
    rw [z, ha] at e
    cases e
    exact n1 rfl) fun p hp z => by
    rw [← z, (tabs p hp).1] at e
    cases e
    exact n2 rfl
  have dict : ∀ {b : Addr} {m : Str → Option Value}, s₁.heap.Ns b m → (hidT s₁.heap H).Ns b m := fun {b m} ⟨o, es, ep, e, d, r⟩ => ⟨o, es, ep, free e (by rw [d]; exact fun z => by cases z) (by rw [d]; exact fun z => by cases z), d, r⟩
  have kin' : K.In (hidT s₁.heap H) := fun b o e => hid (kin b o e) (fun q q2 => by
    subst q
    rw [q2] at e
    cases e) fun p hp z => by
    rw [← z, (tabs p hp).2.1] at e
    cases e
  have module : Mod K mg (hidT s₁.heap H) := ⟨kin', dict hns, ⟨mb, dict hb, hbb⟩, let ⟨mc, h1, h2⟩ := hlim; ⟨mc, dict h1, h2⟩⟩
  have env : Env0 P w K mg (hidT s₁.heap H) callerA [] s₁ H := ⟨rfl, module, fun b o e => of_hidT e, Nat.le_of_eq (hidT_size _ _), trivial, fun b z => (nomatch z), hok, .of_eq hg⟩
  have made : ∀ p ∈ cs, LamX.TabB (hidT s₁.heap H) mg p.1 p.2 := fun p hp => by
    obtain ⟨tp, _, o, us, file, tf, fl, tg, fr, tx, tt, k1, k2, k3, k4, k5⟩ := tabs p hp
    obtain ⟨bm, ob, b1, b2, b3, b4, b5, b6⟩ := hbm
    have nG : mainGlobals ≠ p.2 := fun z => by
      obtain ⟨o, es, ep, e, hd, _⟩ := hns
      rw [z, tp] at e
      cases e
      cases hd
    refine ⟨⟨o, us, file, tf, fl, tg, fr, tx, tt, free k1 (by rw [k3]; exact fun z => by cases z) (fun z => ?_), k2, k3, k4, k5⟩, ⟨bm, ob, b1, b2, fun z => ?_, fun z => ?_, free b3 (by rw [b6]; exact fun z => by cases z) (by rw [b6]; exact fun z => by cases z), b4, b5, b6⟩, nG⟩
    · rw [k3] at z
      cases z
      simp at k4
    · obtain ⟨o, es, ep, e, hd, _⟩ := hns
      rw [z, e] at b3
      cases b3
      rw [hd] at b6
      cases b6
    · rw [z, tp] at b3
      cases b3
      cases b6
  refine codeAny_mono ((F _ kin' (dict hns) made).run callerA [] s₁ H ⟨[.ref a], []⟩ [.ref a] [.ref a] _ _ hr env (bound s₁ (.ref a)) (.cons rfl .nil) (want H inT seq)) fun r s' ended => ?_
  cases r with
  | error e =>
    obtain ⟨_, _, _, _, _, _, _, _, _, _, _, _, z⟩ := ended
    exact z.elim
  | ok fl =>
    cases fl with
    | next => exact ended.elim
    | brk => exact ended.elim
    | cont => exact ended.elim
    | ret u =>
      obtain ⟨v, H', os, bare, un, hok', rv, told⟩ := ended
      have told : v = .bl true := told
      subst told
      cases rv
      have same : ∀ b o, (∀ p ∈ cs, p.2 ≠ b) → s₁.heap.get? b = some o → s'.heap.get? b = some o := fun b o m e => by
        cases q : H b with
        | none => exact un.keep b o e q (fun z => by cases z) (fun z => by cases z)
        | some u =>
          rcases only b u q with ⟨rfl, _, rfl⟩ | ⟨p, hp, z, _⟩
          · have e1 := (hok b _ q).1
            have e2 := (hok' b _ (un.frzs b _ _ q)).1
            rw [e] at e1
            cases e1
            exact e2
          · exact (m p hp z).elim
      have more : ∀ p ∈ cs, ∃ ps : Array Value, s'.heap.get? p.2 = some (PySem.W.tabObj ps) := fun p hp => by
        obtain ⟨ps, z⟩ := un.tbls p.2 #[] (inT p hp)
        exact ⟨_, hok' p.2 _ z⟩
      refine ⟨rfl, ⟨fun b o e => ?_, fun b o e => ?_⟩, os, bare⟩
      · by_cases m : ∃ p ∈ cs, p.2 = b
        · obtain ⟨p, hp, rfl⟩ := m
          obtain ⟨ps, hps⟩ := more p hp
          obtain ⟨tp, _, cd⟩ := tabs p hp
          rw [tp] at e
          cases e
          exact .inr (.inl ⟨(cd.tab tp).isCodeTable, rfl, #[], ps, rfl, by rw [Array.empty_append]; exact hps⟩)
        · exact .inl (same b o (fun p hp z => m ⟨p, hp, z⟩) e)
      · by_cases m : ∃ p ∈ cs, p.2 = b
        · obtain ⟨p, hp, rfl⟩ := m
          obtain ⟨ps, hps⟩ := more p hp
          exact ⟨_, hps⟩
        · exact ⟨o, same b o (fun p hp z => m ⟨p, hp, z⟩) e⟩
end
/-- a law: the written part, the law's def, its promise -/
theorem walk_g {l : PySem.W.OpenLaw} {n k : Nat} {q : Program} {loose : List Str} {XP : (Str → Option Value) → Heap → Prop} {YP : World → Heap → Prop} {d : DefRec} {x : Str}
    (hn : l.most = some n) (hn2 : n ≤ sizeLine) (hdf : d.params.defaults = []) (hr : RoomG k callerA)
    (F : ∀ (w : World) (mg : Str → Option Value) (fa : Addr) (h : Heap), YP w h → h.Ns mainGlobals mg → mg d.name = some (.ref fa) →
      ∃ (K : PySem.W.Frag) (cs : List (Addr × Addr)) (fd : FuncData) (sp : Sp), K.In h ∧ (∀ p ∈ cs, h.get? p.2 = some (PySem.W.tabObj #[]) ∧ K.lookup p.2 = none ∧ PySem.W.CodeHd h p.1 p.2) ∧ (∀ (s : Shared) (u : Value), BindsTo s fd ⟨[u], []⟩ [(x, u)]) ∧
        (∀ (H : Hp) (a : Addr) (ns : List Int), ns.length ≤ n → (∀ p ∈ cs, H p.2 = some (.tbl #[])) → SqL K H a (ns.map V.int) → sp [.ref a] H (fun v _ => v = .bl true) fun _ _ _ => False) ∧
        ∀ base : Heap, K.In base → base.Ns mainGlobals mg → (∀ p ∈ cs, LamX.TabB base mg p.1 p.2) → FnG l.prog w K mg base k fa fd [x] sp) :
    PySem.W.WalkO q loose XP YP l.row.toRowW d [] (fun f vs => PySem.call f vs) := by
  apply Att.attach_call hn hdf
  intro w s₀ s₁ mg mb fa o pm cd doc a vs ns G Y ho hd hcd hmg hobj hints hlen hg
  obtain ⟨K, cs, fd, sp, kin, tabs, bound, want, keeps⟩ := F w mg fa _ Y G.T.g hmg
  exact law_run kin G.T.g G.T.b G.T.builtins G.T.nolimit hg tabs G.T.bmain hobj hints (Nat.le_trans hlen hn2) hr keeps bound fun H hT hs => want H a ns hlen hT hs
end Iv
set_option Elab.async false
set_option linter.all false
set_option maxRecDepth 100000
set_option maxHeartbeats 4000000
/-! Iv20: the head's facts of all defs. -/
namespace Iv
open PySem PySem.Spec PyProof.Rows L2

def DefI.defD (F : DefI) : He.DefD := ⟨(F.df.name, none), F.df.name, F.df.name, F.params, F.stmts, F.scope, [], []⟩
def faOf (Fs : List DefI) (free : List Str) : List He.Fa := Fs.map (fun F => He.Fa.glo F.df.name) ++ free.map He.Fa.free
/-! ### constants of the module, its names for built-in functions -/
mutual
def repB (K : PySem.W.Frag) : D → Value → Bool
  | .non, u => (match u with
    | .none => true
    | _ => false)
  | .bl b, u => (match u with
    | .bool c => b == c
    | _ => false)
  | .int i, u => (match u with
    | .int j _ => decide (i = j)
    | _ => false)
  | .str x, u => (match u with
    | .str y _ => decide (x = y)
    | _ => false)
  | .tup ds, u => (match u with
    | .ref a => (match K.lookup a with
      | some o => (match o.cls, o.data with
        | .type c, .seq its _ => decide (c = "tuple") && (decide (its.size ≤ sizeLine) && repL K ds its.toList)
        | _, _ => false)
      | none => false)
    | _ => false)
  | .lst _, _ => false
  | .emp, _ => false
def repL (K : PySem.W.Frag) : List D → List Value → Bool
  | [], us => us.isEmpty
  | d :: ds, us => (match us with
    | [] => false
    | u :: us => repB K d u && repL K ds us)
end
mutual
theorem repB_ok {K : PySem.W.Frag} : ∀ {d : D} {u : Value}, repB K d u = true → ∃ v, RelV v u ∧ ∀ H B, Rp K H B v d
  | .non, u, h => by
    cases u with
    | none => exact ⟨.non, rfl, fun _ _ => .non⟩
    | _ => simp [repB] at h
  | .bl b, u, h => by
    cases u with
    | bool c =>
      simp only [repB] at h
      exact ⟨.bl b, by rw [eq_of_beq h]; rfl, fun _ _ => .bl b⟩
    | _ => simp [repB] at h
  | .int i, u, h => by
    cases u with
    | int j t =>
      simp only [repB] at h
      rw [← of_decide_eq_true h]
      exact ⟨.int i, ⟨t, rfl⟩, fun _ _ => .int i⟩
    | _ => simp [repB] at h
  | .str x, u, h => by
    cases u with
    | str y t =>
      simp only [repB] at h
      rw [← of_decide_eq_true h]
      exact ⟨.str x, ⟨t, rfl⟩, fun _ _ => .str x⟩
    | _ => simp [repB] at h
  | .tup ds, u, h => by
    cases u with
    | ref a =>
      simp only [repB] at h
      split at h
      · rename_i o ho
        split at h
        · rename_i c its n hc hd
          simp only [Bool.and_eq_true, decide_eq_true_eq] at h
          obtain ⟨rfl, h2, h3⟩ := h
          obtain ⟨vs, r1, r2⟩ := repL_ok h3
          exact ⟨.ref a, rfl, fun H B => .tup (.inr ⟨o, its, n, ho, hc, hd, h2, r1⟩) (r2 H B)⟩
        · cases h
      · cases h
    | _ => simp [repB] at h
  | .lst ds, u, h => by simp only [repB] at h; cases h
  | .emp, u, h => by simp only [repB] at h; cases h
theorem repL_ok {K : PySem.W.Frag} : ∀ {ds : List D} {us : List Value}, repL K ds us = true → ∃ vs, Vals vs us ∧ ∀ H B, RpL K H B vs ds
  | [], us, h => by
    simp only [repL, List.isEmpty_iff] at h
    subst h
    exact ⟨[], .nil, fun _ _ => .nil⟩
  | d :: ds, us, h => by
    cases us with
    | nil => simp only [repL] at h; cases h
    | cons u us =>
      simp only [repL, Bool.and_eq_true] at h
      obtain ⟨v, r1, r2⟩ := repB_ok h.1
      obtain ⟨vs, r3, r4⟩ := repL_ok h.2
      exact ⟨v :: vs, .cons r1 r3, fun H B => .cons (r2 H B) (r4 H B)⟩
end
def dbgB (x : Str) : Bool := !(x == ("__debug__" : Str))
def cstK (K : PySem.W.Frag) (p : Str × D) : Bool := dbgB p.1 && (match PySem.W.nsIn K mainGlobals p.1 with
  | some (some u) => repB K p.2 u
  | _ => false)
def modK (K : PySem.W.Frag) (p : Str × String) : Bool := dbgB p.1 && decide (PySem.W.nsIn K mainGlobals p.1 = some (some (.builtin p.2)))
def exF (csts : List (Str × D)) (mods : List (Str × String)) (K : PySem.W.Frag) : Bool := csts.all (cstK K) && mods.all (modK K)
/-! ### what is looked at: the defs, their code objects, the constants -/
def adN (g : Addr → Option Obj) (xs : List Str) : List Addr := match g mainGlobals with
  | some ⟨_, _, .dict es _, _⟩ => xs.filterMap fun x => (match es.toList.find? (·.key.isStr x) with
    | some e => (match e.val with
      | .ref a => some a
      | _ => none)
    | none => none)
  | _ => []
def refL : Option Obj → List Addr
  | some ⟨_, _, .func fd, _⟩ => He.refV fd.code
  | some ⟨_, _, .seq its _, _⟩ => its.toList.flatMap He.refV
  | _ => []
def asL (g : Addr → Option Obj) (xs : List Str) : List Addr :=
  let a1 := adN g xs
  let a2 := a1.flatMap fun a => refL (g a)
  mainGlobals :: (a1 ++ a2 ++ a2.flatMap fun a => refL (g a))
/-! ### tables of code objects -/
def lamsOf (Fs : List DefI) : List DefI := Fs.filter (·.lam)
def tbOf (Fs : List DefI) (K : PySem.W.Frag) : List (Addr × Str) := (lamsOf Fs).filterMap fun F => (PySem.W.tabIn K F.df.name).map fun cp => (cp.2, F.lamQ)
def csOf (Fs : List DefI) (K : PySem.W.Frag) : List (Addr × Addr) := (lamsOf Fs).filterMap fun F => PySem.W.tabIn K F.df.name
def tabsK (Fs : List DefI) (K : PySem.W.Frag) : Bool := ((lamsOf Fs).all fun F => match PySem.W.tabIn K F.df.name with
  | some (c, P) => PySem.W.codeHdIn K c P && (K.lookup P).isNone
  | none => false) && (tbOf Fs K).all fun p => (tbOf Fs K).all fun q => !(p.1 == q.1) || p.2 == q.2
def noRows : Option Obj → Bool
  | some ⟨.none, none, .fields vs, sl⟩ => vs.isEmpty && sl.isEmpty
  | _ => false
theorem noRows_ok {o : Option Obj} (h : noRows o = true) : o = some (PySem.W.tabObj #[]) := by
  unfold noRows at h
  split at h
  · rw [Bool.and_eq_true, Array.isEmpty_iff, Array.isEmpty_iff] at h
    obtain ⟨rfl, rfl⟩ := h
    rfl
  · cases h
def tabsG (g : Addr → Option Obj) (Fs : List DefI) (K : PySem.W.Frag) : Bool := (csOf Fs K).all fun p => noRows (g p.2)
/-! ### the hook -/
abbrev AlI : Type := He.AlD × Bool
def nmsOf (Fs : List DefI) (csts : List (Str × D)) : List Str := (Fs.map fun F => F.df.name) ++ csts.map (·.1)
def obsL (Fs : List DefI) (free : List Str) (csts : List (Str × D)) (mods : List (Str × String)) (g : Addr → Option Obj) : AlI :=
  let K := He.frG g (asL g (nmsOf Fs csts))
  (He.obsD (faOf Fs free) (Fs.map DefI.defD) K, exF csts mods K && (tabsK Fs K && tabsG g Fs K))
structure SaysI (Fs : List DefI) (free : List Str) (csts : List (Str × D)) (mods : List (Str × String)) (h : Heap) (K : PySem.W.Frag) : Prop where
  kin : K.In h
  d : He.SaysD (faOf Fs free) (Fs.map DefI.defD) K
  ex : exF csts mods K = true
  tk : tabsK Fs K = true
  tg : ∀ p ∈ csOf Fs K, h.get? p.2 = some (PySem.W.tabObj #[])
def hookI (Fs : List DefI) (free : List Str) (csts : List (Str × D)) (mods : List (Str × String)) : PySem.W.Hook where
  α := AlI
  obs := fun s => obsL Fs free csts mods s.heap.get?
  val := fun _ => (He.valD (Fs.map DefI.defD), true)
  says := fun _ h => ∃ K, SaysI Fs free csts mods h K
  of := fun _ s e => by
    have e2 : (exF csts mods _ && (tabsK Fs _ && tabsG s.heap.get? Fs _)) = true := congrArg (fun z : AlI => z.2) e
    rw [Bool.and_eq_true, Bool.and_eq_true] at e2
    exact ⟨_, He.frG_in, congrArg (fun z : AlI => z.1) e, e2.1, e2.2.1, fun p hp => noRows_ok (List.all_eq_true.mp e2.2.2 p hp)⟩
  keeps := fun _ _ _ ⟨K, c⟩ k => ⟨K, PySem.W.Frag.In.keeps c.kin k, c.d, c.ex, c.tk, fun p hp => k _ _ (c.tg p hp)⟩
def obsI (Fs : List DefI) (free : List Str) (csts : List (Str × D)) (mods : List (Str × String)) (s : PySem.W.SharedT) : AlI := obsL Fs free csts mods (HandSHeadRun.getT s)
theorem obsI_eq {Fs : List DefI} {free : List Str} {csts : List (Str × D)} {mods : List (Str × String)} (s : PySem.W.SharedT) : obsI Fs free csts mods s = (hookI Fs free csts mods).obs s.abs := by
  have e : HandSHeadRun.getT s = s.abs.heap.get? := funext (HandSHeadRun.getT_eq s)
  unfold obsI
  rw [e]
  rfl
theorem modI_of {Fs : List DefI} {free : List Str} {csts : List (Str × D)} {mods : List (Str × String)} {K : PySem.W.Frag} {h : Heap} {mg : Str → Option Value} (X : K.In h) (G : h.Ns mainGlobals mg) (c : He.SaysD (faOf Fs free) (Fs.map DefI.defD) K) (hx : exF csts mods K = true) : ModI (tblOf Fs free csts mods) Fs K mg := by
  have fact : ∀ f ∈ faOf Fs free, f.ok K = true := fun f hf => by
    obtain ⟨i, hi⟩ := List.getElem?_of_mem hf
    exact c.fact i hi
  rw [exF, Bool.and_eq_true, List.all_eq_true, List.all_eq_true] at hx
  refine ⟨fun F hF => ?_, fun f hf => ?_, fun p hp => ?_, fun p hp => ?_⟩
  · have hm : F.defD ∈ Fs.map DefI.defD := List.mem_map.mpr ⟨F, hF, rfl⟩
    obtain ⟨i, hi⟩ := List.getElem?_of_mem hm
    obtain ⟨fd, hfd⟩ := c.def_ i hi
    have g := He.glo_ok X G (fact (.glo F.df.name) (List.mem_append_left _ (List.mem_map.mpr ⟨F, hF, rfl⟩)))
    exact ⟨_, fd, hfd, g⟩
  · exact He.free_ok X G (fact (.free f) (List.mem_append_right _ (List.mem_map.mpr ⟨f, hf, rfl⟩)))
  · have hb := hx.1 p hp
    simp only [cstK, dbgB, Bool.and_eq_true, Bool.not_eq_true'] at hb
    refine ⟨?_, hb.1⟩
    have k := hb.2
    split at k
    · rename_i u hu
      obtain ⟨v, r1, r2⟩ := repB_ok k
      exact ⟨u, v, PySem.W.mg_of X G hu, r1, r2⟩
    · cases k
  · have hb := hx.2 p hp
    simp only [modK, dbgB, Bool.and_eq_true, Bool.not_eq_true', decide_eq_true_eq] at hb
    exact ⟨PySem.W.mg_of X G hb.2, hb.1⟩
theorem tabs_at {Fs : List DefI} {free : List Str} {csts : List (Str × D)} {mods : List (Str × String)} {K : PySem.W.Frag} {h : Heap} (c : SaysI Fs free csts mods h K) : ∀ p ∈ csOf Fs K, h.get? p.2 = some (PySem.W.tabObj #[]) ∧ K.lookup p.2 = none ∧ PySem.W.CodeHd h p.1 p.2 := fun p hp => by
  refine ⟨c.tg p hp, ?_⟩
  obtain ⟨F, hF, e⟩ := List.mem_filterMap.mp hp
  have tk := c.tk
  rw [tabsK, Bool.and_eq_true] at tk
  have t1 := List.all_eq_true.mp tk.1 F hF
  obtain ⟨cc, P⟩ := p
  simp only [e, Bool.and_eq_true, Option.isNone_iff_eq_none] at t1
  exact ⟨t1.2, PySem.W.codeHd_of_K c.kin t1.1⟩
theorem tabI_of {Fs : List DefI} {free : List Str} {csts : List (Str × D)} {mods : List (Str × String)} {K : PySem.W.Frag} {h base : Heap} {mg : Str → Option Value} (c : SaysI Fs free csts mods h K) (G : h.Ns mainGlobals mg) (tb : ∀ p ∈ csOf Fs K, LamX.TabB base mg p.1 p.2) : TabI Fs K mg base (tbOf Fs K) := fun F hF hl f fd hf hm => by
  have hF' : F ∈ lamsOf Fs := List.mem_filter.mpr ⟨hF, hl⟩
  have tk := c.tk
  rw [tabsK, Bool.and_eq_true] at tk
  have t1 := List.all_eq_true.mp tk.1 F hF'
  cases e : PySem.W.tabIn K F.df.name with
  | none => simp [e] at t1
  | some cp =>
    obtain ⟨cc, P⟩ := cp
    have hcs : (cc, P) ∈ csOf Fs K := List.mem_filterMap.mpr ⟨F, hF', e⟩
    have htb : (P, F.lamQ) ∈ tbOf Fs K := List.mem_filterMap.mpr ⟨F, hF', by rw [e]; rfl⟩
    obtain ⟨oc, od, dV, kV, doc, pm, an, cdv, ct, osl, rfl, lk, hcd, hD, hK⟩ := hf.ex
    refine ⟨cc, P, PySem.W.law_code c.kin G e hm (c.kin _ _ lk) rfl, tb _ hcs, htb, fun p hp hpP => ?_⟩
    have t2 := List.all_eq_true.mp (List.all_eq_true.mp tk.2 p hp) _ htb
    simp only [Bool.or_eq_true, Bool.not_eq_true', beq_eq_false_iff_ne, beq_iff_eq] at t2
    exact t2.resolve_left fun z => z hpP
/-- the law, from the plain law: F the law's def, told by the level m -/
theorem law_g {l : PySem.W.OpenLaw} {n m : Nat} {q : Program} {loose : List Str} {XP : (Str → Option Value) → Heap → Prop} {d : DefRec} {Fs : List DefI} {free : List Str} {csts : List (Str × D)} {mods : List (Str × String)} {F : DefI}
    (hn : l.most = some n) (hn2 : n ≤ sizeLine) (hdf : d.params.defaults = []) (hr : RoomG m callerA) (hc : ∀ F ∈ Fs, defB (tblOf Fs free csts mods) F = true) (hnd : (Fs.map fun F => F.df.name).Nodup)
    (hF : F ∈ Fs) (hname : d.name = F.df.name) (hfr : F.df.fr = false) (hps : F.df.ps = [("script" : Str)])
    (plain : ∀ ns : List Int, ns.length ≤ n → phi Fs m F.df.name [.dat (.lst (ns.map D.int))] = .ok (.bl true) []) :
    PySem.W.WalkO q loose XP (hookI Fs free csts mods).says l.row.toRowW d [] (fun f vs => PySem.call f vs) := by
  apply walk_g (k := m) (x := "script") hn hn2 hdf hr
  rintro w mg fa h ⟨K, c⟩ G hmg
  have M := modI_of c.kin G c.d c.ex
  obtain ⟨f, fd, hfd, hg⟩ := M.fns F hF
  rw [hname, hg] at hmg
  cases hmg
  have hd := hc F hF
  simp only [defB, Bool.and_eq_true] at hd
  obtain ⟨p1, p2⟩ := plain_ok hfd hd.1.1.1.2
  refine ⟨K, csOf Fs K, fd, spF K (fun _ => none) (tbOf Fs K) false (phi Fs m F.df.name), c.kin, tabs_at c, fun s u => .of_eq ?_, fun H a ns hl hT hs => law_want (plain ns hl) (fun p hp => ?_) hs, fun base hk hns made => ?_⟩
  · have nd : F.df.ps.Nodup := by
      rw [hps]
      exact List.nodup_cons.mpr ⟨by simp, List.nodup_nil⟩
    have b := bind_pos (us := [u]) p1 nd (by rw [hps]; rfl)
    rw [hps] at b
    exact b
  · obtain ⟨F2, hF2, e⟩ := List.mem_filterMap.mp hp
    cases e2 : PySem.W.tabIn K F2.df.name with
    | none =>
      rw [e2] at e
      cases e
    | some cp =>
      rw [e2] at e
      cases e
      exact LamX.TabS.nil (hT cp (List.mem_filterMap.mpr ⟨F2, hF2, e2⟩))
  · have := all_ok (P := l.prog) (w := w) (base := base) (cl := fun _ => none) (tb := tbOf Fs K) hc hnd M (tabI_of c G made) m F hF _ fd hfd hg
    rw [hfr, hps] at this
    exact this
end Iv
set_option Elab.async false
set_option linter.all false
set_option maxRecDepth 100000
set_option maxHeartbeats 1000000
/-! Iw1: the evaluator, step by step, for simp: each equation at a written-out environment. -/
namespace Iv
open PySem PySem.Spec PyProof.Rows L2

section
variable {α β : Type}
@[simp] theorem bind_ok_ (a : α) (ρ : Env) (k : α → Env → R β) : (R.ok a ρ).bind k = k a ρ := rfl
@[simp] theorem bind_exc_ (c : Str) (p : List (Str × D)) (ρ : Env) (k : α → Env → R β) : (R.exc c p ρ).bind k = .exc c p ρ := rfl
@[simp] theorem bind_stuck_ (k : α → Env → R β) : (R.stuck : R α).bind k = .stuck := rfl
@[simp] theorem seq_ok_ (a : α) (ρ : Env) (k : α → Env → SR) : (R.ok a ρ).seq k = k a ρ := rfl
@[simp] theorem seq_exc_ (c : Str) (p : List (Str × D)) (ρ : Env) (k : α → Env → SR) : (R.exc c p ρ : R α).seq k = .exc c p ρ := rfl
@[simp] theorem sseq_nx (ρ : Env) (k : Env → SR) : (SR.nx ρ).seq k = k ρ := rfl
@[simp] theorem sseq_rt (d : D) (ρ : Env) (k : Env → SR) : (SR.rt d ρ).seq k = .rt d ρ := rfl
@[simp] theorem sseq_bk (ρ : Env) (k : Env → SR) : (SR.bk ρ).seq k = .bk ρ := rfl
@[simp] theorem sseq_ct (ρ : Env) (k : Env → SR) : (SR.ct ρ).seq k = .ct ρ := rfl
@[simp] theorem ofO_some (a : α) (ρ : Env) : R.ofO (some a) ρ = .ok a ρ := rfl
@[simp] theorem noExc_ok_ (a : α) (ρ : Env) : noExc (R.ok a ρ) = .ok a ρ := rfl
end
section
variable {Φ : Phi} (s : Slot) (ρ : Env)
/-- slot by slot -/
def getD_ (ρ : Env) (i : Nat) : R D := match ρ[i]? with
  | some (.dat d) => .ok d ρ
  | _ => .stuck
@[simp] theorem evE_var (i : Nat) : evE Φ (.var i) (s :: ρ) = (match (s :: ρ)[i]? with | some (.dat d) => .ok d (s :: ρ) | _ => .stuck) := by (simp only [evE]) <;> rfl
@[simp] theorem evE_cst (d : D) : evE Φ (.cst d) (s :: ρ) = .ok d (s :: ρ) := by (simp only [evE]) <;> rfl
@[simp] theorem evE_glb (x : Str) (d : D) : evE Φ (.glb x d) (s :: ρ) = .ok d (s :: ρ) := by (simp only [evE]) <;> rfl
def primK (p : Prim) (xs : List (Sum D Nat)) (ρ : Env) : R D := match resOs ρ xs with
  | some ds => R.ofO (prim p ds) ρ
  | none => .stuck
@[simp] theorem evE_prim (p : Prim) (os : List O) : evE Φ (.prim p os) (s :: ρ) = (evOs Φ os (s :: ρ)).bind (primK p) := by
  simp only [evE]
  rfl
@[simp] theorem primK_ (p : Prim) (xs : List (Sum D Nat)) : primK p xs (s :: ρ) = (match resOs (s :: ρ) xs with | some ds => R.ofO (prim p ds) (s :: ρ) | none => .stuck) := rfl
@[simp] theorem evE_chain (p q : Prim) (a b c : E) : evE Φ (.chain p q a b c) (s :: ρ) = (evE Φ a (s :: ρ)).bind fun x ρ1 => (evE Φ b ρ1).bind fun y ρ2 => match prim p [x, y] with
    | some (.bl true) => (evE Φ c ρ2).bind fun z ρ3 => R.ofO (prim q [y, z]) ρ3
    | some (.bl false) => .ok (.bl false) ρ2
    | _ => .stuck := by (simp only [evE]) <;> rfl
@[simp] theorem evE_and (a b : E) : evE Φ (.and a b) (s :: ρ) = (evE Φ a (s :: ρ)).bind fun x ρ1 => match truth x with
    | some true => evE Φ b ρ1
    | some false => .ok x ρ1
    | none => .stuck := by (simp only [evE]) <;> rfl
@[simp] theorem evE_or (a b : E) : evE Φ (.or a b) (s :: ρ) = (evE Φ a (s :: ρ)).bind fun x ρ1 => match truth x with
    | some true => .ok x ρ1
    | some false => evE Φ b ρ1
    | none => .stuck := by (simp only [evE]) <;> rfl
@[simp] theorem evE_not (a : E) : evE Φ (.not a) (s :: ρ) = (evE Φ a (s :: ρ)).bind fun x ρ1 => match truth x with
    | some c => .ok (.bl (!c)) ρ1
    | none => .stuck := by (simp only [evE]) <;> rfl
@[simp] theorem evE_meth (p : Prim) (o : O) (os : List O) : evE Φ (.meth p o os) (s :: ρ) = (evO Φ o (s :: ρ)).bind fun x ρ1 => if recvOk p x then (evOs Φ os ρ1).bind fun vs ρ2 => primK p (x :: vs) ρ2 else .stuck := by
  simp only [evE]
  rfl
@[simp] theorem evE_ite (c a b : E) : evE Φ (.ite c a b) (s :: ρ) = (evC Φ c (s :: ρ)).bind fun k ρ1 => if k then evE Φ a ρ1 else evE Φ b ρ1 := by (simp only [evE]) <;> rfl
@[simp] theorem evE_tup (es : List E) : evE Φ (.tup es) (s :: ρ) = (evEs Φ es (s :: ρ)).bind fun ds ρ1 => .ok (.tup ds) ρ1 := by (simp only [evE]) <;> rfl
@[simp] theorem evE_call (f : Str) (as : List A) (ks : List Nat) : evE Φ (.call f as ks) (s :: ρ) = (evAs Φ as (s :: ρ)).bind fun vs ρ1 => callD Φ f vs ks ρ1 := by (simp only [evE]) <;> rfl
@[simp] theorem evE_cut (a : O) (b c : E) : evE Φ (.cut a b c) (s :: ρ) = (evO Φ a (s :: ρ)).bind fun x ρ1 => (evE Φ b ρ1).bind fun y ρ2 => match y with
    | .int i => (evE Φ c ρ2).bind fun z ρ3 => match z, resO ρ3 x with
      | .int j, some d => R.ofO (cutD d (some i) (some j)) ρ3
      | _, _ => .stuck
    | _ => .stuck := by (simp only [evE]) <;> rfl
@[simp] theorem evE_ofL (l : LE) : evE Φ (.ofL l) (s :: ρ) = (evL Φ l (s :: ρ)).bind fun ds ρ1 => .ok (.lst ds) ρ1 := by (simp only [evE]) <;> rfl
/-! tests -/
@[simp] theorem evC_and (a b : E) : evC Φ (.and a b) (s :: ρ) = (evC Φ a (s :: ρ)).bind fun x ρ1 => if x then evC Φ b ρ1 else .ok false ρ1 := by (simp only [evC]) <;> rfl
@[simp] theorem evC_or (a b : E) : evC Φ (.or a b) (s :: ρ) = (evC Φ a (s :: ρ)).bind fun x ρ1 => if x then .ok true ρ1 else evC Φ b ρ1 := by (simp only [evC]) <;> rfl
@[simp] theorem evC_not (a : E) : evC Φ (.not a) (s :: ρ) = (evC Φ a (s :: ρ)).bind fun x ρ1 => .ok (!x) ρ1 := by (simp only [evC]) <;> rfl
@[simp] theorem evC_ite (c a b : E) : evC Φ (.ite c a b) (s :: ρ) = (evC Φ c (s :: ρ)).bind fun k ρ1 => if k then evC Φ a ρ1 else evC Φ b ρ1 := by (simp only [evC]) <;> rfl
@[simp] theorem evC_var_ (i : Nat) : evC Φ (.var i) (s :: ρ) = (evE Φ (.var i) (s :: ρ)).bind boolD := evC_val rfl _
@[simp] theorem evC_cst_ (i : D) : evC Φ (.cst i) (s :: ρ) = (evE Φ (.cst i) (s :: ρ)).bind boolD := evC_val rfl _
@[simp] theorem evC_prim_ (p : Prim) (os : List O) : evC Φ (.prim p os) (s :: ρ) = (evE Φ (.prim p os) (s :: ρ)).bind boolD := evC_val rfl _
@[simp] theorem evC_chain_ (p q : Prim) (a b c : E) : evC Φ (.chain p q a b c) (s :: ρ) = (evE Φ (.chain p q a b c) (s :: ρ)).bind boolD := evC_val rfl _
@[simp] theorem evC_call_ (f : Str) (as : List A) (ks : List Nat) : evC Φ (.call f as ks) (s :: ρ) = (evE Φ (.call f as ks) (s :: ρ)).bind boolD := evC_val rfl _
@[simp] theorem evC_meth_ (p : Prim) (o : O) (os : List O) : evC Φ (.meth p o os) (s :: ρ) = (evE Φ (.meth p o os) (s :: ρ)).bind boolD := evC_val rfl _
@[simp] theorem evC_ofL_ (l : LE) : evC Φ (.ofL l) (s :: ρ) = (evE Φ (.ofL l) (s :: ρ)).bind boolD := evC_val rfl _
@[simp] theorem boolD_bl (b : Bool) : boolD (.bl b) (s :: ρ) = .ok b (s :: ρ) := rfl
@[simp] theorem boolD_int (i : Int) : boolD (.int i) (s :: ρ) = .ok (i != 0) (s :: ρ) := rfl
@[simp] theorem boolD_lst (i : List D) : boolD (.lst i) (s :: ρ) = .ok (!i.isEmpty) (s :: ρ) := rfl
@[simp] theorem boolD_tup (i : List D) : boolD (.tup i) (s :: ρ) = .ok (!i.isEmpty) (s :: ρ) := rfl
@[simp] theorem boolD_non : boolD .non (s :: ρ) = .ok false (s :: ρ) := rfl
@[simp] theorem truth_bl (b : Bool) : truth (.bl b) = some b := rfl
@[simp] theorem truth_lst (b : List D) : truth (.lst b) = some (!b.isEmpty) := rfl
@[simp] theorem truth_tup (b : List D) : truth (.tup b) = some (!b.isEmpty) := rfl
@[simp] theorem truth_int (b : Int) : truth (.int b) = some (b != 0) := rfl
@[simp] theorem truth_non : truth .non = some false := rfl
/-! lists of them -/
@[simp] theorem evEs_nil : evEs Φ [] (s :: ρ) = .ok [] (s :: ρ) := by (simp only [evEs]) <;> rfl
@[simp] theorem evEs_cons (e : E) (es : List E) : evEs Φ (e :: es) (s :: ρ) = (evE Φ e (s :: ρ)).bind fun d ρ1 => (evEs Φ es ρ1).bind fun ds ρ2 => .ok (d :: ds) ρ2 := by (simp only [evEs]) <;> rfl
@[simp] theorem evO_ex (e : E) : evO Φ (.ex e) (s :: ρ) = (evE Φ e (s :: ρ)).bind fun d ρ1 => .ok (.inl d) ρ1 := by (simp only [evO]) <;> rfl
@[simp] theorem evO_sl (i : Nat) : evO Φ (.sl i) (s :: ρ) = (match (s :: ρ)[i]? with | some (.own _) => .ok (.inr i) (s :: ρ) | _ => .stuck) := by (simp only [evO]) <;> rfl
@[simp] theorem evOs_nil : evOs Φ [] (s :: ρ) = .ok [] (s :: ρ) := by (simp only [evOs]) <;> rfl
@[simp] theorem evOs_cons (e : O) (es : List O) : evOs Φ (e :: es) (s :: ρ) = (evO Φ e (s :: ρ)).bind fun d ρ1 => (evOs Φ es ρ1).bind fun ds ρ2 => .ok (d :: ds) ρ2 := by (simp only [evOs]) <;> rfl
@[simp] theorem evA_ex (e : E) : evA Φ (.ex e) (s :: ρ) = (evE Φ e (s :: ρ)).bind fun d ρ1 => .ok (.dat d) ρ1 := by (simp only [evA]) <;> rfl
@[simp] theorem evA_io (i : Nat) : evA Φ (.io i) (s :: ρ) = (match (s :: ρ)[i]? with | some (.own _) => .ok (.io i) (s :: ρ) | _ => .stuck) := by (simp only [evA]) <;> rfl
@[simp] theorem evA_fr (l : LE) : evA Φ (.fr l) (s :: ρ) = (evL Φ l (s :: ρ)).bind fun ds ρ1 => .ok (.tmp ds) ρ1 := by (simp only [evA]) <;> rfl
@[simp] theorem evAs_nil : evAs Φ [] (s :: ρ) = .ok [] (s :: ρ) := by (simp only [evAs]) <;> rfl
@[simp] theorem evAs_cons (e : A) (es : List A) : evAs Φ (e :: es) (s :: ρ) = (evA Φ e (s :: ρ)).bind fun d ρ1 => (evAs Φ es ρ1).bind fun ds ρ2 => .ok (d :: ds) ρ2 := by (simp only [evAs]) <;> rfl
/-! new lists -/
@[simp] theorem evL_disp (es : List E) : evL Φ (.disp es) (s :: ρ) = evEs Φ es (s :: ρ) := by (simp only [evL]) <;> rfl
def primL (p : Prim) (xs : List (Sum D Nat)) (ρ : Env) : R (List D) := match resOs ρ xs with
  | some ds => (match prim p ds with
    | some (.lst xs) => .ok xs ρ
    | _ => .stuck)
  | none => .stuck
@[simp] theorem evL_prim (p : Prim) (os : List O) : evL Φ (.prim p os) (s :: ρ) = (evOs Φ os (s :: ρ)).bind (primL p) := by
  simp only [evL]
  rfl
@[simp] theorem primL_ (p : Prim) (xs : List (Sum D Nat)) : primL p xs (s :: ρ) = (match resOs (s :: ρ) xs with | some ds => (match prim p ds with | some (.lst xs) => .ok xs (s :: ρ) | _ => .stuck) | none => .stuck) := rfl
@[simp] theorem evL_comp (ow : List Nat) (t : T) (it : It) (ifs : Option E) (e : E) : evL Φ (.comp ow t it ifs e) (s :: ρ) = (evI Φ it (s :: ρ)).bind fun xs ρ1 =>
    noExc ((compL (evT Φ t) (evIf Φ ifs) (evE Φ e) ow xs [] ρ1).bind fun ys ρ2 => .ok ys (backE ρ1 ρ2 ow)) := by (simp only [evL]) <;> rfl
@[simp] theorem evL_sset (ow vs1 : List Nat) (t : T) (it : It) (t1 : T) (it1 : It) (e : E) : evL Φ (.sset ow vs1 t it t1 it1 e) (s :: ρ) = (evI Φ it (s :: ρ)).bind fun xs ρ1 =>
    noExc ((soutL (evT Φ t) (evI Φ it1) (sinL (evT Φ t1) (evE Φ e) vs1) ow xs [] ρ1).bind fun ns ρ2 => .ok ((srtI ns).map D.int) (backE ρ1 ρ2 ow)) := by simp only [evL]
@[simp] theorem evL_lrng (e : E) : evL Φ (.lrng e) (s :: ρ) = (evE Φ e (s :: ρ)).bind fun d ρ1 => match d with
    | .int n => if decide (-1000000 ≤ n) && decide (n ≤ 1000000) then .ok (rngD 0 n) ρ1 else .stuck
    | _ => .stuck := by (simp only [evL]) <;> rfl
@[simp] theorem evL_rep (x : D) (e : E) : evL Φ (.rep x e) (s :: ρ) = (evE Φ e (s :: ρ)).bind fun d ρ1 => match d with
    | .int n => if decide (-1000000 ≤ n) && decide (n ≤ 1000000) then .ok (List.replicate n.toNat x) ρ1 else .stuck
    | _ => .stuck := by (simp only [evL]) <;> rfl
@[simp] theorem evL_skey (i : Nat) (l : LE) (k : E) : evL Φ (.skey i l k) (s :: ρ) = (evL Φ l (s :: ρ)).bind fun xs ρ1 => noExc ((keyL (evE Φ k) i xs ρ1).bind fun ks ρ2 => if sortOk ks then .ok (keySort xs ks) ρ2 else .stuck) := by simp only [evL]
@[simp] theorem evL_call_ (f : Str) (as : List A) (ks : List Nat) : evL Φ (.call f as ks) (s :: ρ) = ((evAs Φ as (s :: ρ)).bind fun vs ρ1 => callD Φ f vs ks ρ1).bind fun d ρ2 => match d with
    | .lst xs => .ok xs ρ2
    | _ => .stuck := evL_call as _
@[simp] theorem evIf_none : evIf Φ none (s :: ρ) = .ok true (s :: ρ) := by (simp only [evIf]) <;> rfl
@[simp] theorem evIf_some (c : E) : evIf Φ (some c) (s :: ρ) = evC Φ c (s :: ρ) := by (simp only [evIf]) <;> rfl
@[simp] theorem evI_seq (e : E) : evI Φ (.seq e) (s :: ρ) = (evE Φ e (s :: ρ)).bind fun d ρ1 => R.ofO (itemsI d) ρ1 := by (simp only [evI]) <;> rfl
@[simp] theorem evI_rng (e : E) : evI Φ (.rng e) (s :: ρ) = (evE Φ e (s :: ρ)).bind fun d ρ1 => match d with
    | .int n => if rngOk 0 n then .ok (rngD 0 n) ρ1 else .stuck
    | _ => .stuck := by (simp only [evI]) <;> rfl
@[simp] theorem evI_rng2 (a b : E) : evI Φ (.rng2 a b) (s :: ρ) = (evE Φ a (s :: ρ)).bind fun d ρ1 => (evE Φ b ρ1).bind fun e ρ2 => match d, e with
    | .int m, .int n => if rngOk m n then .ok (rngD m n) ρ2 else .stuck
    | _, _ => .stuck := by (simp only [evI]) <;> rfl
@[simp] theorem evI_rngd (a b : E) : evI Φ (.rngd a b) (s :: ρ) = (evE Φ a (s :: ρ)).bind fun d ρ1 => (evE Φ b ρ1).bind fun e ρ2 => match d, e with
    | .int m, .int n => if rngOk m n then .ok (rngdD m n) ρ2 else .stuck
    | _, _ => .stuck := by (simp only [evI]) <;> rfl
@[simp] theorem evI_enum (e : E) : evI Φ (.enum e) (s :: ρ) = (evE Φ e (s :: ρ)).bind fun d ρ1 => R.ofO ((itemsD d).map enumD) ρ1 := by (simp only [evI]) <;> rfl
@[simp] theorem evI_zip (a b : E) : evI Φ (.zip a b) (s :: ρ) = (evE Φ a (s :: ρ)).bind fun d ρ1 => (evE Φ b ρ1).bind fun e ρ2 => match d, e with
    | .lst xs, .lst ys => .ok (zipD xs ys) ρ2
    | .tup xs, .tup ys => .ok (zipD xs ys) ρ2
    | _, _ => .stuck := by (simp only [evI]) <;> rfl
@[simp] theorem itemsI_lst (xs : List D) : itemsI (.lst xs) = some xs := rfl
@[simp] theorem itemsI_tup (xs : List D) : itemsI (.tup xs) = some xs := rfl
@[simp] theorem itemsD_lst (xs : List D) : itemsD (.lst xs) = some xs := rfl
@[simp] theorem itemsD_tup (xs : List D) : itemsD (.tup xs) = some xs := rfl
/-! targets -/
@[simp] theorem evT_nm (i : Nat) (d : D) : evT Φ (.nm i) d (s :: ρ) = (match (s :: ρ)[i]? with | some _ => .ok () ((s :: ρ).set i (.dat d)) | none => .stuck) := by (simp only [evT]) <;> rfl
@[simp] theorem evT_tup (ts : List T) (xs : List D) : evT Φ (.tup ts) (.tup xs) (s :: ρ) = if xs.length = ts.length then evTs Φ ts xs (s :: ρ) else .stuck := by (simp only [evT]) <;> rfl
@[simp] theorem evT_lst (ts : List T) (xs : List D) : evT Φ (.tup ts) (.lst xs) (s :: ρ) = if xs.length = ts.length then evTs Φ ts xs (s :: ρ) else .stuck := by (simp only [evT]) <;> rfl
@[simp] theorem evT_sub (i : Nat) (k : E) (d : D) : evT Φ (.sub i k) d (s :: ρ) = (match (s :: ρ)[i]? with
    | some (.own _) => (evE Φ k (s :: ρ)).bind fun kv ρ1 => (match ρ1[i]? with
      | some (.own xs) => (match setAt xs kv d with
        | some ys => .ok () (ρ1.set i (.own ys))
        | none => .stuck)
      | _ => .stuck)
    | _ => .stuck) := by (simp only [evT]) <;> rfl
@[simp] theorem evTs_nil : evTs Φ [] [] (s :: ρ) = .ok () (s :: ρ) := by (simp only [evTs]) <;> rfl
@[simp] theorem evTs_cons (t : T) (ts : List T) (d : D) (ds : List D) : evTs Φ (t :: ts) (d :: ds) (s :: ρ) = (evT Φ t d (s :: ρ)).bind fun _ ρ1 => evTs Φ ts ds ρ1 := by (simp only [evTs]) <;> rfl
/-! statements -/
@[simp] theorem go_nil : evS.go Φ [] (s :: ρ) = .nx (s :: ρ) := by (simp only [evS.go]) <;> rfl
@[simp] theorem go_cons (t : S) (ts : List S) : evS.go Φ (t :: ts) (s :: ρ) = (evS Φ t (s :: ρ)).seq (evS.go Φ ts) := by
  simp only [evS.go]
@[simp] theorem evS_asg (t : T) (e : E) : evS Φ (.asg t e) (s :: ρ) = (evE Φ e (s :: ρ)).seq fun d ρ1 => (evT Φ t d ρ1).seq fun _ ρ2 => .nx ρ2 := by (simp only [evS]) <;> rfl
@[simp] theorem evS_asgo (i : Nat) (l : LE) : evS Φ (.asgo i l) (s :: ρ) = (evL Φ l (s :: ρ)).seq fun ds ρ1 => if i < ρ1.length then .nx (ρ1.set i (.own ds)) else .stuck := by (simp only [evS]) <;> rfl
@[simp] theorem evS_par (i j : Nat) (a b : A) : evS Φ (.par i j a b) (s :: ρ) = (evA Φ a (s :: ρ)).seq fun x ρ1 => (evA Φ b ρ1).seq fun y ρ2 => match putA ρ2 i x with
    | some ρ3 => (match putA ρ3 j y with
      | some ρ4 => .nx ρ4
      | none => .stuck)
    | none => .stuck := by (simp only [evS]) <;> rfl
@[simp] theorem evS_asgm (is : List Nat) (as : List A) : evS Φ (.asgm is as) (s :: ρ) = (evAs Φ as (s :: ρ)).seq fun vs ρ1 => (match putAs ρ1 is vs with
    | some ρ2 => .nx ρ2
    | none => .stuck) := by (simp only [evS]) <;> rfl
@[simp] theorem evS_aug (p : Prim) (i : Nat) (e : E) : evS Φ (.aug p i e) (s :: ρ) = (match (s :: ρ)[i]? with
    | some (.dat x) => (evE Φ e (s :: ρ)).seq fun d ρ1 => (match augD p x d with
      | some z => if i < ρ1.length then .nx (ρ1.set i (.dat z)) else .stuck
      | none => .stuck)
    | _ => .stuck) := by (simp only [evS]) <;> rfl
@[simp] theorem evS_augs (p : Prim) (i : Nat) (k e : E) : evS Φ (.augs p i k e) (s :: ρ) = (match (s :: ρ)[i]? with
    | some (.own _) => (evE Φ k (s :: ρ)).seq fun kv ρ1 => (match ρ1[i]? with
      | some (.own xs) => (match idxD (.lst xs) kv with
        | some old => (evE Φ e ρ1).seq fun d ρ2 => (match ρ2[i]? with
          | some (.own ys) => (match augD p old d with
            | some z => (match setAt ys kv z with
              | some zs => .nx (ρ2.set i (.own zs))
              | none => .stuck)
            | none => .stuck)
          | _ => .stuck)
        | none => .stuck)
      | _ => .stuck)
    | _ => .stuck) := by (simp only [evS]) <;> rfl
@[simp] theorem putAs_nil (ρ : Env) : putAs ρ [] [] = some ρ := rfl
@[simp] theorem putAs_cons (ρ : Env) (i : Nat) (is : List Nat) (a : AV) (as : List AV) : putAs ρ (i :: is) (a :: as) = (match putA ρ i a with | some ρ1 => putAs ρ1 is as | none => none) := rfl
@[simp] theorem augD_add (i j : Int) : augD .add (.int i) (.int j) = some (.int (i + j)) := rfl
@[simp] theorem augD_sub (i j : Int) : augD .sub (.int i) (.int j) = some (.int (i - j)) := rfl
@[simp] theorem evS_frz (i : Nat) : evS Φ (.frz i) (s :: ρ) = .nx (frzE (s :: ρ) i) := by (simp only [evS]) <;> rfl
@[simp] theorem evS_expr (e : E) : evS Φ (.expr e) (s :: ρ) = (evE Φ e (s :: ρ)).seq fun _ ρ1 => .nx ρ1 := by (simp only [evS]) <;> rfl
@[simp] theorem evS_mt (m : Mt) (i : Nat) (es : List E) : evS Φ (.mt m i es) (s :: ρ) = (match (s :: ρ)[i]? with
    | some (.own _) => (evEs Φ es (s :: ρ)).seq fun ds ρ1 => (match ρ1[i]? with
      | some (.own xs) => (match mtD m xs ds with
        | some ys => .nx (ρ1.set i (.own ys))
        | none => .stuck)
      | _ => .stuck)
    | _ => .stuck) := by (simp only [evS]) <;> rfl
@[simp] theorem evS_ext (i : Nat) (l : LE) : evS Φ (.ext i l) (s :: ρ) = (match (s :: ρ)[i]? with
    | some (.own _) => (evL Φ l (s :: ρ)).seq fun ys ρ1 => (match ρ1[i]? with
      | some (.own xs) => if xs.length + ys.length ≤ line then .nx (ρ1.set i (.own (xs ++ ys))) else .stuck
      | _ => .stuck)
    | _ => .stuck) := by (simp only [evS]) <;> rfl
@[simp] theorem evS_ifs (c : E) (a b : List S) : evS Φ (.ifs c a b) (s :: ρ) = (evC Φ c (s :: ρ)).seq fun k ρ1 => if k then evS.go Φ a ρ1 else evS.go Φ b ρ1 := by (simp only [evS]) <;> rfl
@[simp] theorem evS_whl (c : E) (b : List S) : evS Φ (.whl c b) (s :: ρ) = whlF (evC Φ c) (evS.go Φ b) (s :: ρ) := by (simp only [evS]) <;> rfl
@[simp] theorem evS_forr (t : T) (it : It) (b : List S) : evS Φ (.forr t it b) (s :: ρ) = (evI Φ it (s :: ρ)).seq fun xs ρ1 => forL (evT Φ t) (evS.go Φ b) xs ρ1 := by (simp only [evS]) <;> rfl
@[simp] theorem evS_ret_ex (e : E) : evS Φ (.ret (.ex e)) (s :: ρ) = (evE Φ e (s :: ρ)).seq fun d ρ1 => .rt d ρ1 := by (simp only [evS]) <;> rfl
@[simp] theorem evS_ret_sl (i : Nat) : evS Φ (.ret (.sl i)) (s :: ρ) = (match (s :: ρ)[i]? with | some (.own xs) => .rt (.lst xs) (s :: ρ) | _ => .stuck) := by (simp only [evS]) <;> rfl
@[simp] theorem evS_brk : evS Φ .brk (s :: ρ) = .bk (s :: ρ) := by (simp only [evS]) <;> rfl
@[simp] theorem evS_cont : evS Φ .cont (s :: ρ) = .ct (s :: ρ) := by (simp only [evS]) <;> rfl
@[simp] theorem evS_pass : evS Φ .pass (s :: ρ) = .nx (s :: ρ) := by (simp only [evS]) <;> rfl
/-! operands' values, arguments -/
@[simp] theorem resOs_nil (ρ : Env) : resOs ρ [] = some [] := by simp only [resOs]
@[simp] theorem resOs_inl (ρ : Env) (d : D) (r : List (Sum D Nat)) : resOs ρ (.inl d :: r) = (resOs ρ r).map (d :: ·) := by
  simp only [resOs, resO]
  cases resOs ρ r <;> rfl
@[simp] theorem resOs_inr (ρ : Env) (i : Nat) (r : List (Sum D Nat)) : resOs ρ (.inr i :: r) = (match ρ[i]? with | some (.own xs) => (resOs ρ r).map (D.lst xs :: ·) | _ => none) := by
  have e : resO ρ (.inr i) = (match ρ[i]? with | some (.own xs) => some (D.lst xs) | _ => none) := rfl
  rw [resOs, e]
  cases ρ[i]? with
  | none => cases resOs ρ r <;> rfl
  | some z => cases z <;> cases resOs ρ r <;> rfl
@[simp] theorem resO_inl (ρ : Env) (d : D) : resO ρ (.inl d) = some d := rfl
@[simp] theorem slotAs_nil (ρ : Env) : slotAs ρ [] = some [] := by simp only [slotAs]
@[simp] theorem slotAs_dat (ρ : Env) (d : D) (r : List AV) : slotAs ρ (.dat d :: r) = (slotAs ρ r).map (Slot.dat d :: ·) := by
  simp only [slotAs, slotA]
  cases slotAs ρ r <;> rfl
@[simp] theorem slotAs_tmp (ρ : Env) (d : List D) (r : List AV) : slotAs ρ (.tmp d :: r) = (slotAs ρ r).map (Slot.own d :: ·) := by
  simp only [slotAs, slotA]
  cases slotAs ρ r <;> rfl
@[simp] theorem slotAs_io (ρ : Env) (i : Nat) (r : List AV) : slotAs ρ (.io i :: r) = (match ρ[i]? with | some (.own xs) => (slotAs ρ r).map (Slot.own xs :: ·) | _ => none) := by
  have e : slotA ρ (.io i) = (match ρ[i]? with | some (.own xs) => some (Slot.own xs) | _ => none) := rfl
  rw [slotAs, e]
  cases ρ[i]? with
  | none => cases slotAs ρ r <;> rfl
  | some z => cases z <;> cases slotAs ρ r <;> rfl
@[simp] theorem setOwn_nil (ρ : Env) : setOwn ρ [] [] = some ρ := by simp only [setOwn]
@[simp] theorem setOwn_dat (ρ : Env) (d : D) (r : List AV) (os : List (List D)) : setOwn ρ (.dat d :: r) os = setOwn ρ r os := by simp only [setOwn]
@[simp] theorem setOwn_io (ρ : Env) (i : Nat) (r : List AV) (o : List D) (os : List (List D)) : setOwn ρ (.io i :: r) (o :: os) = setOwn (ρ.set i (.own o)) r os := by simp only [setOwn]
@[simp] theorem setOwn_tmp (ρ : Env) (i : List D) (r : List AV) (o : List D) (os : List (List D)) : setOwn ρ (.tmp i :: r) (o :: os) = setOwn ρ r os := by simp only [setOwn]
@[simp] theorem permL_nil {α : Type} (l : List α) : permL l [] = l := rfl
@[simp] theorem ioIx_nil : ioIx [] = [] := rfl
@[simp] theorem ioIx_io (i : Nat) (r : List AV) : ioIx (.io i :: r) = i :: ioIx r := rfl
@[simp] theorem ioIx_dat (i : D) (r : List AV) : ioIx (.dat i :: r) = ioIx r := rfl
@[simp] theorem ioIx_tmp (i : List D) (r : List AV) : ioIx (.tmp i :: r) = ioIx r := rfl
/-- a call by place -/
@[simp] theorem callD_pos {Φ : Phi} (f : Str) (vs : List AV) (s : Slot) (ρ : Env) : callD Φ f vs [] (s :: ρ) = if (ioIx vs).Nodup then (match slotAs (s :: ρ) vs with
    | none => .stuck
    | some as => match Φ f as with
      | .ok d os => (match setOwn (s :: ρ) vs os with | some ρ' => .ok d ρ' | none => .stuck)
      | .exc c p os => (match setOwn (s :: ρ) vs os with | some ρ' => .exc c p ρ' | none => .stuck)
      | .stuck => .stuck) else .stuck := by
  unfold callD
  simp only [List.nodup_nil, true_and, permL_nil]
  by_cases h : (ioIx vs).Nodup
  · cases hs : slotAs (s :: ρ) vs with
    | none => simp [h]
    | some as => (simp [h]) <;> rfl
  · simp [h]
@[simp] theorem callD_kw {Φ : Phi} (f : Str) (vs : List AV) (k : Nat) (ks : List Nat) (s : Slot) (ρ : Env) : callD Φ f vs (k :: ks) (s :: ρ) = if (k :: ks).Nodup ∧ (ioIx vs).Nodup ∧ (slotAs (s :: ρ) vs).isSome = true then (match slotAs (s :: ρ) ((k :: ks).filterMap fun k => vs[k]?) with
    | none => .stuck
    | some as => match Φ f as with
      | .ok d os => (match setOwn (s :: ρ) ((k :: ks).filterMap fun k => vs[k]?) os with | some ρ' => .ok d ρ' | none => .stuck)
      | .exc c p os => (match setOwn (s :: ρ) ((k :: ks).filterMap fun k => vs[k]?) os with | some ρ' => .exc c p ρ' | none => .stuck)
      | .stuck => .stuck) else .stuck := rfl
end
/-! ### operations -/
@[simp] theorem isA_non (T : String) : D.non.isA T = (T == "NoneType") := rfl
@[simp] theorem isA_bl (b : Bool) (T : String) : (D.bl b).isA T = (T == "bool" || T == "int") := rfl
@[simp] theorem isA_int (i : Int) (T : String) : (D.int i).isA T = (T == "int") := rfl
@[simp] theorem isA_str (x : Str) (T : String) : (D.str x).isA T = (T == "str") := rfl
@[simp] theorem isA_tup (xs : List D) (T : String) : (D.tup xs).isA T = (T == "tuple") := rfl
@[simp] theorem isA_lst (xs : List D) (T : String) : (D.lst xs).isA T = (T == "list") := rfl
section
variable (a b : D) (i j : Int) (xs ys : List D)
@[simp] theorem prim_add : prim .add [a, b] = addD a b := rfl
@[simp] theorem prim_sub : prim .sub [a, b] = subD a b := rfl
@[simp] theorem prim_mul : prim .mul [a, b] = mulD a b := rfl
@[simp] theorem prim_fdiv : prim .fdiv [a, b] = fdivD a b := rfl
@[simp] theorem prim_mod : prim .mod [a, b] = modD a b := rfl
@[simp] theorem prim_pow : prim .pow [a, b] = powD a b := rfl
@[simp] theorem prim_eq_ : prim .eq [a, b] = eqD a b := rfl
@[simp] theorem prim_ne_ : prim .ne [a, b] = neD a b := rfl
@[simp] theorem prim_lt : prim .lt [a, b] = ltD a b := rfl
@[simp] theorem prim_le : prim .le [a, b] = leD a b := rfl
@[simp] theorem prim_gt : prim .gt [a, b] = ltD b a := rfl
@[simp] theorem prim_ge : prim .ge [a, b] = leD b a := rfl
@[simp] theorem prim_in : prim .isin [a, b] = (inD a b).map .bl := rfl
@[simp] theorem prim_notin : prim .notin [a, b] = (inD a b).map fun c => .bl (!c) := rfl
@[simp] theorem prim_isN : prim .isN [a, .non] = some (.bl a.isNon) := rfl
@[simp] theorem prim_notN : prim .notN [a, .non] = some (.bl (!a.isNon)) := rfl
@[simp] theorem prim_neg : prim .neg [a] = negD a := rfl
@[simp] theorem prim_idx : prim .idx [a, b] = idxD a b := rfl
@[simp] theorem prim_slcs (lo hi : Bool) (ds : List D) : prim (.slc lo hi) ds = slcD lo hi ds := rfl
@[simp] theorem prim_rev : prim .rev [a] = revD a := rfl
@[simp] theorem prim_len : prim .len [a] = lenD a := rfl
@[simp] theorem prim_abs : prim .abs [a] = absD a := rfl
@[simp] theorem prim_max (ds : List D) : prim .max ds = maxD ds := rfl
@[simp] theorem prim_min (ds : List D) : prim .min ds = minD ds := rfl
@[simp] theorem prim_sum : prim .sum [a] = sumD a := rfl
@[simp] theorem prim_all : prim .all [a] = allD a := rfl
@[simp] theorem prim_any : prim .any [a] = anyD a := rfl
@[simp] theorem prim_tuple : prim .tuple [a] = tupleD a := rfl
@[simp] theorem prim_list : prim .list [a] = listD a := rfl
@[simp] theorem prim_int1 : prim .int1 [a] = int1D a := rfl
@[simp] theorem prim_str1 : prim .str1 [a] = str1D a := rfl
@[simp] theorem prim_repr : prim .repr [a] = reprD a := rfl
@[simp] theorem prim_divmod : prim .divmod [a, b] = divmodD a b := rfl
@[simp] theorem prim_isinst (Ts : List String) : prim (.isinst Ts) [a] = some (.bl (Ts.any a.isA)) := rfl
@[simp] theorem prim_index : prim .index [a, b] = indexD b a := rfl
@[simp] theorem prim_gcd : prim .gcd [a, b] = gcdD a b := rfl
@[simp] theorem prim_sorted : prim .sorted [a] = sortedD a := rfl
@[simp] theorem gcdD_int : gcdD (.int i) (.int j) = some (.int ((Nat.gcd i.natAbs j.natAbs : Nat) : Int)) := rfl
@[simp] theorem addD_int : addD (.int i) (.int j) = some (.int (i + j)) := rfl
@[simp] theorem addD_tup : addD (.tup xs) (.tup ys) = if xs.length + ys.length ≤ line then some (.tup (xs ++ ys)) else none := rfl
@[simp] theorem addD_lst : addD (.lst xs) (.lst ys) = if xs.length + ys.length ≤ line then some (.lst (xs ++ ys)) else none := rfl
@[simp] theorem subD_int : subD (.int i) (.int j) = some (.int (i - j)) := rfl
@[simp] theorem mulD_int : mulD (.int i) (.int j) = if mulOk i j then some (.int (i * j)) else none := rfl
@[simp] theorem modD_int : modD (.int i) (.int j) = if 0 < j then some (.int (i % j)) else none := rfl
@[simp] theorem fdivD_int : fdivD (.int i) (.int j) = if decide (0 < j) && decide (j.natAbs.log2 < 9000) then some (.int (i / j)) else none := rfl
@[simp] theorem negD_int : negD (.int i) = some (.int (-i)) := rfl
@[simp] theorem ltD_int : ltD (.int i) (.int j) = some (.bl (decide (i < j))) := rfl
@[simp] theorem leD_int : leD (.int i) (.int j) = some (.bl (decide (i ≤ j))) := rfl
@[simp] theorem lenD_tup : lenD (.tup xs) = some (.int xs.length) := rfl
@[simp] theorem lenD_lst : lenD (.lst xs) = some (.int xs.length) := rfl
@[simp] theorem absD_int : absD (.int i) = some (.int (if i < 0 then -i else i)) := rfl
@[simp] theorem tupleD_lst : tupleD (.lst xs) = some (.tup xs) := rfl
@[simp] theorem tupleD_tup : tupleD (.tup xs) = some (.tup xs) := rfl
@[simp] theorem listD_lst : listD (.lst xs) = some (.lst xs) := rfl
@[simp] theorem listD_tup : listD (.tup xs) = some (.lst xs) := rfl
@[simp] theorem int1D_int : int1D (.int i) = some (.int i) := rfl
@[simp] theorem revD_tup : revD (.tup xs) = some (.tup xs.reverse) := rfl
@[simp] theorem revD_lst : revD (.lst xs) = some (.lst xs.reverse) := rfl
@[simp] theorem idxD_lst : idxD (.lst xs) (.int i) = atI xs i := rfl
@[simp] theorem idxD_tup : idxD (.tup xs) (.int i) = atI xs i := rfl
@[simp] theorem maxD_two : maxD [.int i, .int j] = some (.int (if j > i then j else i)) := rfl
@[simp] theorem minD_two : minD [.int i, .int j] = some (.int (if j < i then j else i)) := rfl
@[simp] theorem recvOk_lst : recvOk .index (.inl (.lst xs)) = true := rfl
@[simp] theorem recvOk_sl (k : Nat) : recvOk .index (.inr k) = true := rfl
@[simp] theorem slcD_lo : slcD true false [a, .int i] = cutD a (some i) none := rfl
@[simp] theorem slcD_hi : slcD false true [a, .int i] = cutD a none (some i) := rfl
@[simp] theorem slcD_all : slcD false false [a] = cutD a none none := rfl
@[simp] theorem cutD_lst (lo hi : Option Int) : cutD (.lst xs) lo hi = some (.lst (cutL xs lo hi)) := rfl
@[simp] theorem cutD_tup (lo hi : Option Int) : cutD (.tup xs) lo hi = some (.tup (cutL xs lo hi)) := rfl
@[simp] theorem mtD_append : mtD .append xs [a] = if xs.length < line then some (xs ++ [a]) else none := rfl
@[simp] theorem mtD_pop : mtD .pop xs [] = if xs.isEmpty then none else some xs.dropLast := rfl
end
section
variable {α : Type}
theorem atI_nat (xs : List α) (n : Nat) : atI xs (n : Int) = xs[n]? := by
  unfold atI ixN
  rw [if_pos (Int.natCast_nonneg n)]
  by_cases h : n < xs.length
  · rw [if_pos (by omega)]
    simp
  · rw [if_neg (by omega), List.getElem?_eq_none (by omega)]
    rfl
@[simp] theorem atI_0 (xs : List α) : atI xs 0 = xs[0]? := atI_nat xs 0
@[simp] theorem atI_1 (xs : List α) : atI xs 1 = xs[1]? := atI_nat xs 1
@[simp] theorem atI_2 (xs : List α) : atI xs 2 = xs[2]? := atI_nat xs 2
@[simp] theorem atI_3 (xs : List α) : atI xs 3 = xs[3]? := atI_nat xs 3
theorem atI_neg (xs : List α) (n : Nat) (h : n < xs.length) : atI xs (-((n : Int) + 1)) = xs[xs.length - (n + 1)]? := by
  unfold atI ixN
  rw [if_neg (by omega), if_pos (by omega)]
  show xs[(-((n : Int) + 1) + xs.length).toNat]? = _
  congr 1
  omega
theorem atI_last (xs : List α) : atI xs (-1) = xs.getLast? := by
  cases xs with
  | nil => rfl
  | cons x xs =>
    rw [List.getLast?_eq_getElem?]
    exact atI_neg (x :: xs) 0 (by simp)
end
/-! ### equality -/
theorem eqD_of {a b : D} (ha : shOk a = true) (hb : shOk b = true) : eqD a b = some (.bl (PyData.eqv a.p b.p)) := by
  unfold eqD
  rw [ha, hb]
  rfl
theorem neD_of {a b : D} (ha : shOk a = true) (hb : shOk b = true) : neD a b = some (.bl (!PyData.eqv a.p b.p)) := by
  unfold neD
  rw [ha, hb]
  rfl
@[simp] theorem eqD_int (i j : Int) : eqD (.int i) (.int j) = some (.bl (decide (i = j))) := eqD_of rfl rfl
@[simp] theorem neD_int (i j : Int) : neD (.int i) (.int j) = some (.bl (!decide (i = j))) := neD_of rfl rfl
theorem eqD_str {x y : Str} (hx : shOk (.str x) = true) (hy : shOk (.str y) = true) : eqD (.str x) (.str y) = some (.bl (decide (x = y))) := eqD_of hx hy
theorem neD_str {x y : Str} (hx : shOk (.str x) = true) (hy : shOk (.str y) = true) : neD (.str x) (.str y) = some (.bl (!decide (x = y))) := neD_of hx hy
/-! ### bools of a list -/
theorem boolsOf_map {α : Type} (f : α → Bool) : ∀ l : List α, boolsOf (l.map fun x => D.bl (f x)) = some (l.map f)
  | [] => rfl
  | x :: l => by
    rw [List.map_cons, boolsOf, boolsOf_map f l]
    rfl
theorem allD_map {α : Type} (f : α → Bool) (l : List α) : allD (.lst (l.map fun x => D.bl (f x))) = some (.bl (l.all f)) := by
  show (boolsOf _).map (fun bs => D.bl (bs.all id)) = _
  rw [boolsOf_map]
  simp
theorem anyD_map {α : Type} (f : α → Bool) (l : List α) : anyD (.lst (l.map fun x => D.bl (f x))) = some (.bl (l.any f)) := by
  show (boolsOf _).map (fun bs => D.bl (bs.any id)) = _
  rw [boolsOf_map]
  simp
/-! ### enumerate -/
def enumF (f : D → Nat → Option D) (x : D) : Option D := match x with
  | .tup [.int i, d] => f d i.toNat
  | _ => none
@[simp] theorem enumF_at (f : D → Nat → Option D) (d : D) (i : Nat) : enumF f (.tup [.int (i : Int), d]) = f d i := rfl
theorem enumD_filterMap (f : D → Nat → Option D) (xs : List D) : (enumD xs).filterMap (enumF f) = xs.zipIdx.filterMap fun p => f p.1 p.2 := by
  unfold enumD
  rw [List.filterMap_map]
  congr 1
theorem enumD_mem {xs : List D} {x : D} (h : x ∈ enumD xs) : ∃ d i, x = .tup [.int (i : Nat), d] ∧ xs[i]? = some d := by
  obtain ⟨i, hi⟩ := List.getElem?_of_mem h
  rw [enumD_get] at hi
  cases q : xs[i]? with
  | none => rw [q] at hi; cases hi
  | some d =>
    rw [q] at hi
    cases hi
    exact ⟨d, i, rfl, q⟩
/-! ### a def's run -/
section
variable {Φ : Phi}
theorem runF_ok {F : Df} {io : List Nat} {as : List Slot} (h1 : as.length = F.ps.length) (h2 : F.ps.length ≤ F.N.length) (h3 : ownIx 0 as = io) (h4 : noneAt as = false) :
    runF Φ F io as = endF F.fr io (evS.go Φ F.body (as ++ List.replicate (F.N.length - as.length) .none)) := if_pos ⟨h1, h2, h3, h4⟩
@[simp] theorem endF_rt (fr : Bool) (ix : List Nat) (d : D) (ρ : Env) : endF fr ix (.rt d ρ) = (match outs ρ ix with | some os => .ok d os | none => .stuck) := rfl
@[simp] theorem outs_nil (ρ : Env) : outs ρ [] = some [] := rfl
@[simp] theorem outs_own (ρ : Env) (i : Nat) (r : List Nat) : outs ρ (i :: r) = (match ρ[i]? with | some (.own xs) => (outs ρ r).map (xs :: ·) | _ => none) := by
  rw [outs]
  cases ρ[i]? with
  | none => rfl
  | some z => cases z <;> cases outs ρ r <;> rfl
end
end Iv
set_option Elab.async false
set_option linter.all false
set_option maxRecDepth 100000
set_option maxHeartbeats 1000000
/-! Iw2: loops of the small language. -/
namespace Iv
open PySem PySem.Spec PyProof.Rows L2

def R.sat {α : Type} (r : R α) (Q : α → Env → Prop) : Prop := match r with
  | .ok a ρ => Q a ρ
  | _ => False
@[simp] theorem sat_ok {α : Type} (a : α) (ρ : Env) (Q : α → Env → Prop) : (R.ok a ρ).sat Q = Q a ρ := rfl
theorem sat_iff {α : Type} {r : R α} {Q : α → Env → Prop} : r.sat Q ↔ ∃ a ρ, r = .ok a ρ ∧ Q a ρ := by
  cases r with
  | ok a ρ => exact ⟨fun h => ⟨a, ρ, rfl, h⟩, fun ⟨_, _, e, h⟩ => by cases e; exact h⟩
  | exc c p ρ => exact ⟨fun h => h.elim, fun ⟨_, _, e, _⟩ => by cases e⟩
  | stuck => exact ⟨fun h => h.elim, fun ⟨_, _, e, _⟩ => by cases e⟩
/-- goes on, or hands back -/
def SR.sat (r : SR) (nx : Env → Prop) (rt : D → Env → Prop) : Prop := match r with
  | .nx ρ => nx ρ
  | .ct ρ => nx ρ
  | .rt d ρ => rt d ρ
  | _ => False
@[simp] theorem ssat_nx (ρ : Env) (nx : Env → Prop) (rt : D → Env → Prop) : (SR.nx ρ).sat nx rt = nx ρ := rfl
@[simp] theorem ssat_ct (ρ : Env) (nx : Env → Prop) (rt : D → Env → Prop) : (SR.ct ρ).sat nx rt = nx ρ := rfl
@[simp] theorem ssat_rt (d : D) (ρ : Env) (nx : Env → Prop) (rt : D → Env → Prop) : (SR.rt d ρ).sat nx rt = rt d ρ := rfl
theorem seqU {r : R Unit} {b : Env → SR} {nx : Env → Prop} {rt : D → Env → Prop} (h : (r.seq fun _ => b).sat nx rt) : ∃ ρ1, r = .ok () ρ1 ∧ (b ρ1).sat nx rt := by
  cases r with
  | ok a ρ1 => exact ⟨ρ1, rfl, h⟩
  | exc c p ρ1 => exact h.elim
  | stuck => exact h.elim
/-! ### for -/
theorem forL_go {g : D → Env → R Unit} {b : Env → SR} {B : D → Env → Prop} : ∀ (ys : List D) (I : Nat → Env → Prop), (∀ i x ρ, ys[i]? = some x → I i ρ → ((g x ρ).seq fun _ => b).sat (I (i + 1)) B) → ∀ ρ, I 0 ρ →
    (∃ ρ', forL g b ys ρ = .nx ρ' ∧ I ys.length ρ') ∨ ∃ d ρ', forL g b ys ρ = .rt d ρ' ∧ B d ρ'
  | [], I, _, ρ, h => .inl ⟨ρ, rfl, h⟩
  | y :: ys, I, hs, ρ, h => by
    obtain ⟨ρ1, h1, h2⟩ := seqU (hs 0 y ρ rfl h)
    have next : ∀ ρ2, I 1 ρ2 → (∃ ρ', forL g b ys ρ2 = .nx ρ' ∧ I (ys.length + 1) ρ') ∨ ∃ d ρ', forL g b ys ρ2 = .rt d ρ' ∧ B d ρ' := fun ρ2 h3 =>
      forL_go ys (fun i => I (i + 1)) (fun i x ρ hx hI => hs (i + 1) x ρ (by simpa using hx) hI) ρ2 h3
    rw [forL, h1]
    show (∃ ρ', (match b ρ1 with | .nx ρ2 => forL g b ys ρ2 | .ct ρ2 => forL g b ys ρ2 | .bk ρ2 => .nx ρ2 | z => z) = SR.nx ρ' ∧ _) ∨ ∃ d ρ', (match b ρ1 with | .nx ρ2 => forL g b ys ρ2 | .ct ρ2 => forL g b ys ρ2 | .bk ρ2 => .nx ρ2 | z => z) = SR.rt d ρ' ∧ _
    cases hb : b ρ1 with
    | nx ρ2 =>
      rw [hb] at h2
      exact next ρ2 h2
    | ct ρ2 =>
      rw [hb] at h2
      exact next ρ2 h2
    | rt d ρ2 =>
      rw [hb] at h2
      exact .inr ⟨d, ρ2, rfl, h2⟩
    | bk ρ2 =>
      rw [hb] at h2
      exact h2.elim
    | exc c p ρ2 =>
      rw [hb] at h2
      exact h2.elim
    | stuck =>
      rw [hb] at h2
      exact h2.elim
/-- a loop that goes on or hands back: I at each turn, B where it hands back -/
theorem forL_sat {g : D → Env → R Unit} {b : Env → SR} {xs : List D} {ρ : Env} (I : Nat → Env → Prop) (B : D → Env → Prop) (h0 : I 0 ρ) (hs : ∀ i x ρ, xs[i]? = some x → I i ρ → ((g x ρ).seq fun _ => b).sat (I (i + 1)) B) :
    (∃ ρ', forL g b xs ρ = .nx ρ' ∧ I xs.length ρ') ∨ ∃ d ρ', forL g b xs ρ = .rt d ρ' ∧ B d ρ' := forL_go xs I hs ρ h0
/-- a loop that goes on -/
theorem forL_nx {g : D → Env → R Unit} {b : Env → SR} {xs : List D} {ρ : Env} (I : Nat → Env → Prop) (h0 : I 0 ρ) (hs : ∀ i x ρ, xs[i]? = some x → I i ρ → ((g x ρ).seq fun _ => b).sat (I (i + 1)) fun _ _ => False) :
    ∃ ρ', forL g b xs ρ = .nx ρ' ∧ I xs.length ρ' := (forL_sat I (fun _ _ => False) h0 hs).resolve_right fun ⟨_, _, _, h⟩ => h
/-! ### while -/
theorem whlN_mono {c : Env → R Bool} {b : Env → SR} : ∀ (n : Nat) (ρ : Env) (r : SR), whlN c b n ρ = some r → ∀ k, whlN c b (n + k) ρ = some r
  | 0, _, _, h => by cases h
  | n + 1, ρ, r, h => by
    intro k
    rw [show n + 1 + k = (n + k) + 1 by omega, whlN]
    rw [whlN] at h
    cases hc : c ρ with
    | stuck =>
      rw [hc] at h
      exact h
    | exc x p ρ1 =>
      rw [hc] at h
      exact h
    | ok t ρ1 =>
      rw [hc] at h
      cases t with
      | false => exact h
      | true =>
        simp only at h ⊢
        cases hb : b ρ1 with
        | nx ρ2 =>
          rw [hb] at h
          exact whlN_mono n ρ2 r h k
        | ct ρ2 =>
          rw [hb] at h
          exact whlN_mono n ρ2 r h k
        | bk ρ2 =>
          rw [hb] at h
          exact h
        | rt d ρ2 =>
          rw [hb] at h
          exact h
        | exc x p ρ2 =>
          rw [hb] at h
          exact h
        | stuck =>
          rw [hb] at h
          exact h
theorem whlF_eq {c : Env → R Bool} {b : Env → SR} {n : Nat} {ρ : Env} {r : SR} (h : whlN c b n ρ = some r) : whlF c b ρ = r := by
  have hh : ∃ n r, whlN c b n ρ = some r := ⟨n, r, h⟩
  unfold whlF
  rw [dif_pos hh]
  have h2 := hh.choose_spec.choose_spec
  have e1 := whlN_mono _ _ _ h hh.choose
  have e2 := whlN_mono _ _ _ h2 n
  rw [Nat.add_comm] at e2
  rw [e1] at e2
  exact (Option.some.inj e2).symm
/-- it ends where the test is false -/
theorem whlF_stop {c : Env → R Bool} {b : Env → SR} {ρ ρ1 : Env} (h : c ρ = .ok false ρ1) : whlF c b ρ = .nx ρ1 := whlF_eq (n := 1) (by rw [whlN, h])
/-- a turn, then the rest -/
theorem whlF_turn {c : Env → R Bool} {b : Env → SR} {ρ ρ1 ρ2 : Env} {r : SR} (h : c ρ = .ok true ρ1) (hb : b ρ1 = .nx ρ2) (hn : ∃ n, whlN c b n ρ2 = some r) : ∃ n, whlN c b n ρ = some r := by
  obtain ⟨n, hn⟩ := hn
  exact ⟨n + 1, by rw [whlN, h]; simp only [hb]; exact hn⟩
theorem whlN_stop {c : Env → R Bool} {b : Env → SR} {ρ ρ1 : Env} (h : c ρ = .ok false ρ1) : ∃ n, whlN c b n ρ = some (.nx ρ1) := ⟨1, by rw [whlN, h]⟩
/-- by a measure: I k the environments from which k turns are left -/
theorem whlF_run {c : Env → R Bool} {b : Env → SR} (I : Nat → Env → Prop) (Q : Env → Prop) (hs : ∀ k ρ, I k ρ → (c ρ).sat fun t ρ1 => if t = true then (b ρ1).sat (fun ρ2 => ∃ j, j < k ∧ I j ρ2) fun _ _ => False else Q ρ1) {k : Nat} {ρ : Env} (h : I k ρ) : ∃ ρ', whlF c b ρ = .nx ρ' ∧ Q ρ' := by
  suffices w : ∀ k ρ, I k ρ → ∃ ρ' n, whlN c b n ρ = some (.nx ρ') ∧ Q ρ' by
    obtain ⟨ρ', n, h1, h2⟩ := w k ρ h
    exact ⟨ρ', whlF_eq h1, h2⟩
  intro k
  induction k using Nat.strongRecOn with
  | _ k ih =>
    intro ρ h
    obtain ⟨t, ρ1, h1, h2⟩ := sat_iff.mp (hs k ρ h)
    cases t with
    | false => exact ⟨ρ1, 1, by rw [whlN, h1], by simpa using h2⟩
    | true =>
      simp only [if_true] at h2
      have go : ∀ ρ2, (∃ j, j < k ∧ I j ρ2) → (b ρ1 = .nx ρ2 ∨ b ρ1 = .ct ρ2) → ∃ ρ' n, whlN c b n ρ = some (.nx ρ') ∧ Q ρ' := fun ρ2 ⟨j, hj, hI⟩ hb => by
        obtain ⟨ρ', n, h3, h4⟩ := ih j hj ρ2 hI
        refine ⟨ρ', n + 1, ?_, h4⟩
        rw [whlN, h1]
        rcases hb with hb | hb
        · simp only [hb]
          exact h3
        · simp only [hb]
          exact h3
      cases hb : b ρ1 with
      | nx ρ2 =>
        rw [hb] at h2
        exact go ρ2 h2 (.inl hb)
      | ct ρ2 =>
        rw [hb] at h2
        exact go ρ2 h2 (.inr hb)
      | rt d ρ2 =>
        rw [hb] at h2
        exact h2.elim
      | bk ρ2 =>
        rw [hb] at h2
        exact h2.elim
      | exc x p ρ2 =>
        rw [hb] at h2
        exact h2.elim
      | stuck =>
        rw [hb] at h2
        exact h2.elim
/-! ### comprehensions -/
/-- one turn: the element, or none -/
def turnC (g : D → Env → R Unit) (c : Env → R Bool) (e : Env → R D) (x : D) (ρ : Env) : R (Option D) := (g x ρ).bind fun _ ρ1 => (c ρ1).bind fun b ρ2 => if b then (e ρ2).bind fun d ρ3 => .ok (some d) ρ3 else .ok none ρ2
/-- I: what stands at the turns' starts, the slots wiped; h: what each item gives -/
theorem compL_sat {g : D → Env → R Unit} {c : Env → R Bool} {e : Env → R D} {ow : List Nat} (I : Nat → List D → Env → Prop) : ∀ (xs : List D) (k : Nat) (acc : List D) (ρ : Env), acc.length + xs.length ≤ line → noOwn ρ ow = true → I k acc (wipeE ρ ow) →
    (∀ i x acc ρ, xs[i]? = some x → I (k + i) acc ρ → (turnC g c e x ρ).sat fun r ρ' => noOwn ρ' ow = true ∧ I (k + i + 1) (acc ++ r.toList) (wipeE ρ' ow)) → ∃ ys ρ', compL g c e ow xs acc ρ = .ok ys ρ' ∧ I (k + xs.length) ys ρ'
  | [], k, acc, ρ, _, hn, hI, _ => ⟨acc, wipeE ρ ow, by rw [compL, if_pos hn], hI⟩
  | x :: xs, k, acc, ρ, hl, hn, hI, hs => by
    have h := hs 0 x acc (wipeE ρ ow) rfl hI
    obtain ⟨r, ρ', h1, h2, h3⟩ := sat_iff.mp h
    have rest := fun (acc' : List D) (hl' : acc'.length + xs.length ≤ line) (hI' : I (k + 1) acc' (wipeE ρ' ow)) => compL_sat I xs (k + 1) acc' ρ' hl' h2 hI' fun i y acc ρ hy hI => by
      have := hs (i + 1) y acc ρ (by simpa using hy) (by rw [show k + (i + 1) = k + 1 + i by omega]; exact hI)
      rw [show k + (i + 1) + 1 = k + 1 + i + 1 by omega] at this
      exact this
    unfold turnC at h1
    obtain ⟨_, ρ1, g1, h1⟩ := bind_ok h1
    obtain ⟨b, ρ2, g2, h1⟩ := bind_ok h1
    rw [compL, if_pos hn, g1]
    simp only [bind_ok_, g2]
    have hlen : k + (x :: xs).length = k + 1 + xs.length := by
      rw [List.length_cons]
      omega
    rw [hlen]
    simp only [List.length_cons] at hl
    cases b with
    | false =>
      cases h1
      simp only [Bool.false_eq_true, if_false]
      exact rest acc (by omega) (by simpa using h3)
    | true =>
      simp only [if_true] at h1 ⊢
      obtain ⟨d, ρ3, g3, h1⟩ := bind_ok h1
      cases h1
      rw [g3]
      simp only [bind_ok_]
      rw [if_pos (by omega)]
      exact rest (acc ++ [d]) (by rw [List.length_append, List.length_singleton]; omega) (by simpa using h3)
/-- a comprehension whose turns leave the rest as it is -/
theorem compL_pure {g : D → Env → R Unit} {c : Env → R Bool} {e : Env → R D} {ow : List Nat} {xs : List D} {ρ ρw : Env} (h : D → Option D) (hl : xs.length ≤ line) (hn : noOwn ρ ow = true) (hw : wipeE ρ ow = ρw)
    (hs : ∀ x ∈ xs, (turnC g c e x ρw).sat fun r ρ' => r = h x ∧ noOwn ρ' ow = true ∧ wipeE ρ' ow = ρw) : compL g c e ow xs [] ρ = .ok (xs.filterMap h) ρw := by
  obtain ⟨ys, ρ', h1, h2, h3⟩ := compL_sat (g := g) (c := c) (e := e) (ow := ow) (fun k acc ρ => acc = (xs.take k).filterMap h ∧ ρ = ρw) xs 0 [] ρ (by simpa using hl) hn ⟨rfl, hw⟩ fun i x acc ρ hx hI => by
    obtain ⟨rfl, rfl⟩ := hI
    obtain ⟨r, ρ', k1, k2, k3, k4⟩ := sat_iff.mp (hs x (List.mem_of_getElem? hx))
    rw [k1]
    refine ⟨k3, ?_, k4⟩
    rw [Nat.zero_add, List.take_add_one, hx, k2, List.filterMap_append]
    have e : (some x).toList.filterMap h = (h x).toList := by
      show [x].filterMap h = _
      rw [List.filterMap_cons]
      cases h x <;> rfl
    rw [e]
  rw [h1, h2, h3, Nat.zero_add, List.take_length]
/-! ### keys -/
/-- keys that leave the rest as it is -/
theorem keyL_pure {e : Env → R D} {i : Nat} {ρ : Env} (f : D → D) (h0 : ρ[i]? = some .none) : ∀ (xs : List D), (∀ x ∈ xs, e (ρ.set i (.dat x)) = .ok (f x) (ρ.set i (.dat x))) → keyL e i xs ρ = .ok (xs.map f) ρ
  | [], _ => by rw [keyL]; rfl
  | x :: xs, h => by
    have hl := getElem?_lt h0
    have e1 : ((ρ.set i (.dat x))[i]?) = some (.dat x) := List.getElem?_set_self hl
    have e2 : (ρ.set i (.dat x)).set i .none = ρ := by
      rw [List.set_set]
      obtain ⟨_, h1⟩ := List.getElem?_eq_some_iff.mp h0
      rw [← h1]
      exact List.set_getElem_self hl
    rw [keyL]
    simp only [h0]
    rw [h x (List.mem_cons_self ..)]
    simp only [bind_ok_, e1, e2]
    rw [keyL_pure f h0 xs fun y hy => h y (List.mem_cons_of_mem _ hy)]
    rfl
end Iv
set_option Elab.async false
set_option linter.all false
set_option maxRecDepth 100000
set_option maxHeartbeats 1000000
/-! Iw3: what may be shown by repr. -/
namespace Iv
open PySem PySem.Spec PyProof.Rows L2

mutual
/-- no shorter than the text of it -/
def D.wt : D → Nat
  | .non => 4
  | .bl _ => 5
  | .int _ => 22
  | .str x => (reprText x).length
  | .tup xs => D.wtL xs + 3
  | .lst xs => D.wtL xs + 3
  | .emp => 2
def D.wtL : List D → Nat
  | [] => 0
  | x :: xs => D.wt x + 2 + D.wtL xs
end
mutual
/-- its ints are of twenty figures at most -/
def D.num : D → Bool
  | .int i => decide (-(10 ^ 20) < i) && decide (i < 10 ^ 20)
  | .tup xs => D.numL xs
  | .lst xs => D.numL xs
  | _ => true
def D.numL : List D → Bool
  | [] => true
  | x :: xs => D.num x && D.numL xs
end
mutual
def D.deep : D → Nat
  | .tup xs => D.deepL xs + 1
  | .lst xs => D.deepL xs + 1
  | .emp => 1
  | _ => 0
def D.deepL : List D → Nat
  | [] => 0
  | x :: xs => max (D.deep x) (D.deepL xs)
end
mutual
theorem deep_p : ∀ d : D, d.p.depth = d.deep
  | .non => by simp [D.p, D.deep, PyData.depth]
  | .bl _ => by simp [D.p, D.deep, PyData.depth]
  | .int _ => by simp [D.p, D.deep, PyData.depth]
  | .str _ => by simp [D.p, D.deep, PyData.depth]
  | .tup xs => by simp [D.p, D.deep, PyData.depth, deep_pL xs]
  | .lst xs => by simp [D.p, D.deep, PyData.depth, deep_pL xs]
  | .emp => by simp [D.p, D.deep, PyData.depth, PyData.depthKv]
theorem deep_pL : ∀ xs : List D, PyData.depthAll (D.pAll xs) = D.deepL xs
  | [] => by simp [D.pAll, D.deepL, PyData.depthAll]
  | x :: xs => by simp [D.pAll, D.deepL, PyData.depthAll, deep_p x, deep_pL xs]
end
theorem int_text (i : Int) (h : -(10 ^ 20) < i ∧ i < 10 ^ 20) : ((toString i : String) : Str).length ≤ 22 := by
  show (Str.ofString (toString i)).length ≤ 22
  by_cases h0 : 0 ≤ i
  · have := PyProof.Rows.toString_length_le h0 (k := 20) (by decide) (by omega)
    omega
  · obtain ⟨m, rfl⟩ : ∃ m : Nat, i = Int.negSucc m := by
      cases i with
      | ofNat n => exact absurd (Int.natCast_nonneg n) h0
      | negSucc m => exact ⟨m, rfl⟩
    have e : toString (Int.negSucc m) = "-" ++ toString ((m + 1 : Nat) : Int) := rfl
    have hb := PyProof.Rows.toString_length_le (v := ((m + 1 : Nat) : Int)) (by omega) (k := 20) (by decide) (by omega)
    rw [PySem.ofString_length] at hb ⊢
    rw [e, String.length_append]
    have : ("-" : String).length = 1 := rfl
    omega
theorem textFrom_le : ∀ (ts : List Str) (k : Nat) (acc : Str), (textFrom k acc ts).length ≤ acc.length + piled ts
  | [], k, acc => by
    show acc.length ≤ _
    omega
  | t :: ts, k, acc => by
    have ih := textFrom_le ts (k + 1) (acc ++ (if k > 0 then ", " else "" : String) ++ t)
    have e : (((if k > 0 then ", " else "" : String) : Str)).length ≤ 2 := by
      split
      · exact Nat.le_refl 2
      · exact Nat.zero_le 2
    rw [strLen_append, strLen_append] at ih
    rw [piled_cons]
    show (textFrom (k + 1) (acc ++ (if k > 0 then ", " else "" : String) ++ t) ts).length ≤ _
    omega
theorem list_text_le (ts : List Str) : (listText ts).length ≤ piled ts + 3 := by
  unfold listText
  have := textFrom_le ts 0 "["
  rw [strLen_append]
  have e1 : (("[" : String) : Str).length = 1 := rfl
  have e2 : (("]" : String) : Str).length = 1 := rfl
  omega
theorem tuple_text_le (ts : List Str) : (tupleText ts).length ≤ piled ts + 3 := by
  unfold tupleText
  rw [strLen_append, strLen_append]
  have e1 : (("(" : String) : Str).length = 1 := rfl
  have e2 : (((if ts.length == 1 then ",)" else ")" : String) : Str)).length ≤ 2 := by
    split
    · exact Nat.le_refl 2
    · exact Nat.le_succ 1
  cases ts with
  | nil =>
    have : (Str.join ", " []).length = 0 := rfl
    omega
  | cons t ts =>
    have := join_length_add (t :: ts) (by simp)
    omega
mutual
theorem shown_le : ∀ d : D, d.num = true → d.p.shown.length ≤ d.wt ∧ d.p.showable = true
  | .non, _ => by
    simp only [D.p, D.wt, PyData.shown, PyData.showable]
    exact ⟨Nat.le_refl 4, trivial⟩
  | .bl b, _ => by
    simp only [D.p, D.wt, PyData.shown, PyData.showable]
    cases b
    · exact ⟨Nat.le_refl 5, trivial⟩
    · exact ⟨Nat.le_succ 4, trivial⟩
  | .int i, h => by
    simp only [D.num, Bool.and_eq_true, decide_eq_true_eq] at h
    simp only [D.p, D.wt, PyData.shown, PyData.showable, decide_eq_true_eq]
    refine ⟨int_text i h, ?_⟩
    by_cases h0 : i.natAbs = 0
    · rw [h0]
      decide
    · have := (Nat.log2_lt (k := 67) h0).mpr (by omega)
      omega
  | .str x, _ => by
    simp only [D.p, D.wt, PyData.shown, PyData.showable]
    exact ⟨Nat.le_refl _, trivial⟩
  | .tup xs, h => by
    simp only [D.num] at h
    obtain ⟨h1, h2⟩ := shown_leL xs h
    simp only [D.p, D.wt, PyData.shown, PyData.showable]
    have := tuple_text_le (PyData.shownAll (D.pAll xs))
    exact ⟨by omega, h2⟩
  | .lst xs, h => by
    simp only [D.num] at h
    obtain ⟨h1, h2⟩ := shown_leL xs h
    simp only [D.p, D.wt, PyData.shown, PyData.showable]
    have := list_text_le (PyData.shownAll (D.pAll xs))
    exact ⟨by omega, h2⟩
  | .emp, _ => by
    simp only [D.p, D.wt, PyData.shown, PyData.showable, PyData.showableKv]
    exact ⟨by decide +kernel, trivial⟩
theorem shown_leL : ∀ xs : List D, D.numL xs = true → piled (PyData.shownAll (D.pAll xs)) ≤ D.wtL xs ∧ PyData.showableAll (D.pAll xs) = true
  | [], _ => by
    simp only [D.pAll, D.wtL, PyData.shownAll, PyData.showableAll]
    exact ⟨Nat.le_refl 0, trivial⟩
  | x :: xs, h => by
    simp only [D.numL, Bool.and_eq_true] at h
    obtain ⟨h1, h2⟩ := shown_le x h.1
    obtain ⟨h3, h4⟩ := shown_leL xs h.2
    simp only [D.pAll, D.wtL, PyData.shownAll, PyData.showableAll, piled_cons, h2, h4, Bool.and_self]
    exact ⟨by omega, trivial⟩
end
/-- small enough to be shown -/
def showB (d : D) : Bool := d.num && decide (d.deep ≤ 60) && decide (d.wt ≤ line)
theorem reprD_ok {d : D} (h : showB d = true) : reprD d = some (.str d.p.shown) := by
  simp only [showB, Bool.and_eq_true, decide_eq_true_eq] at h
  obtain ⟨⟨h1, h2⟩, h3⟩ := h
  obtain ⟨k1, k2⟩ := shown_le d h1
  have : reprOk d = true := by
    unfold reprOk
    rw [k2, deep_p]
    simp only [Bool.true_and, Bool.and_eq_true, decide_eq_true_eq]
    exact ⟨h2, by omega⟩
  unfold reprD
  rw [if_pos this]
end Iv
set_option Elab.async false
set_option linter.all false
set_option maxRecDepth 100000
set_option maxHeartbeats 1000000
/-! Iw4: what repr shows is a text of true signs. -/
namespace Iv
open PySem PySem.Spec PyProof.Rows L2

def SignOk (l : List Nat) : Prop := ∀ c ∈ l, c < 0x110000
def TrueT (x : Str) : Prop := SignOk x.cps.toList
theorem TrueT.app {a b : Str} (ha : TrueT a) (hb : TrueT b) : TrueT (a ++ b) := by
  intro c hc
  have hc' : c ∈ (a.cps ++ b.cps).toList := hc
  rw [Array.toList_append, List.mem_append] at hc'
  exact hc'.elim (ha c) (hb c)
theorem char_lt (c : Char) : c.toNat < 0x110000 := by
  have h := c.valid
  show c.val.toNat < _
  rcases h with h | ⟨_, h⟩
  · exact Nat.lt_trans h (by decide)
  · exact h
theorem chars_ok (l : List Char) : SignOk (l.map Char.toNat) := by
  intro n hn
  obtain ⟨c, _, rfl⟩ := List.mem_map.mp hn
  exact char_lt c
theorem TrueT.of (s : String) : TrueT (s : Str) := by
  show SignOk (Str.ofString s).cps.toList
  rw [Str.ofString_eq_toList]
  exact chars_ok _
theorem SignOk.app {a b : List Nat} (ha : SignOk a) (hb : SignOk b) : SignOk (a ++ b) := by
  intro c hc
  rw [List.mem_append] at hc
  exact hc.elim (ha c) (hb c)
theorem signs_cons {x : Nat} {l : List Nat} (hx : x < 0x110000) (hl : SignOk l) : SignOk (x :: l) := by
  intro c hc
  rcases List.mem_cons.mp hc with rfl | h
  · exact hx
  · exact hl c h
theorem signs_nil : SignOk [] := fun _ h => nomatch h
theorem signs_rep (n : Nat) : SignOk (List.replicate n 48) := by
  intro c hc
  rw [List.mem_replicate] at hc
  omega
theorem sign_ok (q c : Nat) (hc : c < 0x110000) : SignOk (Builtin.Str.reprChar q c) := by
  unfold Builtin.Str.reprChar
  have h : ∀ w : Nat, SignOk (List.replicate (w - ((Nat.toDigits 16 c).map Char.toNat).length) 48 ++ (Nat.toDigits 16 c).map Char.toNat) := fun w => (signs_rep _).app (chars_ok _)
  dsimp only
  repeat' split
  all_goals first
    | exact signs_cons (by decide) (signs_cons hc signs_nil)
    | exact signs_cons (by decide) (signs_cons (by decide) signs_nil)
    | exact signs_cons hc signs_nil
    | exact (signs_cons (by decide) (signs_cons (by decide) signs_nil)).app (h _)
theorem fold_signs (q : Nat) : ∀ (l : List Nat) (acc : Array Nat), SignOk l → SignOk acc.toList → SignOk (l.foldl (fun out c => out ++ (Builtin.Str.reprChar q c).toArray) acc).toList
  | [], acc, _, h => h
  | c :: l, acc, hl, h => by
    refine fold_signs q l _ (fun x hx => hl x (List.mem_cons_of_mem _ hx)) ?_
    rw [Array.toList_append]
    exact h.app (sign_ok q c (hl c (List.mem_cons_self ..)))
theorem TrueT.repr {x : Str} (h : TrueT x) : TrueT (reprText x) := by
  have hq : reprQuote x < 0x110000 := by
    unfold reprQuote
    split <;> decide
  show SignOk ((x.cps.foldl (fun out c => out ++ (Builtin.Str.reprChar (reprQuote x) c).toArray) #[reprQuote x]).push (reprQuote x)).toList
  rw [Array.toList_push, ← Array.foldl_toList]
  exact (fold_signs _ _ _ h (signs_cons hq signs_nil)).app (signs_cons hq signs_nil)
theorem TrueT.from : ∀ (ts : List Str) (k : Nat) (acc : Str), (∀ t ∈ ts, TrueT t) → TrueT acc → TrueT (textFrom k acc ts)
  | [], _, _, _, h => h
  | t :: ts, k, acc, hs, h => by
    refine TrueT.from ts (k + 1) _ (fun x hx => hs x (List.mem_cons_of_mem _ hx)) ?_
    exact (h.app (TrueT.of _)).app (hs t (List.mem_cons_self ..))
theorem TrueT.join (s : String) : ∀ ts : List Str, (∀ t ∈ ts, TrueT t) → TrueT (Str.join s ts)
  | [], _ => fun _ h => nomatch h
  | [x], hs => hs x (List.mem_cons_self ..)
  | x :: y :: r, hs => ((hs x (List.mem_cons_self ..)).app (TrueT.of s)).app (TrueT.join s (y :: r) fun t ht => hs t (List.mem_cons_of_mem _ ht))
theorem TrueT.list {ts : List Str} (h : ∀ t ∈ ts, TrueT t) : TrueT (listText ts) := (TrueT.from ts 0 _ h (TrueT.of "[")).app (TrueT.of "]")
theorem TrueT.tuple {ts : List Str} (h : ∀ t ∈ ts, TrueT t) : TrueT (tupleText ts) := ((TrueT.of "(").app (TrueT.join ", " ts h)).app (TrueT.of _)
theorem true_ok {x : Str} (h : TrueT x) : shOk (.str x) = true := by
  have h1 : PyData.strOk x = true := by
    unfold PyData.strOk
    rw [← Array.all_toList, List.all_eq_true]
    intro c hc
    exact decide_eq_true (h c hc)
  simp [shOk, SeqAt.shaped, D.p, PyData.canLay0, PyData.depth, h1]
theorem str_true {x : Str} (h1 : PyData.strOk x = true) : TrueT x := by
  unfold PyData.strOk at h1
  rw [← Array.all_toList, List.all_eq_true] at h1
  exact fun c hc => of_decide_eq_true (h1 c hc)
theorem ok_true {x : Str} (h : (D.str x).p.canLay0 = true) : TrueT x := str_true (by simpa [D.p, PyData.canLay0] using h)
mutual
/-- its texts are true ones -/
def D.cl : D → Bool
  | .str x => PyData.strOk x
  | .tup xs => D.clL xs
  | .lst xs => D.clL xs
  | _ => true
def D.clL : List D → Bool
  | [] => true
  | x :: xs => D.cl x && D.clL xs
end
mutual
theorem cl_lay : ∀ d : D, d.p.canLay0 = true → d.cl = true
  | .non, _ => rfl
  | .bl b, _ => rfl
  | .int i, _ => rfl
  | .str x, h => by simpa [D.p, PyData.canLay0, D.cl] using h
  | .tup xs, h => by
    simp only [D.p, PyData.canLay0] at h
    simpa [D.cl] using cl_layL xs h
  | .lst xs, h => by
    simp only [D.p, PyData.canLay0] at h
    simpa [D.cl] using cl_layL xs h
  | .emp, _ => rfl
theorem cl_layL : ∀ xs : List D, PyData.canLayAll0 (D.pAll xs) = true → D.clL xs = true
  | [], _ => rfl
  | x :: xs, h => by
    simp only [D.pAll, PyData.canLayAll0, Bool.and_eq_true] at h
    simp only [D.clL, Bool.and_eq_true]
    exact ⟨cl_lay x h.1, cl_layL xs h.2⟩
end
mutual
theorem shown_true : ∀ d : D, d.cl = true → TrueT d.p.shown
  | .non, _ => by
    simp only [D.p, PyData.shown]
    exact TrueT.of _
  | .bl b, _ => by
    simp only [D.p, PyData.shown]
    cases b
    · exact TrueT.of _
    · exact TrueT.of _
  | .int i, h => by
    simp only [D.p, PyData.shown]
    exact TrueT.of _
  | .str x, h => by
    have := str_true (x := x) (by simpa [D.cl] using h)
    simp only [D.p, PyData.shown]
    exact this.repr
  | .tup xs, h => by
    simp only [D.cl] at h
    have := shown_trueL xs h
    simp only [D.p, PyData.shown]
    exact TrueT.tuple this
  | .lst xs, h => by
    simp only [D.cl] at h
    have := shown_trueL xs h
    simp only [D.p, PyData.shown]
    exact TrueT.list this
  | .emp, _ => by
    simp only [D.p, PyData.shown, PyData.shownKv]
    exact TrueT.of "{}"
theorem shown_trueL : ∀ xs : List D, D.clL xs = true → ∀ t ∈ PyData.shownAll (D.pAll xs), TrueT t
  | [], _ => by
    simp only [D.pAll, PyData.shownAll]
    exact fun _ h => nomatch h
  | x :: xs, h => by
    simp only [D.clL, Bool.and_eq_true] at h
    have h1 := shown_true x h.1
    have h2 := shown_trueL xs h.2
    simp only [D.pAll, PyData.shownAll]
    intro t ht
    rcases List.mem_cons.mp ht with rfl | ht
    · exact h1
    · exact h2 t ht
end
/-- what repr gives may be compared -/
theorem sh_shownC {d : D} (h : d.cl = true) : shOk (.str d.p.shown) = true := true_ok (shown_true d h)
theorem sh_shown {d : D} (h : d.p.canLay0 = true) : shOk (.str d.p.shown) = true := sh_shownC (cl_lay d h)
end Iv
set_option Elab.async false
set_option linter.all false
set_option maxRecDepth 100000
set_option maxHeartbeats 1000000
namespace Tr
open PySem PySem.Spec PyProof.Rows L2 Iv
def isInt : D → Bool
  | .int _ => true
  | _ => false
theorem isInt_eq (d : D) : (d.isA "int" && !d.isA "bool") = isInt d := by cases d <;> rfl
def within (d : D) (lo hi : Int) : Bool := match d with
  | .int i => decide (lo ≤ i) && decide (i ≤ hi)
  | _ => false
def isRow (d : D) (k : Int) : Bool := match d with
  | .tup xs => decide ((xs.length : Int) = k)
  | _ => false
def isTie (d : D) (k : Int) : Bool := match d with
  | .tup [a, b] => within a 0 k && within b 1 999
  | _ => false
/-! ### trees among all values -/
def isTree (d : D) : Bool := match d with
  | .tup [.str s, .tup xs] => decide (s = ("tree" : Str)) && decide (xs.length < 24) && (xs.zipIdx.all fun p => isTie p.1 (p.2 : Nat))
  | _ => false
theorem tree_str : shOk (.str ("tree" : Str)) = true := by decide +kernel
theorem notInt (d : D) : (!(d.isA "int") || d.isA "bool") = !isInt d := by cases d <;> rfl
/-! ### the pot -/
def Pot (p : List D) : Prop := ∃ a b : Int, p = [.int a, .int b] ∧ 0 ≤ a ∧ 0 ≤ b ∧ b ≤ 2147483647
theorem mulOk_l {i j : Int} (h : -(2 ^ 64) < i ∧ i < 2 ^ 64) : mulOk i j = true := by
  unfold mulOk
  have : i.natAbs < 2 ^ 64 := by omega
  simp [this]
theorem mulOk_r {i j : Int} (h : -(2 ^ 64) < j ∧ j < 2 ^ 64) : mulOk i j = true := by
  unfold mulOk
  have : j.natAbs < 2 ^ 64 := by omega
  simp [this]
theorem divmodD_small {i j : Int} (h : 0 < j) (h2 : j < 1000000000) : divmodD (.int i) (.int j) = some (.tup [.int (i / j), .int (i % j)]) := by
  have : Builtin.divisionGoesByPylong i j = false := PyProof.noPylong_small (by omega)
  unfold divmodD
  simp [h, this]
theorem setAt_0 (x y v : D) : setAt [x, y] (.int 0) v = some [v, y] := rfl
theorem setAt_1 (x y v : D) : setAt [x, y] (.int 1) v = some [x, v] := rfl
def nextB (b : Int) : Int := (b * 39373 + 211) % 2147483587
theorem nextB_ok (b : Int) : 0 ≤ nextB b ∧ nextB b < 2147483587 := ⟨Int.emod_nonneg _ (by omega), Int.emod_lt_of_pos _ (by omega)⟩
/-! ### trees -/
/-- father and length of each place but the first -/
abbrev Ties : Type := List (Nat × Nat)
def tieD (p : Nat × Nat) : D := .tup [.int (p.1 : Int), .int (p.2 : Int)]
def treeD (ts : Ties) : D := .tup [.str ("tree" : Str), .tup (ts.map tieD)]
structure GoodT (ts : Ties) : Prop where
  len : ts.length ≤ 23
  fat : ∀ (i : Nat) (p : Nat × Nat), ts[i]? = some p → p.1 ≤ i
  lo : ∀ (i : Nat) (p : Nat × Nat), ts[i]? = some p → 1 ≤ p.2
  hi : ∀ (i : Nat) (p : Nat × Nat), ts[i]? = some p → p.2 ≤ 999
/-- the father of a place -/
def fat (ts : Ties) (p : Nat) : Nat := match ts[p - 1]? with
  | some q => q.1
  | none => 0
theorem fat_lt {ts : Ties} (g : GoodT ts) {p : Nat} (h : 0 < p) : fat ts p < p := by
  unfold fat
  split
  · rename_i q hq
    have := g.fat _ _ hq
    omega
  · exact h
/-- the way up, with fuel -/
def upF (ts : Ties) : Nat → Nat → List Nat
  | 0, p => [p]
  | n + 1, p => p :: (if p = 0 then [] else upF ts n (fat ts p))
def up (ts : Ties) (p : Nat) : List Nat := upF ts p p
theorem upF_eq {ts : Ties} (g : GoodT ts) : ∀ n p, p ≤ n → upF ts n p = up ts p := by
  suffices h : ∀ n m p, p ≤ n → p ≤ m → upF ts n p = upF ts m p from fun n p hp => h n p p hp (Nat.le_refl _)
  intro n
  induction n with
  | zero =>
    intro m p h1 h2
    have : p = 0 := by omega
    subst this
    cases m <;> rfl
  | succ n ih =>
    intro m p h1 h2
    cases m with
    | zero =>
      have : p = 0 := by omega
      subst this
      rfl
    | succ m =>
      rw [upF, upF]
      by_cases q : p = 0
      · rw [if_pos q, if_pos q]
      · rw [if_neg q, if_neg q]
        have := fat_lt g (p := p) (by omega)
        rw [ih m (fat ts p) (by omega) (by omega)]
theorem up_0 (ts : Ties) : up ts 0 = [0] := rfl
theorem up_pos {ts : Ties} (g : GoodT ts) {p : Nat} (h : 0 < p) : up ts p = p :: up ts (fat ts p) := by
  have hf := fat_lt g h
  obtain ⟨n, rfl⟩ : ∃ n, p = n + 1 := ⟨p - 1, by omega⟩
  show upF ts (n + 1) (n + 1) = _
  rw [upF, if_neg (by omega), upF_eq g n _ (by omega)]
theorem up_le {ts : Ties} (g : GoodT ts) : ∀ p, ∀ x ∈ up ts p, x ≤ p := by
  intro p
  induction p using Nat.strongRecOn with
  | _ p ih =>
    intro x hx
    by_cases h : p = 0
    · subst h
      simpa [up_0] using hx
    · rw [up_pos g (by omega)] at hx
      rcases List.mem_cons.mp hx with q | q
      · omega
      · have := ih (fat ts p) (fat_lt g (by omega)) x q
        have := fat_lt g (p := p) (by omega)
        omega
theorem up_self (ts : Ties) (p : Nat) : ∃ r, up ts p = p :: r := by
  unfold up
  cases p <;> exact ⟨_, rfl⟩
theorem up_len {ts : Ties} (g : GoodT ts) : ∀ p, (up ts p).length ≤ p + 1 := by
  intro p
  induction p using Nat.strongRecOn with
  | _ p ih =>
    by_cases h : p = 0
    · subst h
      simp [up_0]
    · rw [up_pos g (by omega)]
      have := ih (fat ts p) (fat_lt g (by omega))
      have := fat_lt g (p := p) (by omega)
      simp
      omega
/-! ### data of them -/
abbrev natD (n : Nat) : D := .int (n : Int)
theorem ties_at {ts : Ties} {p : Nat} (h : p < ts.length) : atI (ts.map tieD) ((p : Nat) : Int) = some (tieD ts[p]) := by
  rw [Iv.atI_nat, List.getElem?_map, List.getElem?_eq_getElem h]
  rfl
theorem last_of (acc : List Nat) (q : Nat) : atI ((acc ++ [q]).map natD) (-1) = some (natD q) := by
  rw [Iv.atI_last, List.getLast?_map]
  simp
theorem up_line {ts : Ties} (g : GoodT ts) {p : Nat} (hp : p ≤ ts.length) : (up ts p).length < line := by
  have := up_len g p
  have := g.len
  unfold line
  omega
/-! ### depths -/
def dStep (ds : List Nat) (q : Nat × Nat) : List Nat := ds ++ [ds.getD q.1 0 + q.2]
def depthsT (ts : Ties) : List Nat := ts.foldl dStep [0]
theorem depths_snoc (ts : Ties) (q : Nat × Nat) : depthsT (ts ++ [q]) = dStep (depthsT ts) q := by
  unfold depthsT
  rw [List.foldl_append]
  rfl
theorem depths_len (ts : Ties) : (depthsT ts).length = ts.length + 1 := by
  unfold depthsT
  suffices h : ∀ (l : Ties) (ds : List Nat), (l.foldl dStep ds).length = ds.length + l.length by
    rw [h]
    simp
    omega
  intro l
  induction l with
  | nil => intro ds; rfl
  | cons q l ih =>
    intro ds
    rw [List.foldl_cons, ih, dStep]
    simp
    omega
theorem nat_at {l : List Nat} {i : Nat} (h : i < l.length) : atI (l.map natD) ((i : Nat) : Int) = some (natD (l.getD i 0)) := by
  rw [Iv.atI_nat, List.getElem?_map, List.getElem?_eq_getElem h, List.getD_eq_getElem?_getD, List.getElem?_eq_getElem h]
  rfl
theorem take_snoc {α : Type} {l : List α} {i : Nat} {x : α} (h : l[i]? = some x) : l.take (i + 1) = l.take i ++ [x] := by
  rw [List.take_add_one, h]
  rfl
/-! ### where two ways up meet -/
theorem up_split {ts : Ties} (g : GoodT ts) : ∀ p x, x ∈ up ts p → ∃ B, up ts p = B ++ up ts x := by
  intro p
  induction p using Nat.strongRecOn with
  | _ p ih =>
    intro x hx
    by_cases h : p = 0
    · subst h
      rw [up_0] at hx
      have : x = 0 := by simpa using hx
      subst this
      exact ⟨[], rfl⟩
    · by_cases q : x = p
      · subst q
        exact ⟨[], rfl⟩
      · have e := up_pos g (p := p) (by omega)
        rw [e] at hx
        have hx' := (List.mem_cons.mp hx).resolve_left q
        obtain ⟨B, hB⟩ := ih (fat ts p) (fat_lt g (by omega)) x hx'
        exact ⟨p :: B, by rw [e, hB]; rfl⟩
theorem up_dec {ts : Ties} (g : GoodT ts) : ∀ p, (up ts p).Pairwise (· > ·) := by
  intro p
  induction p using Nat.strongRecOn with
  | _ p ih =>
    by_cases h : p = 0
    · subst h
      simp [up_0]
    · rw [up_pos g (by omega)]
      refine List.pairwise_cons.mpr ⟨fun x hx => ?_, ih _ (fat_lt g (by omega))⟩
      have := up_le g _ x hx
      have := fat_lt g (p := p) (by omega)
      omega
theorem up_zero {ts : Ties} (g : GoodT ts) : ∀ p, 0 ∈ up ts p := by
  intro p
  induction p using Nat.strongRecOn with
  | _ p ih =>
    by_cases h : p = 0
    · subst h
      simp [up_0]
    · rw [up_pos g (by omega)]
      exact List.mem_cons_of_mem _ (ih _ (fat_lt g (by omega)))
structure Meet (ts : Ties) (p q : Nat) (A B : List Nat) (t : Nat) : Prop where
  u : up ts p = A ++ up ts t
  v : up ts q = B ++ up ts t
  a : ∀ x ∈ A, x ∉ up ts q
  b : ∀ x ∈ B, x ∉ up ts p
theorem first_split {α : Type} {P : α → Prop} [DecidablePred P] : ∀ {l : List α} {x : α}, x ∈ l → P x → ∃ A y R, l = A ++ y :: R ∧ P y ∧ ∀ z ∈ A, ¬ P z
  | a :: l, x, hx, hp => by
    by_cases h : P a
    · exact ⟨[], a, l, rfl, h, fun z hz => by cases hz⟩
    · have hx' : x ∈ l := (List.mem_cons.mp hx).resolve_left fun e => h (e ▸ hp)
      obtain ⟨A, y, R, h1, h2, h3⟩ := first_split hx' hp
      exact ⟨a :: A, y, R, by rw [h1]; rfl, h2, fun z hz => by
        rcases List.mem_cons.mp hz with e | e
        · rw [e]
          exact h
        · exact h3 z e⟩
theorem meet_at {ts : Ties} (g : GoodT ts) (p q : Nat) : ∃ A B t, Meet ts p q A B t := by
  obtain ⟨A, t, R, h1, h2, h3⟩ := first_split (P := fun x => x ∈ up ts q) (up_zero g p) (up_zero g q)
  have ht : t ∈ up ts p := by
    rw [h1]
    simp
  obtain ⟨A', hA⟩ := up_split g p t ht
  obtain ⟨B, hB⟩ := up_split g q t h2
  obtain ⟨r, hr⟩ := up_self ts t
  have decp := up_dec g p
  -- the two splits of the way up from p at t are one
  have eA : A' = A := by
    have e : A ++ t :: R = A' ++ t :: r := by rw [← h1, hA, hr]
    have nd : (A ++ t :: R).Nodup := by
      rw [← h1]
      exact decp.imp fun h => Nat.ne_of_gt h
    have n1 : t ∉ A := fun h => (List.nodup_append.mp nd).2.2 t h t (by simp) rfl
    have nd2 : (A' ++ t :: r).Nodup := e ▸ nd
    have n2 : t ∉ A' := fun h => (List.nodup_append.mp nd2).2.2 t h t (by simp) rfl
    have l1 : (A ++ t :: R).idxOf t = A.length := by rw [List.idxOf_append, if_neg n1, List.idxOf_cons_self, Nat.zero_add]
    have l2 : (A' ++ t :: r).idxOf t = A'.length := by rw [List.idxOf_append, if_neg n2, List.idxOf_cons_self, Nat.zero_add]
    rw [e, l2] at l1
    exact (List.append_inj e l1.symm).1.symm
  subst eA
  refine ⟨A', B, t, hA, hB, h3, fun x hx hp => ?_⟩
  have decq := up_dec g q
  rw [hB, hr] at decq
  have gt : x > t := (List.pairwise_append.mp decq).2.2 x hx t (by simp)
  rw [hA] at hp
  rcases List.mem_append.mp hp with h | h
  · exact h3 x h (by rw [hB]; exact List.mem_append_left _ hx)
  · have := up_le g t x h
    omega
theorem cutL_lo {α : Type} (xs : List α) (k : Nat) : cutL xs (some ((k : Nat) : Int)) none = xs.drop k := by
  unfold cutL
  rw [HT.sIx_nat]
  show (xs.drop (min k xs.length)).take (xs.length - min k xs.length) = _
  by_cases h : k ≤ xs.length
  · rw [Nat.min_eq_left h, List.take_of_length_le (by rw [List.length_drop]; omega)]
  · rw [Nat.min_eq_right (by omega), List.drop_eq_nil_of_le (Nat.le_refl _), List.drop_eq_nil_of_le (by omega), List.take_nil]
theorem cutL_hi {α : Type} (xs : List α) (k : Nat) : cutL xs none (some ((k : Nat) : Int)) = xs.take k := by
  unfold cutL
  rw [HT.sIx_nat]
  show (xs.drop 0).take (min k xs.length - 0) = _
  rw [List.drop_zero, Nat.sub_zero]
  by_cases h : k ≤ xs.length
  · rw [Nat.min_eq_left h]
  · rw [Nat.min_eq_right (by omega), List.take_length, List.take_of_length_le (by omega)]
theorem cutL_lo1 {α : Type} (xs : List α) : cutL xs (some 1) none = xs.drop 1 := cutL_lo xs 1
theorem last2 (L : List Nat) (a b : Nat) : atI ((L ++ [a, b]).map natD) (-2) = some (natD a) := by
  have h : (L ++ [a, b]).length = L.length + 2 := by simp
  have := atI_neg ((L ++ [a, b]).map natD) 1 (by rw [List.length_map, h]; omega)
  rw [show (-(((1 : Nat) : Int) + 1)) = (-2 : Int) by omega] at this
  rw [this, List.length_map, h, List.getElem?_map, show L.length + 2 - (1 + 1) = L.length by omega, List.getElem?_append_right (Nat.le_refl _), Nat.sub_self]
  rfl
/-! ### lists of numbers as data -/
theorem intsOf_nats : ∀ l : List Nat, intsOf (l.map natD) = some (l.map fun n : Nat => (n : Int))
  | [] => rfl
  | x :: l => by
    rw [List.map_cons, intsOf, intsOf_nats l]
    rfl
theorem minI_is : ∀ (xs : List Int) (m v : Int), (v = m ∨ v ∈ xs) → v ≤ m → (∀ x ∈ xs, v ≤ x) → minI m xs = v
  | [], m, v, h, _, _ => by
    rcases h with h | h
    · exact h.symm
    · cases h
  | x :: xs, m, v, h, hm, hx => by
    have h0 := hx x List.mem_cons_self
    rw [minI]
    refine minI_is xs _ v ?_ ?_ fun y hy => hx y (List.mem_cons_of_mem _ hy)
    · split
      · rcases h with h | h
        · omega
        · rcases List.mem_cons.mp h with h | h
          · exact .inl h
          · exact .inr h
      · rcases h with h | h
        · exact .inl h
        · rcases List.mem_cons.mp h with h | h
          · exact .inl (by omega)
          · exact .inr h
    · split <;> omega
theorem min_nats {l : List Nat} {v : Nat} (h : v ∈ l) (hm : ∀ x ∈ l, v ≤ x) : minD [.lst (l.map natD)] = some (natD v) := by
  cases l with
  | nil => cases h
  | cons a l =>
    show (match intsOf ((a :: l).map natD) with | some (x :: r) => some (D.int (minI x r)) | _ => none) = _
    rw [intsOf_nats]
    show some (D.int (minI (a : Int) (l.map fun n : Nat => (n : Int)))) = _
    rw [minI_is _ _ (v : Int)]
    · rcases List.mem_cons.mp h with h | h
      · exact .inl (by omega)
      · exact .inr (List.mem_map.mpr ⟨v, h, rfl⟩)
    · have := hm a List.mem_cons_self
      omega
    · intro x hx
      obtain ⟨y, hy, rfl⟩ := List.mem_map.mp hx
      have := hm y (List.mem_cons_of_mem _ hy)
      omega
theorem lay_nats : ∀ l : List Nat, PyData.canLayAll0 (D.pAll (l.map natD)) = true ∧ PyData.depthAll (D.pAll (l.map natD)) = 0
  | [] => ⟨by simp [D.pAll, PyData.canLayAll0], by simp [D.pAll, PyData.depthAll]⟩
  | x :: l => by
    obtain ⟨h1, h2⟩ := lay_nats l
    simp [D.pAll, D.p, PyData.canLayAll0, PyData.depthAll, PyData.canLay0, PyData.depth, h1, h2]
theorem sh_nats (l : List Nat) : shOk (.lst (l.map natD)) = true := by
  obtain ⟨h1, h2⟩ := lay_nats l
  simp [shOk, SeqAt.shaped, D.p, PyData.canLay0, PyData.depth, h1, h2]
theorem sh_nat (x : Nat) : shOk (natD x) = true := rfl
theorem eqv_nat (x y : Nat) : PyData.eqv (natD x).p (natD y).p = decide (x = y) := by
  show ((x : Int) == (y : Int)) = decide (x = y)
  by_cases h : x = y
  · subst h
    simp
  · have : ¬ ((x : Int) = (y : Int)) := by omega
    simp [h, this]
theorem in_nats (x : Nat) (l : List Nat) : inD (natD x) (.lst (l.map natD)) = some (decide (x ∈ l)) := by
  show (if shOk (natD x) && shOk (.lst (l.map natD)) then some ((l.map natD).any fun z => PyData.eqv z.p (natD x).p) else none) = _
  rw [sh_nat, sh_nats]
  show some ((l.map natD).any fun z => PyData.eqv z.p (natD x).p) = _
  congr 1
  rw [List.any_map]
  induction l with
  | nil => rfl
  | cons a l ih =>
    rw [List.any_cons, ih]
    show (PyData.eqv (natD a).p (natD x).p || decide (x ∈ l)) = _
    rw [eqv_nat]
    by_cases h : a = x
    · subst h
      simp
    · have : ¬ x = a := fun e => h e.symm
      simp [h, this]
theorem index_nats {x : Nat} {l : List Nat} (h : x ∈ l) : indexD (natD x) (.lst (l.map natD)) = some (natD (l.idxOf x)) := by
  have ha : ((l.map natD).any fun z => PyData.eqv z.p (natD x).p) = true := by
    rw [List.any_map, List.any_eq_true]
    exact ⟨x, h, by show PyData.eqv (natD x).p (natD x).p = true; rw [eqv_nat]; simp⟩
  show (if shOk (natD x) && (shOk (.lst (l.map natD)) && (l.map natD).any fun z => PyData.eqv z.p (natD x).p) then some (D.int (((l.map natD).findIdx fun z => PyData.eqv z.p (natD x).p : Nat) : Int)) else none) = _
  rw [sh_nat, sh_nats, ha]
  show some (D.int (((l.map natD).findIdx fun z => PyData.eqv z.p (natD x).p : Nat) : Int)) = _
  congr 2
  rw [List.findIdx_map]
  show ((l.findIdx ((fun z => PyData.eqv z.p (natD x).p) ∘ natD) : Nat) : Int) = ((l.idxOf x : Nat) : Int)
  congr 1
  unfold List.idxOf
  congr 1
  funext a
  show PyData.eqv (natD a).p (natD x).p = (a == x)
  rw [eqv_nat]
  by_cases q : a = x
  · simp [q]
  · simp [q]
/-! ### the meeting place -/
section
variable {ts : Ties} {p q t : Nat} {A B : List Nat}
theorem Meet.gtA (g : GoodT ts) (M : Meet ts p q A B t) : ∀ x ∈ A, t < x := by
  have d := up_dec g p
  obtain ⟨r, hr⟩ := up_self ts t
  rw [M.u, hr] at d
  exact fun x hx => (List.pairwise_append.mp d).2.2 x hx t (by simp)
theorem Meet.gtB (g : GoodT ts) (M : Meet ts p q A B t) : ∀ x ∈ B, t < x := by
  have d := up_dec g q
  obtain ⟨r, hr⟩ := up_self ts t
  rw [M.v, hr] at d
  exact fun x hx => (List.pairwise_append.mp d).2.2 x hx t (by simp)
theorem Meet.flip (M : Meet ts p q A B t) : Meet ts q p B A t := ⟨M.v, M.u, M.b, M.a⟩
theorem Meet.inU (M : Meet ts p q A B t) : t ∈ up ts p := by
  obtain ⟨r, hr⟩ := up_self ts t
  rw [M.u, hr]
  simp
theorem Meet.inV (M : Meet ts p q A B t) : t ∈ up ts q := M.flip.inU
theorem Meet.le (g : GoodT ts) (M : Meet ts p q A B t) : t ≤ p := up_le g p t M.inU
theorem Meet.idx (g : GoodT ts) (M : Meet ts p q A B t) : (up ts p).idxOf t = A.length := by
  obtain ⟨r, hr⟩ := up_self ts t
  have n : t ∉ A := fun h => Nat.lt_irrefl _ (M.gtA g t h)
  rw [M.u, hr, List.idxOf_append, if_neg n, List.idxOf_cons_self, Nat.zero_add]
end
def dep (ts : Ties) (p : Nat) : Nat := (depthsT ts).getD p 0
def wayI (ts : Ties) (p q t : Nat) : Int := dep ts p + dep ts q - 2 * dep ts t
theorem dep_at {ts : Ties} {p : Nat} (h : p ≤ ts.length) : atI ((depthsT ts).map natD) ((p : Nat) : Int) = some (natD (dep ts p)) := nat_at (by rw [depths_len]; omega)
def natF (f : Nat → Option D) (x : D) : Option D := match x with
  | .int i => f i.toNat
  | _ => none
@[simp] theorem natF_at (f : Nat → Option D) (n : Nat) : natF f (.int (n : Int)) = f n := rfl
theorem natF_map (f : Nat → Option D) (l : List Nat) : (l.map natD).filterMap (natF f) = l.filterMap f := by
  rw [List.filterMap_map]
  congr 1
theorem filterMap_if {α β : Type} (P : α → Bool) (f : α → β) : ∀ l : List α, l.filterMap (fun x => if P x = true then some (f x) else none) = (l.filter P).map f
  | [] => rfl
  | x :: l => by
    rw [List.filterMap_cons, List.filter_cons, filterMap_if P f l]
    cases P x <;> simp
theorem Meet.first {ts : Ties} {p q t : Nat} {A B : List Nat} (M : Meet ts p q A B t) : ∃ r, (up ts p).filter (fun x => decide (x ∈ up ts q)) = t :: r := by
  obtain ⟨r, hr⟩ := up_self ts t
  refine ⟨r.filter (fun x => decide (x ∈ up ts q)), ?_⟩
  have hA : A.filter (fun x => decide (x ∈ up ts q)) = [] := by
    rw [List.filter_eq_nil_iff]
    intro x hx
    simp [M.a x hx]
  rw [M.u, hr, List.filter_append, hA, List.nil_append, List.filter_cons]
  simp [M.inV]
theorem mem_nats {x : D} {l : List Nat} (h : x ∈ l.map natD) : ∃ n, x = natD n ∧ n ∈ l := by
  obtain ⟨n, h1, h2⟩ := List.mem_map.mp h
  exact ⟨n, h2.symm, h1⟩
/-! ### sons, what lies below -/
def sonsT (ts : Ties) (p : Nat) : List Nat := (ts.zipIdx.filter fun x => decide (x.1.1 = p)).map fun x => x.2 + 1
def tieF (f : Nat → Nat → Nat → Option D) (x : D) (i : Nat) : Option D := match x with
  | .tup [.int a, .int b] => f a.toNat b.toNat i
  | _ => none
theorem tieF_at (f : Nat → Nat → Nat → Option D) (q : Nat × Nat) (i : Nat) : tieF f (tieD q) i = f q.1 q.2 i := rfl
theorem ties_enum (ts : Ties) (f : Nat → Nat → Nat → Option D) : (enumD (ts.map tieD)).filterMap (enumF (tieF f)) = ts.zipIdx.filterMap fun x => f x.1.1 x.1.2 x.2 := by
  rw [enumD_filterMap, List.zipIdx_map, List.filterMap_map]
  rfl
theorem enum_tie {ts : Ties} {x : D} (h : x ∈ enumD (ts.map tieD)) : ∃ q i, x = .tup [.int (i : Nat), tieD q] ∧ ts[i]? = some q := by
  obtain ⟨d, i, rfl, hi⟩ := enumD_mem h
  rw [List.getElem?_map] at hi
  cases ht : ts[i]? with
  | none =>
    rw [ht] at hi
    cases hi
  | some q =>
    rw [ht] at hi
    cases hi
    exact ⟨q, i, rfl, ht⟩
/-- the places below p among the first n -/
def belowT (ts : Ties) (p n : Nat) : List Nat := p :: ((List.range n).filter fun i => decide (p < i + 1 ∧ p ∈ up ts (i + 1))).map (· + 1)
theorem below_snoc (ts : Ties) (p n : Nat) : belowT ts p (n + 1) = belowT ts p n ++ if p < n + 1 ∧ p ∈ up ts (n + 1) then [n + 1] else [] := by
  unfold belowT
  rw [List.range_succ, List.filter_append, List.map_append, List.cons_append]
  congr 2
  by_cases h : p < n + 1 ∧ p ∈ up ts (n + 1)
  · simp [h]
  · simp only [h, if_false]
    rw [List.filter_cons_of_neg (by simpa using h)]
    rfl
theorem below_len (ts : Ties) (p n : Nat) : (belowT ts p n).length ≤ n + 1 := by
  unfold belowT
  have := List.length_filter_le (fun i => decide (p < i + 1 ∧ p ∈ up ts (i + 1))) (List.range n)
  rw [List.length_range] at this
  rw [List.length_cons, List.length_map]
  omega
theorem mem_below {ts : Ties} (g : GoodT ts) {p n f : Nat} (hf : f ≤ n) : f ∈ belowT ts p n ↔ p ∈ up ts f := by
  unfold belowT
  rw [List.mem_cons, List.mem_map]
  constructor
  · rintro (h | ⟨i, h1, h2⟩)
    · subst h
      obtain ⟨r, hr⟩ := up_self ts f
      rw [hr]
      simp
    · have h1 := List.mem_filter.mp h1
      subst h2
      simpa using (of_decide_eq_true h1.2).2
  · intro h
    have hle := up_le g f p h
    by_cases q : f = p
    · exact .inl q
    · refine .inr ⟨f - 1, List.mem_filter.mpr ⟨List.mem_range.mpr (by omega), decide_eq_true ?_⟩, by omega⟩
      rw [show f - 1 + 1 = f by omega]
      exact ⟨by omega, h⟩
theorem isTree_good {ts : Ties} (g : GoodT ts) : isTree (treeD ts) = true := by
  have h : ∀ x ∈ (ts.map tieD).zipIdx, isTie x.1 (x.2 : Nat) = true := by
    intro ⟨x, i⟩ hx
    rw [List.mem_zipIdx_iff_getElem?] at hx
    simp only [List.getElem?_map] at hx
    cases e : ts[i]? with
    | none => simp [e] at hx
    | some p =>
      simp [e] at hx
      have h1 := g.fat i p e
      have h2 := g.lo i p e
      have h3 := g.hi i p e
      subst hx
      simp [isTie, tieD, within]
      omega
  have hl := g.len
  simp only [treeD, isTree, List.all_eq_true.mpr h, decide_true, List.length_map, Bool.true_and, Bool.and_true, decide_eq_true_eq]
  omega
/-! ### lists that grow, with the same members -/
theorem grow_eq : ∀ {a b : List Nat}, a.Pairwise (· < ·) → b.Pairwise (· < ·) → (∀ x, x ∈ a ↔ x ∈ b) → a = b
  | [], [], _, _, _ => rfl
  | [], y :: b, _, _, h => absurd ((h y).mpr (List.mem_cons_self ..)) (fun h => nomatch h)
  | x :: a, [], _, _, h => absurd ((h x).mp (List.mem_cons_self ..)) (fun h => nomatch h)
  | x :: a, y :: b, ha, hb, h => by
    rw [List.pairwise_cons] at ha hb
    have e : x = y := by
      rcases List.mem_cons.mp ((h x).mp (List.mem_cons_self ..)) with e | h1
      · exact e
      rcases List.mem_cons.mp ((h y).mpr (List.mem_cons_self ..)) with e | h2
      · exact e.symm
      have := ha.1 _ h2
      have := hb.1 _ h1
      omega
    subst e
    congr 1
    refine grow_eq ha.2 hb.2 fun z => ⟨fun hz => ?_, fun hz => ?_⟩
    · have := ha.1 _ hz
      exact (List.mem_cons.mp ((h z).mp (List.mem_cons_of_mem _ hz))).resolve_left (by omega)
    · have := hb.1 _ hz
      exact (List.mem_cons.mp ((h z).mpr (List.mem_cons_of_mem _ hz))).resolve_left (by omega)
theorem grow_range (n : Nat) (P : Nat → Bool) : ((List.range n).filter P).Pairwise (· < ·) := List.Pairwise.filter _ List.pairwise_lt_range
theorem grow_up {l : List Nat} (h : l.Pairwise (· < ·)) : (l.map (· + 1)).Pairwise (· < ·) := by
  rw [List.pairwise_map]
  exact h.imp (fun h => by omega)
/-- the law's below -/
theorem below_law {ts : Ties} (g : GoodT ts) {p : Nat} (hp : p ≤ ts.length) : (List.range (ts.length + 1)).filter (fun o => decide (p ∈ up ts o)) = belowT ts p ts.length := by
  refine grow_eq (grow_range _ _) ?_ fun x => ?_
  · unfold belowT
    rw [List.pairwise_cons]
    refine ⟨fun x hx => ?_, grow_up (grow_range _ _)⟩
    obtain ⟨i, hi, rfl⟩ := List.mem_map.mp hx
    have := (List.mem_filter.mp hi).2
    simp at this
    omega
  · rw [List.mem_filter, List.mem_range]
    constructor
    · rintro ⟨h1, h2⟩
      exact (mem_below g (by omega)).mpr (by simpa using h2)
    · intro h
      have hl : x ≤ ts.length := by
        unfold belowT at h
        rcases List.mem_cons.mp h with rfl | h
        · exact hp
        · obtain ⟨i, hi, rfl⟩ := List.mem_map.mp h
          have := List.mem_range.mp (List.mem_filter.mp hi).1
          omega
      exact ⟨by omega, by simpa using (mem_below g hl).mp h⟩
/-- the fathers as the law keeps them: -1 ahead -/
def faI (ts : Ties) (p : Nat) : Int := if p = 0 then -1 else (fat ts p : Int)
theorem mem_sons {ts : Ties} {p x : Nat} : x ∈ sonsT ts p ↔ x ≤ ts.length ∧ faI ts x = (p : Int) := by
  unfold sonsT
  constructor
  · intro h
    obtain ⟨⟨q, i⟩, hq, rfl⟩ := List.mem_map.mp h
    obtain ⟨h1, h2⟩ := List.mem_filter.mp hq
    rw [List.mem_zipIdx_iff_getElem?] at h1
    have hl : i < ts.length := by
      rcases Nat.lt_or_ge i ts.length with h | h
      · exact h
      · rw [List.getElem?_eq_none h] at h1
        cases h1
    have h2' : q.1 = p := by simpa using h2
    refine ⟨by show i + 1 ≤ _; omega, ?_⟩
    show faI ts (i + 1) = _
    have h1' : ts[i]? = some q := h1
    simp [faI, fat, h1', h2']
  · rintro ⟨h1, h2⟩
    cases x with
    | zero =>
      simp [faI] at h2
    | succ i =>
      have hi : i < ts.length := by omega
      refine List.mem_map.mpr ⟨(ts[i], i), List.mem_filter.mpr ⟨?_, ?_⟩, rfl⟩
      · rw [List.mem_zipIdx_iff_getElem?]
        exact List.getElem?_eq_getElem hi
      · simp [faI, fat, List.getElem?_eq_getElem hi] at h2
        have : (ts[i]).1 = p := by omega
        simp [this]
theorem zip_grow {α : Type} : ∀ (l : List α) (k : Nat), (l.zipIdx k).Pairwise (fun a b => a.2 < b.2)
  | [], _ => List.Pairwise.nil
  | a :: l, k => by
    rw [List.zipIdx_cons, List.pairwise_cons]
    refine ⟨fun x hx => ?_, zip_grow l (k + 1)⟩
    have := List.le_snd_of_mem_zipIdx hx
    show k < x.2
    omega
/-- the law's sons -/
theorem sons_law (ts : Ties) (p : Nat) : (List.range (ts.length + 1)).filter (fun o => decide (faI ts o = (p : Int))) = sonsT ts p := by
  refine grow_eq (grow_range _ _) ?_ fun x => ?_
  · unfold sonsT
    rw [List.pairwise_map]
    exact ((zip_grow ts 0).filter _).imp (fun h => by omega)
  · rw [List.mem_filter, List.mem_range, mem_sons]
    simp
    omega
/-! ### ways that are put together -/
theorem up_away {ts : Ties} (g : GoodT ts) {p x : Nat} {A : List Nat} (h : up ts p = A ++ up ts x) : ∀ y ∈ A, ∀ z ∈ up ts x, z < y := by
  have := up_dec g p
  rw [h, List.pairwise_append] at this
  exact fun y hy z hz => this.2.2 y hy z hz
theorem up_mem (ts : Ties) (p : Nat) : p ∈ up ts p := by
  obtain ⟨r, hr⟩ := up_self ts p
  rw [hr]
  exact List.mem_cons_self ..
theorem Meet.part {ts : Ties} (g : GoodT ts) {p q t o : Nat} {A B : List Nat} (M : Meet ts p q A B t) (ho : o ∈ up ts p) (hto : t ≤ o) :
    ∃ A1 A2, Meet ts p o A1 [] o ∧ Meet ts o q A2 B t := by
  obtain ⟨A1, e1⟩ := up_split g p o ho
  have hto' : t ∈ up ts o := by
    have h := M.inU
    rw [e1] at h
    rcases List.mem_append.mp h with h | h
    · have := up_away g e1 t h o (up_mem ts o)
      omega
    · exact h
  obtain ⟨A2, e2⟩ := up_split g o t hto'
  refine ⟨A1, A2, ⟨e1, rfl, fun x hx h => ?_, fun x hx => nomatch hx⟩, ⟨e2, M.v, fun x hx h => ?_, fun x hx h => ?_⟩⟩
  · exact Nat.lt_irrefl _ (up_away g e1 x hx x h)
  · have h1 : x ∈ up ts p := by
      rw [e1, e2]
      exact List.mem_append_right _ (List.mem_append_left _ hx)
    rw [M.u] at h1
    rcases List.mem_append.mp h1 with h1 | h1
    · exact M.a x h1 h
    · exact Nat.lt_irrefl _ (up_away g e2 x hx x h1)
  · exact M.b x hx (by rw [e1]; exact List.mem_append_right _ h)
theorem wayI_flip (ts : Ties) (p q t : Nat) : wayI ts p q t = wayI ts q p t := by
  unfold wayI
  omega
/-- a place on the path cuts the way in two -/
theorem Meet.cut {ts : Ties} (g : GoodT ts) {p q t o : Nat} {A B : List Nat} (M : Meet ts p q A B t) (ho : o ∈ A ++ t :: B.reverse) :
    ∃ A1 B1 t1 A2 B2 t2, Meet ts p o A1 B1 t1 ∧ Meet ts o q A2 B2 t2 ∧ wayI ts p o t1 + wayI ts o q t2 = wayI ts p q t := by
  have fin : (o ∈ up ts p ∧ t ≤ o) ∨ (o ∈ up ts q ∧ t ≤ o) := by
    rcases List.mem_append.mp ho with h | h
    · exact .inl ⟨by rw [M.u]; exact List.mem_append_left _ h, Nat.le_of_lt (M.gtA g o h)⟩
    · rcases List.mem_cons.mp h with rfl | h
      · exact .inl ⟨M.inU, Nat.le_refl _⟩
      · have h : o ∈ B := by simpa using h
        exact .inr ⟨by rw [M.v]; exact List.mem_append_left _ h, Nat.le_of_lt (M.gtB g o h)⟩
  rcases fin with ⟨h1, h2⟩ | ⟨h1, h2⟩
  · obtain ⟨A1, A2, M1, M2⟩ := M.part g h1 h2
    exact ⟨_, _, _, _, _, _, M1, M2, by unfold wayI; omega⟩
  · obtain ⟨A1, A2, M1, M2⟩ := M.flip.part g h1 h2
    exact ⟨_, _, _, _, _, _, M2.flip, M1.flip, by unfold wayI; omega⟩
theorem rng_n1 (n : Nat) : rngD 0 ((n : Int) + 1) = (List.range (n + 1)).map natD := by
  unfold rngD
  rw [show ((n : Int) + 1 - 0).toNat = n + 1 by omega]
  refine List.map_congr_left fun i _ => ?_
  show D.int (0 + (i : Int)) = D.int (i : Int)
  rw [Int.zero_add]
theorem rng_ok {n : Nat} (h : n ≤ 23) : rngOk 0 ((n : Int) + 1) = true := by
  unfold rngOk
  simp
  omega
theorem eqv_nats : ∀ l k : List Nat, PyData.eqvAll (D.pAll (l.map natD)) (D.pAll (k.map natD)) = decide (l = k)
  | [], [] => by simp [D.pAll, PyData.eqvAll]
  | [], b :: k => by simp [D.pAll, PyData.eqvAll]
  | a :: l, [] => by simp [D.pAll, PyData.eqvAll]
  | a :: l, b :: k => by
    have h1 := eqv_nat a b
    have h2 := eqv_nats l k
    simp only [List.map_cons, D.pAll, PyData.eqvAll, h1, h2]
    by_cases e : a = b <;> by_cases e2 : l = k <;> simp [e, e2]
theorem eq_nats (l k : List Nat) : eqD (.lst (l.map natD)) (.lst (k.map natD)) = some (.bl (decide (l = k))) := by
  rw [eqD_of (sh_nats l) (sh_nats k)]
  congr 2
  have := eqv_nats l k
  simpa [D.p, PyData.eqv] using this
theorem ne_nats (l k : List Nat) : neD (.lst (l.map natD)) (.lst (k.map natD)) = some (.bl (!decide (l = k))) := by
  rw [neD_of (sh_nats l) (sh_nats k)]
  congr 2
  have := eqv_nats l k
  simpa [D.p, PyData.eqv] using this
theorem eq_nats_nil (l : List Nat) : eqD (.lst (l.map natD)) (.lst []) = some (.bl l.isEmpty) := by
  have := eq_nats l []
  rw [show List.map natD [] = [] from rfl] at this
  rw [this]
  cases l <;> rfl
theorem small_line {n : Nat} (h : n ≤ 1000) : n ≤ line := by
  rw [line]
  omega
def endsT (ts : Ties) : List Nat := (List.range (ts.length + 1)).filter fun p => (sonsT ts p).isEmpty
theorem rng_go {Φ : Phi} {e : E} {s : Slot} {ρ ρ1 : Iv.Env} {n : Int} (h1 : evE Φ e (s :: ρ) = .ok (.int n) ρ1) (h2 : rngOk 0 n = true) : evI Φ (.rng e) (s :: ρ) = .ok (rngD 0 n) ρ1 := by
  rw [evI_rng, h1]
  show (if rngOk 0 n then R.ok (rngD 0 n) ρ1 else .stuck) = _
  rw [if_pos h2]
/-! ### lists of ints -/
theorem lay_ints : ∀ l : List Int, PyData.canLayAll0 (D.pAll (l.map D.int)) = true ∧ PyData.depthAll (D.pAll (l.map D.int)) = 0
  | [] => ⟨by simp [D.pAll, PyData.canLayAll0], by simp [D.pAll, PyData.depthAll]⟩
  | x :: l => by
    obtain ⟨h1, h2⟩ := lay_ints l
    simp [D.pAll, D.p, PyData.canLayAll0, PyData.depthAll, PyData.canLay0, PyData.depth, h1, h2]
theorem sh_ints (l : List Int) : shOk (.lst (l.map D.int)) = true := by
  obtain ⟨h1, h2⟩ := lay_ints l
  simp [shOk, SeqAt.shaped, D.p, PyData.canLay0, PyData.depth, h1, h2]
theorem in_ints (x : Int) (l : List Int) : inD (.int x) (.lst (l.map D.int)) = some (decide (x ∈ l)) := by
  show (if shOk (.int x) && shOk (.lst (l.map D.int)) then some ((l.map D.int).any fun z => PyData.eqv z.p (D.int x).p) else none) = _
  rw [show shOk (.int x) = true from rfl, sh_ints]
  show some ((l.map D.int).any fun z => PyData.eqv z.p (D.int x).p) = _
  congr 1
  rw [List.any_map]
  induction l with
  | nil => rfl
  | cons a l ih =>
    rw [List.any_cons, ih]
    show ((a == x) || decide (x ∈ l)) = _
    by_cases h : a = x
    · subst h
      simp
    · have : ¬ x = a := fun e => h e.symm
      simp [h, this]
/-- the fathers' list of the law -/
def faL (ts : Ties) : List Int := -1 :: ts.map fun q => (q.1 : Int)
theorem faL_at (ts : Ties) {p : Nat} (h : p ≤ ts.length) : (faL ts)[p]? = some (faI ts p) := by
  cases p with
  | zero => rfl
  | succ i =>
    have hi : i < ts.length := by omega
    simp [faL, faI, fat, List.getElem?_eq_getElem hi]
theorem mem_faL (ts : Ties) (p : Nat) : (p : Int) ∈ faL ts ↔ ¬ sonsT ts p = [] := by
  constructor
  · intro h e
    rcases List.mem_cons.mp h with h | h
    · omega
    · obtain ⟨q, hq, h⟩ := List.mem_map.mp h
      obtain ⟨i, hi, rfl⟩ := List.getElem_of_mem hq
      have : i + 1 ∈ sonsT ts p := mem_sons.mpr ⟨by omega, by simp [faI, fat, List.getElem?_eq_getElem hi]; omega⟩
      rw [e] at this
      cases this
  · intro h
    obtain ⟨x, hx⟩ := List.exists_mem_of_ne_nil _ h
    obtain ⟨h1, h2⟩ := mem_sons.mp hx
    have := faL_at ts h1
    rw [h2] at this
    exact List.mem_of_getElem? this
theorem ends_law (ts : Ties) : (List.range (ts.length + 1)).filter (fun p : Nat => !decide ((p : Int) ∈ faL ts)) = endsT ts := by
  unfold endsT
  refine List.filter_congr fun p _ => ?_
  have := mem_faL ts p
  by_cases h : sonsT ts p = []
  · simp [h, this]
  · simp [h, this]
theorem atI_ints {l : List Int} {i : Nat} {v : Int} (h : l[i]? = some v) : atI (l.map D.int) ((i : Nat) : Int) = some (.int v) := by
  rw [Iv.atI_nat, List.getElem?_map, h]
  rfl
end Tr
namespace Iv
open PySem PySem.Spec PyProof.Rows L2
/-- small data: no more than k deep, no more than w wide -/
structure Fit (d : D) (k w : Nat) : Prop where
  num : d.num = true
  deep : d.deep ≤ k
  wt : d.wt ≤ w
  lay : d.p.canLay0 = true
structure FitL (xs : List D) (k w : Nat) : Prop where
  num : D.numL xs = true
  deep : D.deepL xs ≤ k
  wt : D.wtL xs ≤ w
  lay : PyData.canLayAll0 (D.pAll xs) = true
theorem Fit.int {i : Int} (h : -(10 ^ 20) < i ∧ i < 10 ^ 20) : Fit (.int i) 0 22 :=
  ⟨by simp only [D.num, Bool.and_eq_true, decide_eq_true_eq]; exact h, by simp [D.deep], by simp [D.wt], by simp [D.p, PyData.canLay0]⟩
theorem Fit.bl (b : Bool) : Fit (.bl b) 0 5 := ⟨by simp [D.num], by simp [D.deep], by simp [D.wt], by simp [D.p, PyData.canLay0]⟩
theorem Fit.non : Fit .non 0 4 := ⟨by simp [D.num], by simp [D.deep], by simp [D.wt], by simp [D.p, PyData.canLay0]⟩
theorem FitL.nil : FitL [] 0 0 := ⟨by simp [D.numL], by simp [D.deepL], by simp [D.wtL], by simp [D.pAll, PyData.canLayAll0]⟩
theorem FitL.cons {x : D} {xs : List D} {k j w v : Nat} (h : Fit x k w) (hs : FitL xs j v) : FitL (x :: xs) (max k j) (w + 2 + v) := by
  obtain ⟨a1, a2, a3, a4⟩ := h
  obtain ⟨b1, b2, b3, b4⟩ := hs
  refine ⟨by simp [D.numL, a1, b1], ?_, ?_, by simp [D.pAll, PyData.canLayAll0, a4, b4]⟩
  · simp only [D.deepL]
    omega
  · simp only [D.wtL]
    omega
theorem FitL.lst {xs : List D} {k w : Nat} (h : FitL xs k w) : Fit (.lst xs) (k + 1) (w + 3) := by
  obtain ⟨b1, b2, b3, b4⟩ := h
  refine ⟨by simp [D.num, b1], ?_, ?_, by simp [D.p, PyData.canLay0, b4]⟩
  · simp only [D.deep]
    omega
  · simp only [D.wt]
    omega
theorem FitL.tup {xs : List D} {k w : Nat} (h : FitL xs k w) : Fit (.tup xs) (k + 1) (w + 3) := by
  obtain ⟨b1, b2, b3, b4⟩ := h
  refine ⟨by simp [D.num, b1], ?_, ?_, by simp [D.p, PyData.canLay0, b4]⟩
  · simp only [D.deep]
    omega
  · simp only [D.wt]
    omega
theorem FitL.wide {xs : List D} {k j w v : Nat} (h : FitL xs k w) (hk : k ≤ j) (hw : w ≤ v) : FitL xs j v := ⟨h.num, Nat.le_trans h.deep hk, Nat.le_trans h.wt hw, h.lay⟩
theorem Fit.wide {x : D} {k j w v : Nat} (h : Fit x k w) (hk : k ≤ j) (hw : w ≤ v) : Fit x j v := ⟨h.num, Nat.le_trans h.deep hk, Nat.le_trans h.wt hw, h.lay⟩
theorem FitL.all {k w : Nat} : ∀ {xs : List D}, (∀ x ∈ xs, Fit x k w) → FitL xs k ((w + 2) * xs.length)
  | [], _ => FitL.nil.wide (Nat.zero_le _) (Nat.zero_le _)
  | x :: xs, h => by
    have h1 := FitL.cons (h x (List.mem_cons_self ..)) (FitL.all fun y hy => h y (List.mem_cons_of_mem _ hy))
    refine h1.wide (by omega) ?_
    rw [List.length_cons, Nat.mul_add]
    omega
theorem Fit.repr {d : D} {k w : Nat} (h : Fit d k w) (hk : k ≤ 60) (hw : w ≤ line) : reprD d = some (.str d.p.shown) := by
  refine reprD_ok ?_
  have h1 := h.deep
  have h2 := h.wt
  simp only [showB, h.num, Bool.true_and, Bool.and_eq_true, decide_eq_true_eq]
  omega
theorem Fit.ne {d : D} {k w : Nat} (h : Fit d k w) : neD (.str d.p.shown) (.str d.p.shown) = some (.bl false) := by
  rw [neD_str (sh_shown h.lay) (sh_shown h.lay)]
  simp
theorem Fit.eq {d : D} {k w : Nat} (h : Fit d k w) : eqD (.str d.p.shown) (.str d.p.shown) = some (.bl true) := by
  rw [eqD_str (sh_shown h.lay) (sh_shown h.lay)]
  simp
end Iv
namespace Tr
open PySem PySem.Spec PyProof.Rows L2 Iv
theorem fit_nats {l : List Nat} {n : Nat} (hl : l.length ≤ n) (h : ∀ x ∈ l, x < 10 ^ 20) : Fit (.lst (l.map natD)) 1 (24 * n + 3) := by
  have := (FitL.all (xs := l.map natD) (k := 0) (w := 22) fun x hx => by
    obtain ⟨y, rfl, hy⟩ := mem_nats hx
    have := h y hy
    exact Fit.int (by omega)).lst
  refine this.wide (Nat.le_refl _) ?_
  rw [List.length_map]
  omega
theorem min4 (n : Nat) : ∃ k : Int, minD [.int ((n : Int) + 1), .int 4] = some (.int k) ∧ 0 < k ∧ k ≤ (n : Int) + 1 ∧ k ≤ 4 := by
  by_cases h : n + 1 ≤ 4
  · exact ⟨(n : Int) + 1, by simp [minD, intsOf, minI]; omega, by omega, by omega, by omega⟩
  · exact ⟨4, by simp [minD, intsOf, minI]; omega, by omega, by omega, by omega⟩
theorem rng_n (n : Nat) : rngD 0 (n : Int) = (List.range n).map natD := by
  unfold rngD
  rw [show ((n : Int) - 0).toNat = n by omega]
  refine List.map_congr_left fun i _ => ?_
  show D.int (0 + (i : Int)) = D.int (i : Int)
  rw [Int.zero_add]
theorem rng_okn {n : Nat} (h : n ≤ 1000) : rngOk 0 (n : Int) = true := by
  unfold rngOk
  simp
  omega
theorem snoc_at {α : Type} {l : List α} {y q : α} {i : Nat} (h : (l ++ [y])[i]? = some q) : l[i]? = some q ∨ (i = l.length ∧ q = y) := by
  rcases Nat.lt_or_ge i l.length with h1 | h1
  · rw [List.getElem?_append_left h1] at h
    exact .inl h
  · rw [List.getElem?_append_right h1] at h
    cases e : i - l.length with
    | zero =>
      rw [e] at h
      cases h
      exact .inr ⟨by omega, rfl⟩
    | succ k =>
      rw [e] at h
      cases h
theorem GoodT.snoc {ts : Ties} (g : GoodT ts) {f l : Nat} (hn : ts.length < 23) (hf : f ≤ ts.length) (h1 : 1 ≤ l) (h2 : l ≤ 999) : GoodT (ts ++ [(f, l)]) := by
  refine ⟨by rw [List.length_append]; show ts.length + 1 ≤ 23; omega, ?_, ?_, ?_⟩
  · intro i q hq
    rcases snoc_at hq with h | ⟨rfl, rfl⟩
    · exact g.fat i q h
    · exact hf
  · intro i q hq
    rcases snoc_at hq with h | ⟨rfl, rfl⟩
    · exact g.lo i q h
    · exact h1
  · intro i q hq
    rcases snoc_at hq with h | ⟨rfl, rfl⟩
    · exact g.hi i q h
    · exact h2
theorem GoodT.nil : GoodT [] := ⟨by simp, by simp, by simp, by simp⟩
theorem fit_tie {q : Nat × Nat} (h1 : q.1 < 10 ^ 20) (h2 : q.2 < 10 ^ 20) : Fit (tieD q) 1 51 := by
  have a := Fit.int (i := (q.1 : Int)) (by omega)
  have b := Fit.int (i := (q.2 : Int)) (by omega)
  exact ((FitL.cons a (FitL.cons b FitL.nil)).tup).wide (by decide) (by decide)
theorem fit_str : Fit (.str ("tree" : Str)) 0 100 :=
  ⟨by simp [D.num], by simp [D.deep], by decide +kernel, by decide +kernel⟩
theorem fit_tree {ts : Ties} (g : GoodT ts) : Fit (treeD ts) 3 2000 := by
  have hl := g.len
  have h : ∀ x ∈ ts.map tieD, Fit x 1 51 := by
    intro x hx
    obtain ⟨q, hq, rfl⟩ := List.mem_map.mp hx
    obtain ⟨i, hi, e⟩ := List.getElem_of_mem hq
    have e' : ts[i]? = some q := by rw [List.getElem?_eq_getElem hi, e]
    have := g.fat i q e'
    have := g.hi i q e'
    exact fit_tie (by omega) (by omega)
  have a := (FitL.all h).tup
  rw [List.length_map] at a
  have b := (FitL.cons fit_str (FitL.cons a FitL.nil)).tup
  exact b.wide (by omega) (by omega)
theorem dstep_le : ∀ (l : Ties) (acc : List Nat) (B : Nat), (∀ x ∈ acc, x ≤ B) → (∀ q ∈ l, q.2 ≤ 999) → ∀ x ∈ l.foldl dStep acc, x ≤ B + 999 * l.length
  | [], acc, B, h, _, x, hx => by
    have := h x hx
    omega
  | q :: l, acc, B, h, hq, x, hx => by
    have h2 := hq q (List.mem_cons_self ..)
    have := dstep_le l (dStep acc q) (B + 999) (fun y hy => by
      unfold dStep at hy
      rcases List.mem_append.mp hy with h3 | h3
      · have := h y h3
        omega
      · have e : y = acc.getD q.1 0 + q.2 := by simpa using h3
        have : acc.getD q.1 0 ≤ B := by
          rw [List.getD_eq_getElem?_getD]
          cases e2 : acc[q.1]? with
          | none => exact Nat.zero_le _
          | some z => exact h z (List.mem_of_getElem? e2)
        omega) (fun y hy => hq y (List.mem_cons_of_mem _ hy)) x hx
    rw [List.length_cons]
    omega
theorem dep_le {ts : Ties} (g : GoodT ts) (p : Nat) : dep ts p ≤ 22977 := by
  have hl := g.len
  have h := dstep_le ts [0] 0 (fun x hx => by
    have : x = 0 := by simpa using hx
    omega) (fun q hq => by
    obtain ⟨i, hi, e⟩ := List.getElem_of_mem hq
    exact g.hi i q (by rw [List.getElem?_eq_getElem hi, e]))
  unfold dep
  rw [List.getD_eq_getElem?_getD]
  cases e2 : (depthsT ts)[p]? with
  | none => exact Nat.zero_le _
  | some z =>
    have := h z (List.mem_of_getElem? e2)
    show z ≤ _
    omega
theorem fit_way {ts : Ties} (g : GoodT ts) (p q t : Nat) : Fit (.int (wayI ts p q t)) 0 22 := by
  have := dep_le g p
  have := dep_le g q
  have := dep_le g t
  exact Fit.int (by unfold wayI; omega)
theorem Meet.mem_le {ts : Ties} (g : GoodT ts) {p q t : Nat} {A B : List Nat} (M : Meet ts p q A B t) (hp : p ≤ ts.length) (hq : q ≤ ts.length) : ∀ o ∈ A ++ t :: B.reverse, o ≤ ts.length := by
  intro o h
  have ht := M.le g
  rcases List.mem_append.mp h with h | h
  · have := up_le g p o (by rw [M.u]; exact List.mem_append_left _ h)
    omega
  · rcases List.mem_cons.mp h with rfl | h
    · omega
    · have h : o ∈ B := by simpa using h
      have := up_le g q o (by rw [M.v]; exact List.mem_append_left _ h)
      omega
theorem Meet.many {ts : Ties} (g : GoodT ts) {p q t : Nat} {A B : List Nat} (M : Meet ts p q A B t) (hp : p ≤ ts.length) (hq : q ≤ ts.length) : (A ++ t :: B.reverse).length ≤ 49 := by
  have a := up_len g p
  have b := up_len g q
  rw [M.u, List.length_append] at a
  rw [M.v, List.length_append] at b
  have := g.len
  rw [List.length_append, List.length_cons, List.length_reverse]
  omega
theorem fit_path {ts : Ties} (g : GoodT ts) {p q t : Nat} {A B : List Nat} (M : Meet ts p q A B t) (hp : p ≤ ts.length) (hq : q ≤ ts.length) : Fit (.lst ((A ++ t :: B.reverse).map natD)) 1 1500 := by
  have hl := g.len
  exact (fit_nats (n := 49) (M.many g hp hq) fun x hx => by
    have := M.mem_le g hp hq x hx
    omega).wide (Nat.le_refl _) (by omega)
theorem fit_filter {n : Nat} (h : n ≤ 24) (P : Nat → Bool) : Fit (.lst (((List.range n).filter P).map natD)) 1 1500 := by
  refine (fit_nats (n := 24) ?_ fun x hx => ?_).wide (Nat.le_refl _) (by omega)
  · have := List.length_filter_le P (List.range n)
    rw [List.length_range] at this
    omega
  · have := List.mem_range.mp (List.mem_filter.mp hx).1
    omega
theorem fit_sons {ts : Ties} (g : GoodT ts) (p : Nat) : Fit (.lst ((sonsT ts p).map natD)) 1 1500 := by
  have := g.len
  rw [← sons_law]
  exact fit_filter (by omega) _
theorem fit_below {ts : Ties} (g : GoodT ts) {p : Nat} (hp : p ≤ ts.length) : Fit (.lst ((belowT ts p ts.length).map natD)) 1 1500 := by
  have := g.len
  rw [← below_law g hp]
  exact fit_filter (by omega) _
theorem fit_ends {ts : Ties} (g : GoodT ts) : Fit (.lst ((endsT ts).map natD)) 1 1500 := by
  have := g.len
  exact fit_filter (by omega) _
theorem fit_two {a b : D} {k w v : Nat} (ha : Fit a k w) (hb : Fit b k v) : Fit (.lst [a, b]) (k + 1) (w + v + 7) :=
  ((FitL.cons ha (FitL.cons hb FitL.nil)).lst).wide (by omega) (by omega)
end Tr
namespace Iv
open PySem PySem.Spec PyProof.Rows L2
/-! ### lists of data, put together -/
theorem numL_app : ∀ xs ys : List D, D.numL (xs ++ ys) = (D.numL xs && D.numL ys)
  | [], ys => by simp [D.numL]
  | x :: xs, ys => by simp [D.numL, numL_app xs ys, Bool.and_assoc]
theorem deepL_app : ∀ xs ys : List D, D.deepL (xs ++ ys) = max (D.deepL xs) (D.deepL ys)
  | [], ys => by simp [D.deepL]
  | x :: xs, ys => by simp [D.deepL, deepL_app xs ys, Nat.max_assoc]
theorem wtL_app : ∀ xs ys : List D, D.wtL (xs ++ ys) = D.wtL xs + D.wtL ys
  | [], ys => by simp [D.wtL]
  | x :: xs, ys => by simp [D.wtL, wtL_app xs ys, Nat.add_assoc]
theorem layL_app : ∀ xs ys : List D, PyData.canLayAll0 (D.pAll (xs ++ ys)) = (PyData.canLayAll0 (D.pAll xs) && PyData.canLayAll0 (D.pAll ys))
  | [], ys => by simp [D.pAll, PyData.canLayAll0]
  | x :: xs, ys => by simp [D.pAll, PyData.canLayAll0, layL_app xs ys, Bool.and_assoc]
theorem wtL_len : ∀ xs : List D, 2 * xs.length ≤ D.wtL xs
  | [] => by simp
  | x :: xs => by
    have := wtL_len xs
    simp only [List.length_cons, D.wtL]
    omega
theorem FitL.app {xs ys : List D} {k j w v : Nat} (h : FitL xs k w) (hs : FitL ys j v) : FitL (xs ++ ys) (max k j) (w + v) := by
  obtain ⟨a1, a2, a3, a4⟩ := h
  obtain ⟨b1, b2, b3, b4⟩ := hs
  refine ⟨by rw [numL_app, a1, b1]; rfl, ?_, ?_, by rw [layL_app, a4, b4]; rfl⟩
  · rw [deepL_app]
    omega
  · rw [wtL_app]
    omega
theorem Fit.ofTup {xs : List D} {k w : Nat} (h : Fit (.tup xs) k w) : FitL xs (D.deepL xs) (D.wtL xs) :=
  ⟨by have := h.num; simpa [D.num] using this, Nat.le_refl _, Nat.le_refl _, by have := h.lay; simpa [D.p, PyData.canLay0] using this⟩
theorem FitL.parts {A B : List D} {x : D} {k w : Nat} (h : FitL (A ++ x :: B) k w) : FitL A (D.deepL A) (D.wtL A) ∧ Fit x x.deep x.wt ∧ FitL B (D.deepL B) (D.wtL B) ∧ D.deepL A ≤ k ∧ x.deep ≤ k ∧ D.deepL B ≤ k ∧ D.wtL A + (x.wt + 2 + D.wtL B) ≤ w := by
  obtain ⟨a1, a2, a3, a4⟩ := h
  rw [numL_app, Bool.and_eq_true, D.numL, Bool.and_eq_true] at a1
  rw [layL_app, Bool.and_eq_true, D.pAll, PyData.canLayAll0, Bool.and_eq_true] at a4
  rw [deepL_app, D.deepL] at a2
  rw [wtL_app, D.wtL] at a3
  exact ⟨⟨a1.1, Nat.le_refl _, Nat.le_refl _, a4.1⟩, ⟨a1.2.1, Nat.le_refl _, Nat.le_refl _, a4.2.1⟩, ⟨a1.2.2, Nat.le_refl _, Nat.le_refl _, a4.2.2⟩, by omega, by omega, by omega, a3⟩
/-- a text's key may be compared -/
theorem Fit.key {s : Str} {r : List D} {k w : Nat} (h : Fit (.tup (.str s :: r)) k w) : shOk (.str s) = true := by
  have := h.lay
  simp only [D.p, D.pAll, PyData.canLay0, PyData.canLayAll0, Bool.and_eq_true] at this
  exact true_ok (ok_true (x := s) (by simpa [D.p, PyData.canLay0] using this.1))
end Iv
namespace Tr
open PySem PySem.Spec PyProof.Rows L2 Iv
mutual
/-- its ints are small, no bool in it -/
def small : D → Bool
  | .int i => decide (-1000000 ≤ i) && decide (i ≤ 1000000)
  | .bl _ => false
  | .tup xs => smallL xs
  | .lst xs => smallL xs
  | _ => true
def smallL : List D → Bool
  | [] => true
  | x :: xs => small x && smallL xs
end
theorem smallL_mem : ∀ {xs : List D}, smallL xs = true → ∀ x ∈ xs, small x = true
  | x :: xs, h, y, hy => by
    rw [smallL, Bool.and_eq_true] at h
    rcases List.mem_cons.mp hy with rfl | hy
    · exact h.1
    · exact smallL_mem h.2 y hy
theorem smallL_of : ∀ {xs : List D}, (∀ x ∈ xs, small x = true) → smallL xs = true
  | [], _ => by rw [smallL]
  | x :: xs, h => by
    rw [smallL, Bool.and_eq_true]
    exact ⟨h x (List.mem_cons_self ..), smallL_of fun y hy => h y (List.mem_cons_of_mem _ hy)⟩
theorem split_at {α : Type} {xs : List α} {i : Nat} (h : i < xs.length) : ∃ A x B, xs = A ++ x :: B ∧ A.length = i :=
  ⟨xs.take i, xs[i], xs.drop (i + 1), by simp, by rw [List.length_take]; omega⟩
theorem cut_a {α : Type} (A B : List α) (x : α) : cutL (A ++ x :: B) none (some (A.length : Int)) = A := by
  rw [cutL_hi]
  simp
theorem cut_b {α : Type} (A B : List α) (x : α) : cutL (A ++ x :: B) (some ((A.length : Int) + 1)) none = B := by
  have := cutL_lo (A ++ x :: B) (A.length + 1)
  rw [show (((A.length + 1 : Nat)) : Int) = (A.length : Int) + 1 by omega] at this
  rw [this]
  simp
theorem cut_c {α : Type} (A B : List α) (x : α) : cutL (A ++ x :: B) none (some ((A.length : Int) + 1)) = A ++ [x] := by
  have := cutL_hi (A ++ x :: B) (A.length + 1)
  rw [show (((A.length + 1 : Nat)) : Int) = (A.length : Int) + 1 by omega] at this
  rw [this, List.take_append, show A.length + 1 - A.length = 1 by omega, List.take_of_length_le (by omega)]
  rfl
theorem cut_d {α : Type} (A B : List α) (x : α) : cutL (A ++ x :: B) (some (A.length : Int)) none = x :: B := by
  rw [cutL_lo]
  simp
theorem at_mid {α : Type} (A B : List α) (x : α) : atI (A ++ x :: B) (A.length : Int) = some x := by
  rw [Iv.atI_nat]
  simp
/-! ### what is a tree by the look -/
def untie : D → Nat × Nat
  | .tup [.int a, .int b] => (a.toNat, b.toNat)
  | _ => (0, 0)
theorem tie_back {d : D} {k : Nat} (h : isTie d (k : Nat) = true) : d = tieD (untie d) ∧ (untie d).1 ≤ k ∧ 1 ≤ (untie d).2 ∧ (untie d).2 ≤ 999 := by
  cases d with
  | tup xs =>
    match xs, h with
    | [], h => simp [isTie] at h
    | [a], h => simp [isTie] at h
    | a :: b :: c :: r, h => simp [isTie] at h
    | [a, b], h =>
      cases a <;> cases b <;> simp [isTie, within] at h
      rename_i a b
      simp only [untie, tieD]
      rw [show ((a.toNat : Nat) : Int) = a by omega, show ((b.toNat : Nat) : Int) = b by omega]
      exact ⟨rfl, by omega, by omega, by omega⟩
  | _ => simp [isTie] at h
theorem tree_back {d : D} (h : isTree d = true) : ∃ ts, d = treeD ts ∧ GoodT ts := by
  cases d with
  | tup xs =>
    match xs, h with
    | [], h => simp [isTree] at h
    | [a], h => simp [isTree] at h
    | a :: b :: c :: r, h => simp [isTree] at h
    | [a, b], h =>
      cases a with
      | str s =>
        cases b with
        | tup ys =>
          simp only [isTree, Bool.and_eq_true, decide_eq_true_eq, List.all_eq_true] at h
          obtain ⟨⟨rfl, hl⟩, h2⟩ := h
          have h3 : ∀ (i : Nat) (y : D), ys[i]? = some y → isTie y (i : Nat) = true := fun i y hy => h2 (y, i) (List.mem_zipIdx_iff_getElem?.mpr hy)
          have h4 : ∀ (i : Nat) (q : Nat × Nat), (ys.map untie)[i]? = some q → ∃ y, ys[i]? = some y ∧ q = untie y := fun i q hq => by
            rw [List.getElem?_map] at hq
            cases e : ys[i]? with
            | none => rw [e] at hq; cases hq
            | some y => rw [e] at hq; cases hq; exact ⟨y, rfl, rfl⟩
          refine ⟨ys.map untie, ?_, ⟨by rw [List.length_map]; omega, ?_, ?_, ?_⟩⟩
          · unfold treeD
            have e : (ys.map untie).map tieD = ys := by
              rw [List.map_map]
              refine Eq.trans (List.map_congr_left (g := id) fun y hy => ?_) (List.map_id _)
              obtain ⟨i, hi⟩ := List.getElem?_of_mem hy
              exact (tie_back (h3 i y hi)).1.symm
            rw [e]
          · intro i q hq
            obtain ⟨y, hy, rfl⟩ := h4 i q hq
            exact (tie_back (h3 i y hy)).2.1
          · intro i q hq
            obtain ⟨y, hy, rfl⟩ := h4 i q hq
            exact (tie_back (h3 i y hy)).2.2.1
          · intro i q hq
            obtain ⟨y, hy, rfl⟩ := h4 i q hq
            exact (tie_back (h3 i y hy)).2.2.2
        | _ => simp [isTree] at h
      | _ => simp [isTree] at h
  | _ => simp [isTree] at h
theorem small_tree {ts : Ties} (g : GoodT ts) : small (treeD ts) = true := by
  have h : smallL (ts.map tieD) = true := smallL_of fun x hx => by
    obtain ⟨q, hq, rfl⟩ := List.mem_map.mp hx
    obtain ⟨i, hi, e⟩ := List.getElem_of_mem hq
    have e' : ts[i]? = some q := by rw [List.getElem?_eq_getElem hi, e]
    have h1 := g.fat i q e'
    have h2 := g.hi i q e'
    have := g.len
    simp [tieD, small, smallL]
    omega
  simp [treeD, small, smallL, h]
end Tr
set_option Elab.async false
set_option linter.all false
set_option maxRecDepth 100000
set_option maxHeartbeats 1000000
namespace Iv
open PySem PySem.Spec PyProof.Rows L2
theorem FitL.item {xs : List D} {k w : Nat} (h : FitL xs k w) : ∀ x ∈ xs, Fit x x.deep x.wt ∧ x.deep ≤ k ∧ x.wt ≤ w := by
  intro x hx
  obtain ⟨A, B, rfl⟩ := List.append_of_mem hx
  obtain ⟨_, h2, _, _, h5, _, h7⟩ := h.parts
  exact ⟨h2, h5, by omega⟩
theorem Fit.item {xs : List D} {k w : Nat} (h : Fit (.tup xs) k w) : ∀ x ∈ xs, Fit x x.deep x.wt := fun x hx => (h.ofTup.item x hx).1
/-- its first text may be compared -/
theorem Fit.keyOf {d : D} {k w : Nat} (h : Fit d k w) : ∀ s b, d = .tup [.str s, b] → shOk (.str s) = true := fun s b e => (e ▸ h).key
theorem allD_nil : allD (.lst []) = some (.bl true) := rfl
/-- a pure comprehension that maps all -/
theorem filterMap_all {α β : Type} (f : α → β) (l : List α) : l.filterMap (fun x => some (f x)) = l.map f := by
  rw [← List.filterMap_eq_map]
  rfl
end Iv
namespace Tr
open PySem PySem.Spec PyProof.Rows L2 Iv
/-! ### woods among all values -/
def risingI (l : List Int) : Bool := (l.zip (l.drop 1)).all fun p => decide (p.1 < p.2)
def isCust (d : D) (k : Int) : Bool := match d with
  | .tup [a, b, c, e] => within a 0 (k - 1) && within b 0 9999 && within c 0 99 && within e 0 9999
  | _ => false
def isSite (d : D) (k : Int) : Bool := match d with
  | .tup [a, b] => within a 0 (k - 1) && within b 0 9999
  | _ => false
def site0 : D → Int
  | .tup (.int a :: _) => a
  | _ => 0
def areSites (d : D) (k : Int) : Bool := match d with
  | .tup xs => decide (xs.length ≤ 10) && (xs.all fun x => isSite x k) && risingI (xs.map site0)
  | _ => false
def areCusts (d : D) (k : Int) : Bool := match d with
  | .tup xs => decide (xs.length ≤ 12) && (xs.all fun x => isCust x k)
  | _ => false
def manyOf : D → Int
  | .tup [_, .tup ts] => (ts.length : Int) + 1
  | _ => 0
def isWood (d : D) : Bool := match d with
  | .tup [.str s, t, c, e] => decide (s = ("wood" : Str)) && isTree t && areCusts c (manyOf t) && areSites e (manyOf t)
  | _ => false
theorem wood_str : shOk (.str ("wood" : Str)) = true := by decide +kernel
theorem isCust_len {xs : List D} {k : Int} (h : xs.length ≠ 4) : isCust (.tup xs) k = false := by
  match xs, h with
  | [], _ => rfl
  | [_], _ => rfl
  | [_, _], _ => rfl
  | [_, _, _], _ => rfl
  | [_, _, _, _], h => exact absurd rfl h
  | _ :: _ :: _ :: _ :: _ :: _, _ => rfl
theorem isSite_len {xs : List D} {k : Int} (h : xs.length ≠ 2) : isSite (.tup xs) k = false := by
  match xs, h with
  | [], _ => rfl
  | [_], _ => rfl
  | [_, _], h => exact absurd rfl h
  | _ :: _ :: _ :: _, _ => rfl
theorem isWood_len {xs : List D} (h : xs.length ≠ 4) : isWood (.tup xs) = false := by
  match xs, h with
  | [], _ => rfl
  | [a], _ => cases a <;> rfl
  | [a, _], _ => cases a <;> rfl
  | [a, _, _], _ => cases a <;> rfl
  | [_, _, _, _], h => exact absurd rfl h
  | a :: _ :: _ :: _ :: _ :: _, _ => cases a <;> rfl
theorem of_len4 {xs : List D} (h : xs.length = 4) : ∃ a b c d, xs = [a, b, c, d] := by
  match xs, h with
  | [a, b, c, d], _ => exact ⟨a, b, c, d, rfl⟩
theorem of_len2 {xs : List D} (h : xs.length = 2) : ∃ a b, xs = [a, b] := by
  match xs, h with
  | [a, b], _ => exact ⟨a, b, rfl⟩
theorem within_int {d : D} {lo hi : Int} (h : within d lo hi = true) : ∃ i, d = .int i ∧ lo ≤ i ∧ i ≤ hi := by
  cases d with
  | int i =>
    simp only [within, Bool.and_eq_true, decide_eq_true_eq] at h
    exact ⟨i, rfl, h⟩
  | _ => simp [within] at h
structure Cu where
  pl : Nat
  re : Nat
  ra : Nat
  fe : Nat
def cuD (c : Cu) : D := .tup [natD c.pl, natD c.re, natD c.ra, natD c.fe]
structure Wd where
  ts : Ties
  cs : List Cu
  ss : List (Nat × Nat)
def woodD (w : Wd) : D := .tup [.str ("wood" : Str), treeD w.ts, .tup (w.cs.map cuD), .tup (w.ss.map tieD)]
structure GoodW (w : Wd) : Prop where
  ok : isWood (woodD w) = true
  t : GoodT w.ts
  nc : w.cs.length ≤ 12
  ns : w.ss.length ≤ 10
  cu : ∀ c ∈ w.cs, c.pl ≤ w.ts.length ∧ c.re ≤ 9999 ∧ c.ra ≤ 99 ∧ c.fe ≤ 9999
  si : ∀ q ∈ w.ss, q.1 ≤ w.ts.length ∧ q.2 ≤ 9999
theorem cust_back {d : D} {k : Nat} (h : isCust d ((k : Int) + 1) = true) : ∃ c : Cu, d = cuD c ∧ c.pl ≤ k ∧ c.re ≤ 9999 ∧ c.ra ≤ 99 ∧ c.fe ≤ 9999 := by
  cases d with
  | tup xs =>
    by_cases hl : xs.length = 4
    · obtain ⟨a, b, c, e, rfl⟩ := of_len4 hl
      simp only [isCust, Bool.and_eq_true] at h
      obtain ⟨⟨⟨h1, h2⟩, h3⟩, h4⟩ := h
      obtain ⟨a, rfl, a0, a1⟩ := within_int h1
      obtain ⟨b, rfl, b0, b1⟩ := within_int h2
      obtain ⟨c, rfl, c0, c1⟩ := within_int h3
      obtain ⟨e, rfl, e0, e1⟩ := within_int h4
      refine ⟨⟨a.toNat, b.toNat, c.toNat, e.toNat⟩, ?_, by simp only; omega, by simp only; omega, by simp only; omega, by simp only; omega⟩
      simp only [cuD, natD]
      rw [Int.toNat_of_nonneg a0, Int.toNat_of_nonneg b0, Int.toNat_of_nonneg c0, Int.toNat_of_nonneg e0]
    · rw [isCust_len hl] at h
      cases h
  | _ => simp [isCust] at h
theorem site_back {d : D} {k : Nat} (h : isSite d ((k : Int) + 1) = true) : ∃ q : Nat × Nat, d = tieD q ∧ q.1 ≤ k ∧ q.2 ≤ 9999 := by
  cases d with
  | tup xs =>
    by_cases hl : xs.length = 2
    · obtain ⟨a, b, rfl⟩ := of_len2 hl
      simp only [isSite, Bool.and_eq_true] at h
      obtain ⟨h1, h2⟩ := h
      obtain ⟨a, rfl, a0, a1⟩ := within_int h1
      obtain ⟨b, rfl, b0, b1⟩ := within_int h2
      refine ⟨(a.toNat, b.toNat), ?_, by simp only; omega, by simp only; omega⟩
      simp only [tieD]
      rw [Int.toNat_of_nonneg a0, Int.toNat_of_nonneg b0]
    · rw [isSite_len hl] at h
      cases h
  | _ => simp [isSite] at h
/-- a list whose items are all pictures of something -/
theorem list_back {α : Type} {f : α → D} {P : α → Prop} : ∀ {xs : List D}, (∀ x ∈ xs, ∃ a, x = f a ∧ P a) → ∃ l : List α, xs = l.map f ∧ ∀ a ∈ l, P a
  | [], _ => ⟨[], rfl, fun a h => nomatch h⟩
  | x :: xs, h => by
    obtain ⟨a, rfl, ha⟩ := h x (List.mem_cons_self ..)
    obtain ⟨l, rfl, hl⟩ := list_back fun y hy => h y (List.mem_cons_of_mem _ hy)
    exact ⟨a :: l, rfl, fun b hb => by
      rcases List.mem_cons.mp hb with rfl | hb
      · exact ha
      · exact hl b hb⟩
theorem manyOf_tree (ts : Ties) : manyOf (treeD ts) = (ts.length : Int) + 1 := by
  simp [manyOf, treeD]
theorem wood_back {d : D} (h : isWood d = true) : ∃ w, d = woodD w ∧ GoodW w := by
  have h0 := h
  cases d with
  | tup xs =>
    by_cases hl : xs.length = 4
    · obtain ⟨a, t, c, e, rfl⟩ := of_len4 hl
      cases a with
      | str s =>
        simp only [isWood, Bool.and_eq_true, decide_eq_true_eq] at h
        obtain ⟨⟨⟨rfl, h1⟩, h2⟩, h3⟩ := h
        obtain ⟨ts, rfl, g⟩ := tree_back h1
        rw [manyOf_tree] at h2 h3
        cases c with
        | tup cs =>
          cases e with
          | tup ss =>
            simp only [areCusts, areSites, Bool.and_eq_true, decide_eq_true_eq, List.all_eq_true] at h2 h3
            obtain ⟨l, rfl, hc⟩ := list_back fun x hx => cust_back (h2.2 x hx)
            obtain ⟨r, rfl, hs⟩ := list_back fun x hx => site_back (h3.1.2 x hx)
            refine ⟨⟨ts, l, r⟩, rfl, h0, g, ?_, ?_, hc, hs⟩
            · have := h2.1
              rwa [List.length_map] at this
            · have := h3.1.1
              rwa [List.length_map] at this
          | _ => simp [areSites] at h3
        | _ => simp [areCusts] at h2
      | _ => simp [isWood] at h
    · rw [isWood_len hl] at h
      cases h
  | _ => simp [isWood] at h
end Tr
set_option Elab.async false
set_option linter.all false
set_option maxRecDepth 100000
set_option maxHeartbeats 1000000
namespace Tr
open PySem PySem.Spec PyProof.Rows L2 Iv
/-! ### ways as numbers -/
def topT (ts : Ties) (p q : Nat) : Nat := ((up ts p).filter fun x => decide (x ∈ up ts q)).headD 0
def wayT (ts : Ties) (p q : Nat) : Int := wayI ts p q (topT ts p q)
theorem Meet.top {ts : Ties} {p q t : Nat} {A B : List Nat} (M : Meet ts p q A B t) : t = topT ts p q := by
  obtain ⟨r, hr⟩ := M.first
  rw [topT, hr]
  rfl
theorem meet_top {ts : Ties} (g : GoodT ts) (p q : Nat) : ∃ A B, Meet ts p q A B (topT ts p q) := by
  obtain ⟨A, B, t, M⟩ := meet_at g p q
  have e := M.top
  subst e
  exact ⟨A, B, M⟩
theorem Meet.way {ts : Ties} {p q t : Nat} {A B : List Nat} (M : Meet ts p q A B t) : wayI ts p q t = wayT ts p q := by
  rw [wayT, ← M.top]
theorem wayT_bound {ts : Ties} (g : GoodT ts) (p q : Nat) : -100000 ≤ wayT ts p q ∧ wayT ts p q ≤ 100000 := by
  have := dep_le g p
  have := dep_le g q
  have := dep_le g (topT ts p q)
  unfold wayT wayI
  omega
theorem wayT_comm {ts : Ties} (g : GoodT ts) (p q : Nat) : wayT ts p q = wayT ts q p := by
  obtain ⟨A, B, M⟩ := meet_top g p q
  rw [← M.flip.way, wayT, wayI_flip]
/-! ### a list by its places -/
theorem zipIdx_range {α β : Type} (h : α → Nat → Option β) (l : List α) : l.zipIdx.filterMap (fun p => h p.1 p.2) = (List.range l.length).filterMap fun i => (l[i]?).bind fun x => h x i := by
  suffices q : ∀ n, n ≤ l.length → (l.take n).zipIdx.filterMap (fun p => h p.1 p.2) = (List.range n).filterMap fun i => (l[i]?).bind fun x => h x i by
    have := q l.length (Nat.le_refl _)
    rwa [List.take_length] at this
  intro n
  induction n with
  | zero => intro _; rfl
  | succ n ih =>
    intro hn
    have hx : l[n]? = some l[n] := List.getElem?_eq_getElem (by omega)
    rw [List.take_add_one, hx, List.range_succ, List.filterMap_append, ← ih (by omega)]
    show ((l.take n) ++ [l[n]]).zipIdx.filterMap _ = _
    rw [List.zipIdx_append, List.filterMap_append, List.length_take, Nat.min_eq_left (by omega), Nat.zero_add]
    congr 1
    simp only [List.filterMap_cons, hx, Option.bind_some, List.filterMap_nil, List.zipIdx_cons, List.zipIdx_nil]
theorem at_map {α : Type} (f : α → D) (l : List α) {i : Nat} {x : α} (h : l[i]? = some x) : atI (l.map f) ((i : Nat) : Int) = some (f x) := by
  rw [Iv.atI_nat, List.getElem?_map, h]
  rfl
/-! ### a wood's parts -/
theorem wood1 (w : Wd) : idxD (woodD w) (.int 1) = some (treeD w.ts) := rfl
theorem wood2 (w : Wd) : idxD (woodD w) (.int 2) = some (.tup (w.cs.map cuD)) := rfl
theorem wood3 (w : Wd) : idxD (woodD w) (.int 3) = some (.tup (w.ss.map tieD)) := rfl
theorem tree1 (ts : Ties) : idxD (treeD ts) (.int 1) = some (.tup (ts.map tieD)) := rfl
theorem cu0 (c : Cu) : idxD (cuD c) (.int 0) = some (natD c.pl) := rfl
theorem cu1 (c : Cu) : idxD (cuD c) (.int 1) = some (natD c.re) := rfl
theorem cu2 (c : Cu) : idxD (cuD c) (.int 2) = some (natD c.ra) := rfl
theorem cu3 (c : Cu) : idxD (cuD c) (.int 3) = some (natD c.fe) := rfl
theorem tie0 (q : Nat × Nat) : idxD (tieD q) (.int 0) = some (natD q.1) := rfl
theorem tie1 (q : Nat × Nat) : idxD (tieD q) (.int 1) = some (natD q.2) := rfl
/-- whom a place reaches -/
def reachB (w : Wd) (pl i : Nat) : Bool := match w.cs[i]? with
  | some c => decide (wayT w.ts c.pl pl ≤ (c.re : Int))
  | none => false
theorem reachB_at {w : Wd} {i : Nat} {c : Cu} (h : w.cs[i]? = some c) (pl : Nat) : reachB w pl i = decide (wayT w.ts c.pl pl ≤ (c.re : Int)) := by
  rw [reachB, h]
def reachL (w : Wd) (pl : Nat) : List Nat := (List.range w.cs.length).filter (reachB w pl)
theorem filterMap_eq {α β : Type} {f g : α → Option β} : ∀ {l : List α}, (∀ x ∈ l, f x = g x) → l.filterMap f = l.filterMap g
  | [], _ => rfl
  | x :: l, h => by
    rw [List.filterMap_cons, List.filterMap_cons, h x (List.mem_cons_self ..), filterMap_eq fun y hy => h y (List.mem_cons_of_mem _ hy)]
theorem fit_reach {w : Wd} (g : GoodW w) (pl : Nat) : Fit (.lst ((reachL w pl).map natD)) 1 1500 := fit_filter (by have := g.nc; omega) _
theorem fit_str4 : Fit (.str ("wood" : Str)) 0 100 :=
  ⟨by simp [D.num], by simp [D.deep], by decide +kernel, by decide +kernel⟩
theorem fit_cu {c : Cu} (h1 : c.pl < 10 ^ 20) (h2 : c.re < 10 ^ 20) (h3 : c.ra < 10 ^ 20) (h4 : c.fe < 10 ^ 20) : Fit (cuD c) 1 99 :=
  ((FitL.cons (Fit.int (i := (c.pl : Int)) (by omega)) (FitL.cons (Fit.int (i := (c.re : Int)) (by omega)) (FitL.cons (Fit.int (i := (c.ra : Int)) (by omega)) (FitL.cons (Fit.int (i := (c.fe : Int)) (by omega)) FitL.nil)))).tup).wide (by decide) (by decide)
end Tr
set_option Elab.async false
set_option linter.all false
set_option maxRecDepth 100000
set_option maxHeartbeats 1000000
namespace Tr
open PySem PySem.Spec PyProof.Rows L2 Iv
/-- a wood's parts in bounds -/
structure PreW (w : Wd) : Prop where
  t : GoodT w.ts
  nc : w.cs.length ≤ 12
  ns : w.ss.length ≤ 10
  cu : ∀ c ∈ w.cs, c.pl ≤ w.ts.length ∧ c.re ≤ 9999 ∧ c.ra ≤ 99 ∧ c.fe ≤ 9999
  si : ∀ q ∈ w.ss, q.1 ≤ w.ts.length ∧ q.2 ≤ 9999
theorem PreW.cuFit {w : Wd} (g : PreW w) : ∀ x ∈ w.cs.map cuD, Fit x 1 99 := by
  intro x hx
  obtain ⟨c, hc, rfl⟩ := List.mem_map.mp hx
  have h := g.cu c hc
  have := g.t.len
  exact fit_cu (by omega) (by omega) (by omega) (by omega)
theorem PreW.siFit {w : Wd} (g : PreW w) : ∀ x ∈ w.ss.map tieD, Fit x 1 51 := by
  intro x hx
  obtain ⟨c, hc, rfl⟩ := List.mem_map.mp hx
  have h := g.si c hc
  have := g.t.len
  exact fit_tie (by omega) (by omega)
theorem PreW.fitC {w : Wd} (g : PreW w) : FitL (w.cs.map cuD) 1 1212 := by
  have h := FitL.all g.cuFit
  rw [List.length_map] at h
  have := g.nc
  exact h.wide (Nat.le_refl _) (by omega)
theorem PreW.fitS {w : Wd} (g : PreW w) : FitL (w.ss.map tieD) 1 530 := by
  have h := FitL.all g.siFit
  rw [List.length_map] at h
  have := g.ns
  exact h.wide (Nat.le_refl _) (by omega)
theorem PreW.fit {w : Wd} (g : PreW w) : Fit (woodD w) 4 4500 :=
  ((FitL.cons fit_str4 (FitL.cons (fit_tree g.t) (FitL.cons g.fitC.tup (FitL.cons g.fitS.tup FitL.nil)))).tup).wide (by omega) (by omega)
theorem PreW.small {w : Wd} (g : PreW w) : small (woodD w) = true := by
  have h1 : smallL (w.cs.map cuD) = true := smallL_of fun x hx => by
    obtain ⟨c, hc, rfl⟩ := List.mem_map.mp hx
    have h := g.cu c hc
    have := g.t.len
    simp [cuD, Tr.small, smallL]
    omega
  have h2 : smallL (w.ss.map tieD) = true := smallL_of fun x hx => by
    obtain ⟨c, hc, rfl⟩ := List.mem_map.mp hx
    have h := g.si c hc
    have := g.t.len
    simp [tieD, Tr.small, smallL]
    omega
  have h3 := small_tree g.t
  simp [woodD, Tr.small, smallL, h1, h2, h3]
theorem cutL_hi1 {α : Type} (xs : List α) : cutL xs none (some 1) = xs.take 1 := cutL_hi xs 1
theorem cutL_hi2 {α : Type} (xs : List α) : cutL xs none (some 2) = xs.take 2 := cutL_hi xs 2
theorem cutL_hi3 {α : Type} (xs : List α) : cutL xs none (some 3) = xs.take 3 := cutL_hi xs 3
theorem wood_cut2 (w : Wd) : cutD (woodD w) none (some 2) = some (.tup [.str ("wood" : Str), treeD w.ts]) := by
  show some (D.tup (cutL [.str ("wood" : Str), treeD w.ts, .tup (w.cs.map cuD), .tup (w.ss.map tieD)] none (some 2))) = _
  rw [cutL_hi2]
  rfl
theorem wood_cut3 (w : Wd) : cutD (woodD w) none (some 3) = some (.tup [.str ("wood" : Str), treeD w.ts, .tup (w.cs.map cuD)]) := by
  show some (D.tup (cutL [.str ("wood" : Str), treeD w.ts, .tup (w.cs.map cuD), .tup (w.ss.map tieD)] none (some 3))) = _
  rw [cutL_hi3]
  rfl
theorem wood_list (w : Wd) : listD (woodD w) = some (.lst [.str ("wood" : Str), treeD w.ts, .tup (w.cs.map cuD), .tup (w.ss.map tieD)]) := rfl
theorem wood_more (w : Wd) (x : D) : addD (woodD w) (.tup [x]) = some (.tup [.str ("wood" : Str), treeD w.ts, .tup (w.cs.map cuD), .tup (w.ss.map tieD), x]) := rfl
theorem line_ge {n : Nat} (h : n ≤ 1000) : n ≤ line := small_line h
theorem FitL.of {xs : List D} {k v n : Nat} (h : ∀ x ∈ xs, Fit x k v) (hn : xs.length ≤ n) : FitL xs k ((v + 2) * n) :=
  (FitL.all h).wide (Nat.le_refl _) (Nat.mul_le_mul_left _ hn)
end Tr
set_option Elab.async false
set_option linter.all false
set_option maxRecDepth 100000
set_option maxHeartbeats 1000000
/-! Jz: data with empty dicts in them; ratios; whom lots of sites reach. Plain. -/
namespace Iv
open PySem PySem.Spec PyProof.Rows L2
@[simp] theorem isA_emp (T : String) : D.emp.isA T = (T == "dict") := rfl
@[simp] theorem truth_emp : truth .emp = none := rfl
@[simp] theorem len_emp : lenD .emp = none := rfl
/-! ### small data, dicts without entries among them -/
structure FitE (d : D) (k w : Nat) : Prop where
  num : d.num = true
  deep : d.deep ≤ k
  wt : d.wt ≤ w
  cl : d.cl = true
structure FitEL (xs : List D) (k w : Nat) : Prop where
  num : D.numL xs = true
  deep : D.deepL xs ≤ k
  wt : D.wtL xs ≤ w
  cl : D.clL xs = true
theorem Fit.e {d : D} {k w : Nat} (h : Fit d k w) : FitE d k w := ⟨h.num, h.deep, h.wt, cl_lay d h.lay⟩
theorem FitL.e {d : List D} {k w : Nat} (h : FitL d k w) : FitEL d k w := ⟨h.num, h.deep, h.wt, cl_layL d h.lay⟩
theorem FitE.emp : FitE .emp 1 2 := ⟨by simp [D.num], by simp [D.deep], by simp [D.wt], by simp [D.cl]⟩
theorem FitEL.nil : FitEL [] 0 0 := ⟨by simp [D.numL], by simp [D.deepL], by simp [D.wtL], by simp [D.clL]⟩
theorem FitEL.cons {x : D} {xs : List D} {k j w v : Nat} (h : FitE x k w) (hs : FitEL xs j v) : FitEL (x :: xs) (max k j) (w + 2 + v) := by
  obtain ⟨a1, a2, a3, a4⟩ := h
  obtain ⟨b1, b2, b3, b4⟩ := hs
  refine ⟨by simp [D.numL, a1, b1], ?_, ?_, by simp [D.clL, a4, b4]⟩
  · simp only [D.deepL]
    omega
  · simp only [D.wtL]
    omega
theorem FitEL.lst {xs : List D} {k w : Nat} (h : FitEL xs k w) : FitE (.lst xs) (k + 1) (w + 3) := by
  obtain ⟨b1, b2, b3, b4⟩ := h
  refine ⟨by simp [D.num, b1], ?_, ?_, by simp [D.cl, b4]⟩
  · simp only [D.deep]
    omega
  · simp only [D.wt]
    omega
theorem FitEL.tup {xs : List D} {k w : Nat} (h : FitEL xs k w) : FitE (.tup xs) (k + 1) (w + 3) := by
  obtain ⟨b1, b2, b3, b4⟩ := h
  refine ⟨by simp [D.num, b1], ?_, ?_, by simp [D.cl, b4]⟩
  · simp only [D.deep]
    omega
  · simp only [D.wt]
    omega
theorem FitEL.wide {xs : List D} {k j w v : Nat} (h : FitEL xs k w) (hk : k ≤ j) (hw : w ≤ v) : FitEL xs j v := ⟨h.num, Nat.le_trans h.deep hk, Nat.le_trans h.wt hw, h.cl⟩
theorem FitE.wide {x : D} {k j w v : Nat} (h : FitE x k w) (hk : k ≤ j) (hw : w ≤ v) : FitE x j v := ⟨h.num, Nat.le_trans h.deep hk, Nat.le_trans h.wt hw, h.cl⟩
theorem FitEL.all {k w : Nat} : ∀ {xs : List D}, (∀ x ∈ xs, FitE x k w) → FitEL xs k ((w + 2) * xs.length)
  | [], _ => FitEL.nil.wide (Nat.zero_le _) (Nat.zero_le _)
  | x :: xs, h => by
    have h1 := FitEL.cons (h x (List.mem_cons_self ..)) (FitEL.all fun y hy => h y (List.mem_cons_of_mem _ hy))
    refine h1.wide (by omega) ?_
    rw [List.length_cons, Nat.mul_add]
    omega
theorem FitEL.of {xs : List D} {k v n : Nat} (h : ∀ x ∈ xs, FitE x k v) (hn : xs.length ≤ n) : FitEL xs k ((v + 2) * n) :=
  (FitEL.all h).wide (Nat.le_refl _) (Nat.mul_le_mul_left _ hn)
theorem FitE.repr {d : D} {k w : Nat} (h : FitE d k w) (hk : k ≤ 60) (hw : w ≤ line) : reprD d = some (.str d.p.shown) := by
  refine reprD_ok ?_
  have h1 := h.deep
  have h2 := h.wt
  simp only [showB, h.num, Bool.true_and, Bool.and_eq_true, decide_eq_true_eq]
  omega
theorem FitE.ne {d : D} {k w : Nat} (h : FitE d k w) : neD (.str d.p.shown) (.str d.p.shown) = some (.bl false) := by
  rw [neD_str (sh_shownC h.cl) (sh_shownC h.cl)]
  simp
theorem FitE.eq {d : D} {k w : Nat} (h : FitE d k w) : eqD (.str d.p.shown) (.str d.p.shown) = some (.bl true) := by
  rw [eqD_str (sh_shownC h.cl) (sh_shownC h.cl)]
  simp
theorem clL_app : ∀ xs ys : List D, D.clL (xs ++ ys) = (D.clL xs && D.clL ys)
  | [], ys => by simp [D.clL]
  | x :: xs, ys => by simp [D.clL, clL_app xs ys, Bool.and_assoc]
theorem FitEL.app {xs ys : List D} {k j w v : Nat} (h : FitEL xs k w) (hs : FitEL ys j v) : FitEL (xs ++ ys) (max k j) (w + v) := by
  obtain ⟨a1, a2, a3, a4⟩ := h
  obtain ⟨b1, b2, b3, b4⟩ := hs
  refine ⟨by rw [numL_app, a1, b1]; rfl, ?_, ?_, by rw [clL_app, a4, b4]; rfl⟩
  · rw [deepL_app]
    omega
  · rw [wtL_app]
    omega
theorem numL_mem : ∀ {xs : List D}, D.numL xs = true → ∀ x ∈ xs, x.num = true
  | y :: ys, h, x, hx => by
    rw [D.numL, Bool.and_eq_true] at h
    rcases List.mem_cons.mp hx with rfl | hx
    · exact h.1
    · exact numL_mem h.2 x hx
theorem FitE.items {xs : List D} {k w : Nat} (h : FitE (.tup xs) k w) : ∀ x ∈ xs, x.num = true := numL_mem (by simpa [D.num] using h.num)
end Iv
namespace Tr
open PySem PySem.Spec PyProof.Rows L2 Iv
/-- pairs of neighbours -/
theorem zip_next (l : List Int) : zipD (l.map D.int) ((l.map D.int).drop 1) = (l.zip (l.drop 1)).map fun p => D.tup [.int p.1, .int p.2] := by
  unfold zipD
  rw [← List.map_drop, List.zip_map, List.map_map]
  rfl
theorem site_first {x : D} {k : Int} (h : isSite x k = true) : ∃ c, x = .tup [.int (site0 x), c] := by
  cases x with
  | tup xs =>
    by_cases hl : xs.length = 2
    · obtain ⟨a, b, rfl⟩ := of_len2 hl
      simp only [isSite, Bool.and_eq_true] at h
      obtain ⟨i, rfl, _⟩ := within_int h.1
      exact ⟨b, rfl⟩
    · rw [isSite_len hl] at h
      cases h
  | _ => simp [isSite] at h
theorem zip_sites (xs : List D) : zipD xs (xs.drop 1) = (xs.zip (xs.drop 1)).map fun p => D.tup [p.1, p.2] := rfl
theorem falls_not : ∀ l : List (Int × Int), (!l.any fun p => decide (p.2 ≤ p.1)) = l.all fun p => decide (p.1 < p.2)
  | [] => rfl
  | p :: l => by
    rw [List.any_cons, List.all_cons, ← falls_not l]
    by_cases h : p.2 ≤ p.1
    · have h' : ¬ p.1 < p.2 := by omega
      simp [h, h']
    · have h' : p.1 < p.2 := by omega
      simp [h, h']
theorem nat_of {d : Int} (h : 0 ≤ d) : ∃ n : Nat, d = (n : Int) := ⟨d.toNat, by omega⟩
theorem go_split (Φ : Phi) : ∀ (a b : List S) (ρ ρ2 : Iv.Env), evS.go Φ a ρ = .nx ρ2 → evS.go Φ (a ++ b) ρ = evS.go Φ b ρ2
  | [], b, ρ, ρ2, h => by
    simp only [evS.go] at h
    cases h
    rfl
  | s :: a, b, ρ, ρ2, h => by
    simp only [evS.go, List.cons_append] at h ⊢
    cases hs : evS Φ s ρ with
    | nx ρ1 =>
      rw [hs] at h
      simp only [sseq_nx] at h ⊢
      exact go_split Φ a b ρ1 ρ2 h
    | _ =>
      rw [hs] at h
      cases h
/-! ### ratios -/
def redR (n d : Int) : Int × Int := (n / ((Nat.gcd n.natAbs d.natAbs : Nat) : Int), d / ((Nat.gcd n.natAbs d.natAbs : Nat) : Int))
def rtD (r : Int × Int) : D := .tup [.int r.1, .int r.2]
def plusR (a b : Int × Int) : Int × Int := redR (a.1 * b.2 + b.1 * a.2) (a.2 * b.2)
def sumR (l : List (Int × Int)) : Int × Int := l.foldl plusR (0, 1)
def lessR (a b : Int × Int) : Bool := decide (a.1 * b.2 < b.1 * a.2)
theorem gcd_pos {n d : Int} (h : 0 < d) : 0 < Nat.gcd n.natAbs d.natAbs := Nat.gcd_pos_of_pos_right _ (by omega)
theorem red_bound {n d : Int} (h : 0 < d) : 0 < (redR n d).2 ∧ (redR n d).2 ≤ d ∧ (redR n d).1.natAbs ≤ n.natAbs := by
  have hg := gcd_pos (n := n) h
  obtain ⟨a, ha⟩ := Int.natAbs_dvd_natAbs.mp (show ((Nat.gcd n.natAbs d.natAbs : Nat) : Int).natAbs ∣ n.natAbs by rw [Int.natAbs_natCast]; exact Nat.gcd_dvd_left _ _)
  obtain ⟨b, hb⟩ := Int.natAbs_dvd_natAbs.mp (show ((Nat.gcd n.natAbs d.natAbs : Nat) : Int).natAbs ∣ d.natAbs by rw [Int.natAbs_natCast]; exact Nat.gcd_dvd_right _ _)
  unfold redR
  generalize hG : ((Nat.gcd n.natAbs d.natAbs : Nat) : Int) = G at *
  have hG0 : 0 < G := by omega
  have e1 : n / G = a := by
    rw [ha]
    exact Int.mul_ediv_cancel_left _ (by omega)
  have e2 : d / G = b := by
    rw [hb]
    exact Int.mul_ediv_cancel_left _ (by omega)
  simp only [e1, e2]
  have b0 : 0 < b := by
    rcases Int.lt_or_le 0 b with q | q
    · exact q
    · have : G * b ≤ 0 := Int.mul_nonpos_of_nonneg_of_nonpos (by omega) q
      omega
  refine ⟨b0, ?_, ?_⟩
  · have : 1 * b ≤ G * b := Int.mul_le_mul_of_nonneg_right (by omega) (by omega)
    omega
  · rw [ha, Int.natAbs_mul]
    have : 1 * a.natAbs ≤ G.natAbs * a.natAbs := Nat.mul_le_mul_right _ (by omega)
    omega
/-- in bounds, k of twenty figures put together -/
structure RB (k : Nat) (r : Int × Int) : Prop where
  pos : 0 < r.2
  den : r.2.natAbs ≤ (10 ^ 20) ^ k
  num : r.1.natAbs ≤ k * (10 ^ 20) ^ k
theorem RB.zero : RB 0 (0, 1) := ⟨by decide, by decide, by decide⟩
theorem RB.plus {k : Nat} {a b : Int × Int} (h : RB k a) (h2 : 0 < b.2) (h3 : b.2.natAbs ≤ 10 ^ 20) (h4 : b.1.natAbs ≤ 10 ^ 20) : RB (k + 1) (plusR a b) := by
  have hp : 0 < a.2 * b.2 := Int.mul_pos h.pos h2
  obtain ⟨q1, q2, q3⟩ := red_bound (n := a.1 * b.2 + b.1 * a.2) hp
  have e2 : (a.2 * b.2).natAbs ≤ (10 ^ 20) ^ (k + 1) := by
    rw [Int.natAbs_mul, Nat.pow_succ]
    exact Nat.mul_le_mul h.den h3
  have e1 : (a.1 * b.2 + b.1 * a.2).natAbs ≤ (k + 1) * (10 ^ 20) ^ (k + 1) := by
    have a1 : (a.1 * b.2).natAbs ≤ k * (10 ^ 20) ^ k * 10 ^ 20 := by
      rw [Int.natAbs_mul]
      exact Nat.mul_le_mul h.num h3
    have a2 : (b.1 * a.2).natAbs ≤ 10 ^ 20 * (10 ^ 20) ^ k := by
      rw [Int.natAbs_mul]
      exact Nat.mul_le_mul h4 h.den
    have a3 := Int.natAbs_add_le (a.1 * b.2) (b.1 * a.2)
    have a4 : (k + 1) * (10 ^ 20) ^ (k + 1) = k * (10 ^ 20) ^ k * 10 ^ 20 + 10 ^ 20 * (10 ^ 20) ^ k := by
      rw [Nat.pow_succ, Nat.add_mul, Nat.one_mul, Nat.mul_assoc, Nat.mul_comm ((10 ^ 20) ^ k) (10 ^ 20)]
    omega
  refine ⟨q1, ?_, ?_⟩
  · show (redR (a.1 * b.2 + b.1 * a.2) (a.2 * b.2)).2.natAbs ≤ _
    omega
  · show (redR (a.1 * b.2 + b.1 * a.2) (a.2 * b.2)).1.natAbs ≤ _
    omega
theorem RB.wide {k j : Nat} {r : Int × Int} (h : RB k r) (hk : k ≤ j) : RB j r := by
  have e : (10 ^ 20) ^ k ≤ (10 ^ 20) ^ j := Nat.pow_le_pow_right (by decide) hk
  exact ⟨h.pos, Nat.le_trans h.den e, Nat.le_trans h.num (Nat.mul_le_mul hk e)⟩
theorem RB.sum : ∀ {l : List (Int × Int)} {k : Nat} {a : Int × Int}, RB k a → (∀ b ∈ l, 0 < b.2 ∧ b.2.natAbs ≤ 10 ^ 20 ∧ b.1.natAbs ≤ 10 ^ 20) → RB (k + l.length) (l.foldl plusR a)
  | [], _, _, h, _ => h
  | b :: l, k, a, h, hb => by
    obtain ⟨b1, b2, b3⟩ := hb b List.mem_cons_self
    have := RB.sum (h.plus b1 b2 b3) fun c hc => hb c (List.mem_cons_of_mem _ hc)
    rw [List.length_cons, show k + (l.length + 1) = k + 1 + l.length by omega]
    exact this
theorem big12 : 12 * (10 ^ 20) ^ 12 < 2 ^ 1000 := by decide +kernel
theorem log_lt {n k : Nat} (h : n < 2 ^ k) (hk : 0 < k) : n.log2 < k := by
  by_cases h0 : n = 0
  · subst h0
    simpa using hk
  · exact (Nat.log2_lt h0).mpr h
theorem mulOk_big {i j : Int} (hi : i.natAbs < 2 ^ 1000) (hj : j.natAbs < 2 ^ 1000) : mulOk i j = true := by
  have h1 := log_lt hi (by decide)
  have h2 := log_lt hj (by decide)
  unfold mulOk
  simp only [Bool.or_eq_true, decide_eq_true_eq]
  exact .inr (.inr (by omega))
theorem RB.lt {k : Nat} {r : Int × Int} (h : RB k r) (hk : k ≤ 12) : r.1.natAbs < 2 ^ 1000 ∧ r.2.natAbs < 2 ^ 1000 := by
  have h := h.wide hk
  have b := big12
  have h1 := h.num
  have h2 := h.den
  generalize (10 ^ 20) ^ 12 = N at *
  omega
theorem fdiv_gcd {n d x : Int} (hd : 0 < d) (hd2 : d.natAbs < 2 ^ 4000) : fdivD (.int x) (.int ((Nat.gcd n.natAbs d.natAbs : Nat) : Int)) = some (.int (x / ((Nat.gcd n.natAbs d.natAbs : Nat) : Int))) := by
  have hg := gcd_pos (n := n) hd
  have hle : Nat.gcd n.natAbs d.natAbs ≤ d.natAbs := Nat.le_of_dvd (by omega) (Nat.gcd_dvd_right _ _)
  have hl := log_lt (n := Nat.gcd n.natAbs d.natAbs) (k := 4000) (by omega) (by decide)
  have hc : (decide (0 < ((Nat.gcd n.natAbs d.natAbs : Nat) : Int)) && decide ((((Nat.gcd n.natAbs d.natAbs : Nat) : Int)).natAbs.log2 < 9000)) = true := by
    simp only [Bool.and_eq_true, decide_eq_true_eq, Int.natAbs_natCast]
    omega
  show (if _ then _ else _) = _
  rw [if_pos hc]
/-- is it a ratio? (its ints are small) -/
def isRt (d : D) : Bool := match d with
  | .tup [.int n, .int u] => decide (1 ≤ u) && decide (Nat.gcd n.natAbs u.natAbs = 1)
  | _ => false
def rtOf (d : D) : Int × Int := match d with
  | .tup [.int n, .int u] => (n, u)
  | _ => (0, 1)
theorem isRt_of {d : D} (h : isRt d = true) : d = rtD (rtOf d) ∧ 0 < (rtOf d).2 := by
  unfold isRt at h
  split at h
  · simp only [Bool.and_eq_true, decide_eq_true_eq] at h
    refine ⟨rfl, ?_⟩
    simp only [rtOf]
    omega
  · cases h
theorem red_same {n u : Int} (hu : 1 ≤ u) : redR n u = (n, u) ↔ Nat.gcd n.natAbs u.natAbs = 1 := by
  constructor
  · intro h
    have hg := gcd_pos (n := n) (show 0 < u by omega)
    have h2 : u / ((Nat.gcd n.natAbs u.natAbs : Nat) : Int) = u := congrArg Prod.snd h
    generalize Nat.gcd n.natAbs u.natAbs = G at *
    by_cases h1 : G = 1
    · exact h1
    · have : u / (G : Int) < u := Int.ediv_lt_self_of_pos_of_ne_one (by omega) (by omega)
      omega
  · intro h
    unfold redR
    rw [h]
    simp
theorem eq_rt (a b : Int × Int) : eqD (rtD a) (rtD b) = some (.bl (decide (a = b))) := by
  have e : ∀ r : Int × Int, shOk (rtD r) = true := fun r => by simp [shOk, SeqAt.shaped, rtD, D.p, D.pAll, PyData.canLay0, PyData.canLayAll0, PyData.depth, PyData.depthAll]
  rw [eqD_of (e a) (e b)]
  congr 2
  simp only [rtD, D.p, D.pAll, PyData.eqv, PyData.eqvAll, Bool.and_true]
  rw [Bool.eq_iff_iff]
  simp [Prod.ext_iff]
theorem num_rt {n u : Int} (h : (D.tup [.int n, .int u]).num = true) : n.natAbs ≤ 10 ^ 20 ∧ u.natAbs ≤ 10 ^ 20 := by
  simp only [D.num, D.numL, Bool.and_true, Bool.and_eq_true, decide_eq_true_eq] at h
  omega
end Tr
set_option Elab.async false
set_option linter.all false
set_option maxRecDepth 100000
set_option maxHeartbeats 1000000
/-! Jv: whom lots of sites reach, by sets. Plain. -/
namespace Iv
open PySem PySem.Spec PyProof.Rows L2
theorem insI_len {k : Int} : ∀ {l : List Int}, k ∉ l → (insI k l).length = l.length + 1
  | [], _ => rfl
  | y :: r, h => by
    have h1 : k ≠ y := fun e => h (e ▸ List.mem_cons_self)
    have h2 : k ∉ r := fun e => h (List.mem_cons_of_mem _ e)
    unfold insI
    split
    · rfl
    · rw [List.length_cons, insI_len h2, List.length_cons]
theorem srtI_len : ∀ {l : List Int}, l.Nodup → (srtI l).length = l.length
  | [], _ => rfl
  | k :: r, h => by
    obtain ⟨h1, h2⟩ := List.nodup_cons.mp h
    show (insI k (srtI r)).length = _
    rw [insI_len (fun z => h1 (mem_srtI.mp z)), srtI_len h2, List.length_cons]
theorem rise_len : ∀ {l : List Int} {a n : Int}, l.Pairwise (· < ·) → (∀ k ∈ l, a ≤ k ∧ k < n) → l.length ≤ (n - a).toNat
  | [], _, _, _, _ => Nat.zero_le _
  | x :: r, a, n, h, b => by
    obtain ⟨h1, h2⟩ := List.pairwise_cons.mp h
    have := rise_len (l := r) (a := x + 1) (n := n) h2 fun k hk => ⟨by have := h1 k hk; omega, (b k (List.mem_cons_of_mem _ hk)).2⟩
    have := b x List.mem_cons_self
    rw [List.length_cons]
    omega
theorem nodup_len {l : List Int} {n : Nat} (h : l.Nodup) (b : ∀ k ∈ l, 0 ≤ k ∧ k < (n : Int)) : l.length ≤ n := by
  have := rise_len (l := srtI l) (a := 0) (n := n) (srtI_rise l) fun k hk => b k (mem_srtI.mp hk)
  rw [srtI_len h] at this
  omega
/-- members below n, each once -/
def Mem (n : Nat) (acc : List Int) : Prop := acc.Nodup ∧ ∀ k ∈ acc, 0 ≤ k ∧ k < (n : Int)
theorem sinL_sat {g : D → Env → R Unit} {e : Env → R D} {vs1 : List Nat} {n : Nat} (hn : n < 60) {ρw : Env} (f : D → Int) : ∀ {xs : List D} {acc : List Int} {ρ : Env}, noOwn ρ vs1 = true → wipeE ρ vs1 = ρw → Mem n acc → (∀ x ∈ xs, 0 ≤ f x ∧ f x < (n : Int)) →
    (∀ x ∈ xs, ∃ ρ1 ρ2, g x ρw = .ok () ρ1 ∧ e ρ1 = .ok (.int (f x)) ρ2 ∧ noOwn ρ2 vs1 = true ∧ wipeE ρ2 vs1 = ρw) →
    ∃ acc', sinL g e vs1 xs acc ρ = .ok acc' ρw ∧ Mem n acc' ∧ ∀ k, k ∈ acc' ↔ k ∈ acc ∨ ∃ x ∈ xs, f x = k
  | [], acc, ρ, h1, h2, hm, _, _ => ⟨acc, by rw [sinL, if_pos h1, h2], hm, by simp⟩
  | x :: xs, acc, ρ, h1, h2, hm, hf, hr => by
    obtain ⟨ρ1, ρ2, r1, r2, r3, r4⟩ := hr x List.mem_cons_self
    have hl := nodup_len hm.1 hm.2
    have hx := hf x List.mem_cons_self
    have hm' : Mem n (addI acc (f x)) := ⟨addI_nodup hm.1, fun k hk => (mem_addI.mp hk).elim (hm.2 k) fun z => z ▸ hx⟩
    obtain ⟨acc', q1, q2, q3⟩ := sinL_sat hn (e := e) (g := g) f r3 r4 hm' (fun y hy => hf y (List.mem_cons_of_mem _ hy)) fun y hy => hr y (List.mem_cons_of_mem _ hy)
    refine ⟨acc', ?_, q2, fun k => ?_⟩
    · rw [sinL, if_pos h1, h2, r1]
      show (e ρ1).bind _ = _
      rw [r2]
      show (if acc.length < 60 then _ else _) = _
      rw [if_pos (by omega)]
      exact q1
    · rw [q3, mem_addI]
      simp only [List.mem_cons, exists_eq_or_imp]
      constructor
      · rintro ((h | h) | h)
        · exact .inl h
        · exact .inr (.inl h.symm)
        · exact .inr (.inr h)
      · rintro (h | h | h)
        · exact .inl (.inl h)
        · exact .inl (.inr h.symm)
        · exact .inr h
theorem soutL_sat {g : D → Env → R Unit} {i : Env → R (List D)} {b : List D → List Int → Env → R (List Int)} {ow : List Nat} {n : Nat} {ρw : Env} (F : D → Int → Prop) : ∀ {xs : List D} {acc : List Int} {ρ : Env}, noOwn ρ ow = true → wipeE ρ ow = ρw → Mem n acc →
    (∀ x ∈ xs, ∃ ρ1 ys ρ2 ρ3, g x ρw = .ok () ρ1 ∧ i ρ1 = .ok ys ρ2 ∧ noOwn ρ3 ow = true ∧ wipeE ρ3 ow = ρw ∧ ∀ acc, Mem n acc → ∃ acc', b ys acc ρ2 = .ok acc' ρ3 ∧ Mem n acc' ∧ ∀ k, k ∈ acc' ↔ k ∈ acc ∨ F x k) →
    ∃ acc', soutL g i b ow xs acc ρ = .ok acc' ρw ∧ Mem n acc' ∧ ∀ k, k ∈ acc' ↔ k ∈ acc ∨ ∃ x ∈ xs, F x k
  | [], acc, ρ, h1, h2, hm, _ => ⟨acc, by rw [soutL, if_pos h1, h2], hm, by simp⟩
  | x :: xs, acc, ρ, h1, h2, hm, hr => by
    obtain ⟨ρ1, ys, ρ2, ρ3, r1, r2, r3, r4, r5⟩ := hr x List.mem_cons_self
    obtain ⟨acc1, s1, s2, s3⟩ := r5 acc hm
    obtain ⟨acc', q1, q2, q3⟩ := soutL_sat (g := g) (i := i) (b := b) F r3 r4 s2 fun y hy => hr y (List.mem_cons_of_mem _ hy)
    refine ⟨acc', ?_, q2, fun k => ?_⟩
    · rw [soutL, if_pos h1, h2, r1]
      show (i ρ1).bind _ = _
      rw [r2]
      show (b ys acc ρ2).bind _ = _
      rw [s1]
      exact q1
    · rw [q3, s3]
      simp only [List.mem_cons, exists_eq_or_imp]
      exact or_assoc
end Iv
namespace Tr
open PySem PySem.Spec PyProof.Rows L2 Iv
def siteP (w : Wd) (s : Nat) : Nat := (w.ss.getD s (0, 0)).1
def siteC (w : Wd) (s : Nat) : Int := ((w.ss.getD s (0, 0)).2 : Nat)
def feeC (w : Wd) (c : Nat) : Int := match w.cs[c]? with
  | some c => (c.fe : Int)
  | none => 0
def reachedS (w : Wd) (ch : List Nat) (c : Nat) : Bool := ch.any fun s => reachB w (siteP w s) c
def reachS (w : Wd) (ch : List Nat) : List Nat := (List.range w.cs.length).filter (reachedS w ch)
def leftS (w : Wd) (ch : List Nat) : List Nat := (List.range w.cs.length).filter fun c => !reachedS w ch c
def costS (w : Wd) (ch : List Nat) : Int := (ch.map (siteC w)).sum + ((leftS w ch).map (feeC w)).sum
theorem filter_rise {n : Nat} (P : Nat → Bool) : ((((List.range n).filter P).map fun (i : Nat) => (i : Int))).Pairwise (· < ·) := by
  rw [List.pairwise_map]
  have : (List.range n).Pairwise (· < ·) := List.pairwise_lt_range
  exact (this.sublist List.filter_sublist).imp fun h => by omega
/-- a rising list, known by its members -/
theorem srt_filter {n : Nat} {P : Nat → Bool} {acc : List Int} (hm : Mem n acc) (h : ∀ k : Nat, k < n → ((k : Int) ∈ acc ↔ P k = true)) : (srtI acc).map D.int = ((List.range n).filter P).map natD := by
  have e : srtI acc = ((List.range n).filter P).map fun (i : Nat) => (i : Int) := by
    refine rise_ext (srtI_rise acc) (filter_rise P) fun x => ?_
    rw [mem_srtI]
    constructor
    · intro hx
      obtain ⟨h0, h1⟩ := hm.2 x hx
      obtain ⟨k, rfl⟩ : ∃ k : Nat, x = (k : Int) := ⟨x.toNat, by omega⟩
      refine List.mem_map.mpr ⟨k, List.mem_filter.mpr ⟨List.mem_range.mpr (by omega), (h k (by omega)).mp hx⟩, rfl⟩
    · intro hx
      obtain ⟨k, hk, rfl⟩ := List.mem_map.mp hx
      obtain ⟨k1, k2⟩ := List.mem_filter.mp hk
      exact (h k (List.mem_range.mp k1)).mpr k2
  rw [e, List.map_map]
  rfl
theorem reach_left (w : Wd) (ch : List Nat) : (reachS w ch).length + (leftS w ch).length = w.cs.length := by
  unfold reachS leftS
  have : ∀ l : List Nat, (l.filter (reachedS w ch)).length + (l.filter fun c => !reachedS w ch c).length = l.length := fun l => by
    induction l with
    | nil => rfl
    | cons x l ih =>
      by_cases h : reachedS w ch x = true
      · simp [h]
        omega
      · simp [h]
        omega
  rw [this, List.length_range]
end Tr
set_option Elab.async false
set_option linter.all false
set_option maxRecDepth 100000
set_option maxHeartbeats 1000000
namespace Kp
open PySem PySem.Spec L2 Iv Tr
/-- a ratio of no great figures -/
structure PR (r : Int × Int) : Prop where
  pos : 0 < r.2
  a : r.1.natAbs < 2 ^ 1000
  b : r.2.natAbs < 2 ^ 1000
theorem RB.pr {k : Nat} {r : Int × Int} (h : RB k r) (hk : k ≤ 12) : PR r := ⟨h.pos, (h.lt hk).1, (h.lt hk).2⟩
theorem PR.mul {a b : Int × Int} (ha : PR a) (hb : PR b) : 0 < a.2 * b.2 ∧ (a.2 * b.2).natAbs < 2 ^ 4000 := by
  refine ⟨Int.mul_pos ha.pos hb.pos, ?_⟩
  rw [Int.natAbs_mul]
  have h1 : a.2.natAbs * b.2.natAbs ≤ 2 ^ 1000 * 2 ^ 1000 := Nat.mul_le_mul (Nat.le_of_lt ha.b) (Nat.le_of_lt hb.b)
  have h2 : (2 : Nat) ^ 1000 * 2 ^ 1000 < 2 ^ 4000 := by decide +kernel
  omega
theorem rt0 (r : Int × Int) : idxD (rtD r) (.int 0) = some (.int r.1) := rfl
theorem rt1 (r : Int × Int) : idxD (rtD r) (.int 1) = some (.int r.2) := rfl
/-- the items of a list of ratios -/
def SmallR (l : List (Int × Int)) : Prop := ∀ b ∈ l, 0 < b.2 ∧ b.2.natAbs ≤ 10 ^ 20 ∧ b.1.natAbs ≤ 10 ^ 20
theorem SmallR.pr {l : List (Int × Int)} (h : SmallR l) {b : Int × Int} (hb : b ∈ l) : PR b := by
  obtain ⟨h1, h2, h3⟩ := h b hb
  have e : (10 : Nat) ^ 20 < 2 ^ 1000 := by decide +kernel
  exact ⟨h1, by omega, by omega⟩
theorem SmallR.take {l : List (Int × Int)} (h : SmallR l) (hl : l.length ≤ 12) (i : Nat) : PR ((l.take i).foldl plusR (0, 1)) := by
  have := RB.sum (l := l.take i) RB.zero fun b hb => h b (List.mem_of_mem_take hb)
  refine RB.pr this ?_
  rw [List.length_take]
  omega
theorem fold_take {l : List (Int × Int)} {i : Nat} {b : Int × Int} (h : l[i]? = some b) : (l.take (i + 1)).foldl plusR (0, 1) = plusR ((l.take i).foldl plusR (0, 1)) b := by
  rw [List.take_add_one, h]
  simp
theorem lim_lt : 12 * (10 ^ 20) ^ 12 < 10 ^ 400 := by decide +kernel
theorem abs_nat (n : Int) : (if n < 0 then -n else n) = (n.natAbs : Int) := by split <;> omega
theorem isRt_no {d : D} (h : ¬ ∃ a b, d = .tup [a, b]) : isRt d = false := by
  unfold isRt
  split
  · exact absurd ⟨_, _, rfl⟩ h
  · rfl
theorem isRow_no {d : D} (h : ¬ ∃ a b, d = .tup [a, b]) : isRow d 2 = false := by
  cases d with
  | tup xs =>
    by_cases hl : xs.length = 2
    · obtain ⟨a, b, rfl⟩ := of_len2 hl
      exact absurd ⟨a, b, rfl⟩ h
    · simp [isRow]
      omega
  | _ => rfl
/-- an item's number -/
def itI : D → Int
  | .int i => i
  | _ => 0
def areOpen (d : D) (k : Int) : Bool := match d with
  | .tup xs => xs.all (fun x => within x 0 (k - 1)) && risingI (xs.map itI)
  | _ => false
def arePr (d : D) (n : Nat) : Bool := match d with
  | .tup xs => decide (xs.length = n) && xs.all isRt
  | _ => false
theorem ints_of {xs : List D} {k : Int} (h : xs.all (fun x => within x 0 (k - 1)) = true) : xs = (xs.map itI).map D.int := by
  rw [List.map_map]
  symm
  rw [List.all_eq_true] at h
  have : xs.map (D.int ∘ itI) = xs.map id := by
    refine List.map_congr_left fun x hx => ?_
    obtain ⟨i, rfl, _⟩ := within_int (h x hx)
    rfl
  rw [this, List.map_id]
theorem lt_iff {a b : Int} : (a < b) = ¬ (b ≤ a) := by
  apply propext
  omega
section
variable {w : Wd} (g : GoodW w)
include g
theorem site_at {s : Nat} (h : s < w.ss.length) : w.ss[s]? = some (w.ss.getD s (0, 0)) := by
  rw [List.getD_eq_getElem?_getD, List.getElem?_eq_getElem h]
  rfl
theorem not_reach (ch : List Nat) {c : Nat} (hc : c < w.cs.length) : (!decide (c ∈ reachS w ch)) = !reachedS w ch c := by
  congr 1
  rw [Bool.eq_iff_iff]
  simp [reachS, hc]
end
section
variable {w : Wd} (g : GoodW w)
include g
theorem sumD_map {α : Type} (f : α → Int) : ∀ l : List α, sumD (.lst (l.map fun x => D.int (f x))) = some (.int (l.map f).sum) := fun l => by
  have e : ∀ l : List α, intsOf (l.map fun x => D.int (f x)) = some (l.map f) := fun l => by
    induction l with
    | nil => rfl
    | cons x l ih => rw [List.map_cons, intsOf, ih]; rfl
  show (intsOf _).map _ = _
  rw [e]
  rfl
theorem left_mem {ch : List Nat} {c : Nat} (h : c ∈ leftS w ch) : ∃ cu, w.cs[c]? = some cu ∧ feeC w c = (cu.fe : Int) := by
  have := List.mem_range.mp (List.mem_filter.mp h).1
  refine ⟨w.cs[c], List.getElem?_eq_getElem this, ?_⟩
  rw [feeC, List.getElem?_eq_getElem this]
end
theorem rising_pair : ∀ {l : List Int}, risingI l = true → l.Pairwise (· < ·)
  | [], _ => .nil
  | [x], _ => by simp
  | x :: y :: r, h => by
    have h' : (decide (x < y) && risingI (y :: r)) = true := by simpa [risingI] using h
    rw [Bool.and_eq_true, decide_eq_true_eq] at h'
    have ih := rising_pair h'.2
    refine List.pairwise_cons.mpr ⟨fun z hz => ?_, ih⟩
    rcases List.mem_cons.mp hz with rfl | hz
    · exact h'.1
    · have := (List.pairwise_cons.mp ih).1 z hz
      omega
theorem open_back {d : D} {n : Nat} (h : areOpen d n = true) : ∃ ch : List Nat, d = .tup (ch.map natD) ∧ (∀ s ∈ ch, s < n) ∧ ch.length ≤ n := by
  cases d with
  | tup xs =>
    rw [areOpen, Bool.and_eq_true] at h
    obtain ⟨h1, h2⟩ := h
    have e := ints_of h1
    have hr := rising_pair h2
    have hb : ∀ k ∈ xs.map itI, 0 ≤ k ∧ k < (n : Int) := fun k hk => by
      obtain ⟨x, hx, rfl⟩ := List.mem_map.mp hk
      obtain ⟨i, rfl, h3, h4⟩ := within_int (List.all_eq_true.mp h1 x hx)
      simp only [itI]
      omega
    have hl := rise_len hr hb
    refine ⟨(xs.map itI).map Int.toNat, ?_, fun s hs => ?_, ?_⟩
    · congr 1
      refine e.trans ?_
      rw [List.map_map, List.map_map, List.map_map]
      refine List.map_congr_left fun x hx => ?_
      obtain ⟨i, rfl, h3, h4⟩ := within_int (List.all_eq_true.mp h1 x hx)
      simp only [itI, Function.comp, natD]
      congr 1
      omega
    · obtain ⟨k, hk, rfl⟩ := List.mem_map.mp hs
      have := hb k hk
      omega
    · rw [List.length_map]
      omega
  | _ => simp [areOpen] at h
def thinS (w : Wd) (ch : List Nat) : Bool := ch.all fun s => decide ((reachS w (ch.filter fun o => !decide (o = s))).length < (reachS w ch).length)
section
variable {w : Wd} (g : GoodW w)
include g
theorem cost_bound {ch : List Nat} (hc : ∀ s ∈ ch, s < w.ss.length) (hl : ch.length ≤ 1000) : -(10 ^ 20) < costS w ch ∧ costS w ch < 10 ^ 20 := by
  have sum : ∀ (f : Nat → Int) (l : List Nat) (n : Nat), (∀ x ∈ l, 0 ≤ f x ∧ f x ≤ 9999) → l.length ≤ n → 0 ≤ (l.map f).sum ∧ (l.map f).sum ≤ 9999 * n := fun f l => by
    induction l with
    | nil => exact fun n _ _ => ⟨Int.le_refl _, by simp; omega⟩
    | cons x l ih =>
      intro n h hn
      have h1 := h x List.mem_cons_self
      have h2 := ih (n - 1) (fun y hy => h y (List.mem_cons_of_mem _ hy)) (by rw [List.length_cons] at hn; omega)
      rw [List.length_cons] at hn
      rw [List.map_cons, List.sum_cons]
      omega
  have a := sum (siteC w) ch 1000 (fun s hs => by
    have := g.si _ (List.mem_of_getElem? (site_at g (hc s hs)))
    unfold siteC
    omega) hl
  have b := sum (feeC w) (leftS w ch) 1000 (fun c hc' => by
    obtain ⟨cu, h1, h2⟩ := left_mem g hc'
    have := g.cu cu (List.mem_of_getElem? h1)
    omega) (by
    have := g.nc
    refine Nat.le_trans (List.length_filter_le _ _) ?_
    rw [List.length_range]
    omega)
  unfold costS
  omega
variable {k v : Nat} (hf : Fit (woodD w) k v) {ch : List Nat} (ho : areOpen (.tup (ch.map natD)) w.ss.length = true) (hc : ∀ s ∈ ch, s < w.ss.length) (hl : ch.length ≤ 1000)
include hf ho hc hl
end
section
variable {w : Wd} (g : GoodW w)
include g
variable {k v : Nat} (hf : Fit (woodD w) k v) {ch : List Nat} (ho : areOpen (.tup (ch.map natD)) w.ss.length = true) (hc : ∀ s ∈ ch, s < w.ss.length) (hl : ch.length ≤ 1000)
theorem thin_left : (ch.all fun s => decide ((leftS w ch).length < (leftS w (ch.filter fun o => !decide (o = s))).length)) = thinS w ch := by
  unfold thinS
  rw [Bool.eq_iff_iff, List.all_eq_true, List.all_eq_true]
  have e : ∀ s, (decide ((leftS w ch).length < (leftS w (ch.filter fun o => !decide (o = s))).length) = true) ↔ (decide ((reachS w (ch.filter fun o => !decide (o = s))).length < (reachS w ch).length) = true) := fun s => by
    have h1 := reach_left w ch
    have h2 := reach_left w (ch.filter fun o => !decide (o = s))
    rw [decide_eq_true_eq, decide_eq_true_eq]
    omega
  exact ⟨fun h s hs => (e s).mp (h s hs), fun h s hs => (e s).mpr (h s hs)⟩
include hf ho hc hl
end
def getR (ls : List (Int × Int)) (c : Nat) : Int × Int := ls.getD c (0, 1)
def earnL (w : Wd) (ls : List (Int × Int)) (s : Nat) : List (Int × Int) := (reachL w (siteP w s)).map (getR ls)
def earnS (w : Wd) (ls : List (Int × Int)) (s : Nat) : Int × Int := sumR (earnL w ls s)
def okC (p : Cu × (Int × Int)) : Bool := !(decide (p.2.1 < 0) || lessR ((p.1.fe : Int), 1) p.2)
def okSi (w : Wd) (ls : List (Int × Int)) (s : Nat) : Bool := !lessR (siteC w s, 1) (earnS w ls s)
def soundS (w : Wd) (ls : List (Int × Int)) : Bool := (w.cs.zip ls).all okC && (List.range w.ss.length).all (okSi w ls)
theorem pr_back {d : D} {n : Nat} (h : arePr d n = true) (hn : d.num = true) : ∃ ls : List (Int × Int), d = .tup (ls.map rtD) ∧ ls.length = n ∧ SmallR ls := by
  cases d with
  | tup xs =>
    rw [arePr, Bool.and_eq_true, decide_eq_true_eq, List.all_eq_true] at h
    have hn : D.numL xs = true := by simpa [D.num] using hn
    refine ⟨xs.map rtOf, ?_, by rw [List.length_map]; exact h.1, fun b hb => ?_⟩
    · congr 1
      rw [List.map_map]
      symm
      have : xs.map (rtD ∘ rtOf) = xs.map id := List.map_congr_left fun x hx => (isRt_of (h.2 x hx)).1.symm
      rw [this, List.map_id]
    · obtain ⟨x, hx, rfl⟩ := List.mem_map.mp hb
      obtain ⟨e, h1⟩ := isRt_of (h.2 x hx)
      have := numL_mem hn x hx
      rw [e] at this
      obtain ⟨h2, h3⟩ := num_rt (n := (rtOf x).1) (u := (rtOf x).2) this
      exact ⟨h1, h3, h2⟩
  | _ => simp [arePr] at h
theorem pr_int {i : Int} (h : -(10 ^ 20) < i ∧ i < 10 ^ 20) : PR (i, 1) := by
  have e : (10 : Nat) ^ 20 < 2 ^ 1000 := by decide +kernel
  refine ⟨by show (0 : Int) < 1; decide, ?_, ?_⟩
  · show i.natAbs < _
    omega
  · show (1 : Int).natAbs < _
    have : (1 : Int).natAbs = 1 := rfl
    omega
section
variable {w : Wd} (g : GoodW w) {ls : List (Int × Int)} (hs : SmallR ls) (hn : ls.length = w.cs.length)
include g
theorem site_fee {s : Nat} (h : s < w.ss.length) : -(10 ^ 20) < siteC w s ∧ siteC w s < 10 ^ 20 := by
  have := g.si _ (List.mem_of_getElem? (site_at g h))
  unfold siteC
  omega
include hs hn
theorem get_at {s c : Nat} (h : c ∈ reachL w (siteP w s)) : ls[c]? = some (getR ls c) := by
  have := List.mem_range.mp (List.mem_filter.mp h).1
  unfold getR
  rw [List.getD_eq_getElem?_getD, List.getElem?_eq_getElem (by omega)]
  rfl
theorem earn_small (s : Nat) : SmallR (earnL w ls s) ∧ (earnL w ls s).length ≤ 12 := by
  constructor
  · intro b hb
    obtain ⟨c, hc, rfl⟩ := List.mem_map.mp hb
    exact hs _ (List.mem_of_getElem? (get_at g hs hn hc))
  · unfold earnL
    rw [List.length_map]
    have := g.nc
    refine Nat.le_trans (List.length_filter_le _ _) ?_
    rw [List.length_range]
    exact this
theorem earn_rb (s : Nat) : RB 12 (earnS w ls s) := by
  obtain ⟨h1, h2⟩ := earn_small g hs hn s
  exact (RB.sum RB.zero h1).wide (by omega)
theorem zip_cu : zipD (w.cs.map cuD) (ls.map rtD) = (w.cs.zip ls).map fun p => D.tup [cuD p.1, rtD p.2] := by
  unfold zipD
  rw [List.zip_map, List.map_map]
  rfl
theorem cu_pr {p : Cu × (Int × Int)} (h : p ∈ w.cs.zip ls) : PR ((p.1.fe : Int), 1) ∧ PR p.2 := by
  obtain ⟨h1, h2⟩ := List.of_mem_zip (show (p.1, p.2) ∈ w.cs.zip ls from h)
  have := g.cu p.1 h1
  exact ⟨pr_int (by omega), hs.pr h2⟩
end
mutual
/-- its ints are quite small -/
def tiny : D → Bool
  | .int i => decide (-1000 ≤ i) && decide (i ≤ 1000)
  | .tup xs => tinyL xs
  | .lst xs => tinyL xs
  | _ => true
def tinyL : List D → Bool
  | [] => true
  | x :: xs => tiny x && tinyL xs
end
theorem tinyL_mem : ∀ {xs : List D}, tinyL xs = true → ∀ x ∈ xs, tiny x = true
  | y :: ys, h, x, hx => by
    rw [tinyL, Bool.and_eq_true] at h
    rcases List.mem_cons.mp hx with rfl | hx
    · exact h.1
    · exact tinyL_mem h.2 x hx
theorem tinyL_of : ∀ {xs : List D}, (∀ x ∈ xs, tiny x = true) → tinyL xs = true
  | [], _ => rfl
  | x :: xs, h => by
    rw [tinyL, Bool.and_eq_true]
    exact ⟨h x List.mem_cons_self, tinyL_of fun y hy => h y (List.mem_cons_of_mem _ hy)⟩
/-- sums of ratios of three figures -/
structure RG (k : Nat) (r : Int × Int) : Prop where
  pos : 0 < r.2
  den : r.2.natAbs ≤ 1000 ^ k
  num : r.1.natAbs ≤ k * 1000 ^ k
theorem RG.zero : RG 0 (0, 1) := ⟨by decide, by decide, by decide⟩
def TinyR (l : List (Int × Int)) : Prop := ∀ b ∈ l, 0 < b.2 ∧ b.2.natAbs ≤ 1000 ∧ b.1.natAbs ≤ 1000
theorem TinyR.small {l : List (Int × Int)} (h : TinyR l) : SmallR l := fun b hb => by
  obtain ⟨h1, h2, h3⟩ := h b hb
  exact ⟨h1, by omega, by omega⟩
theorem RG.plus {k : Nat} {a b : Int × Int} (h : RG k a) (h2 : 0 < b.2) (h3 : b.2.natAbs ≤ 1000) (h4 : b.1.natAbs ≤ 1000) : RG (k + 1) (plusR a b) := by
  have hp : 0 < a.2 * b.2 := Int.mul_pos h.pos h2
  obtain ⟨q1, q2, q3⟩ := red_bound (n := a.1 * b.2 + b.1 * a.2) hp
  have e2 : (a.2 * b.2).natAbs ≤ 1000 ^ (k + 1) := by
    rw [Int.natAbs_mul, Nat.pow_succ]
    exact Nat.mul_le_mul h.den h3
  have e1 : (a.1 * b.2 + b.1 * a.2).natAbs ≤ (k + 1) * 1000 ^ (k + 1) := by
    have a1 : (a.1 * b.2).natAbs ≤ k * 1000 ^ k * 1000 := by
      rw [Int.natAbs_mul]
      exact Nat.mul_le_mul h.num h3
    have a2 : (b.1 * a.2).natAbs ≤ 1000 * 1000 ^ k := by
      rw [Int.natAbs_mul]
      exact Nat.mul_le_mul h4 h.den
    have a3 := Int.natAbs_add_le (a.1 * b.2) (b.1 * a.2)
    have a4 : (k + 1) * 1000 ^ (k + 1) = k * 1000 ^ k * 1000 + 1000 * 1000 ^ k := by
      rw [Nat.pow_succ, Nat.add_mul, Nat.one_mul, Nat.mul_assoc, Nat.mul_comm (1000 ^ k) 1000]
    omega
  refine ⟨q1, ?_, ?_⟩
  · show (redR (a.1 * b.2 + b.1 * a.2) (a.2 * b.2)).2.natAbs ≤ _
    omega
  · show (redR (a.1 * b.2 + b.1 * a.2) (a.2 * b.2)).1.natAbs ≤ _
    omega
theorem RG.wide {k j : Nat} {r : Int × Int} (h : RG k r) (hk : k ≤ j) : RG j r := by
  have e : 1000 ^ k ≤ 1000 ^ j := Nat.pow_le_pow_right (by decide) hk
  exact ⟨h.pos, Nat.le_trans h.den e, Nat.le_trans h.num (Nat.mul_le_mul hk e)⟩
theorem RG.sum : ∀ {l : List (Int × Int)} {k : Nat} {a : Int × Int}, RG k a → TinyR l → RG (k + l.length) (l.foldl plusR a)
  | [], _, _, h, _ => h
  | b :: l, k, a, h, hb => by
    obtain ⟨b1, b2, b3⟩ := hb b List.mem_cons_self
    have := RG.sum (h.plus b1 b2 b3) fun c hc => hb c (List.mem_cons_of_mem _ hc)
    rw [List.length_cons, show k + (l.length + 1) = k + 1 + l.length by omega]
    exact this
theorem RG.fit {r : Int × Int} (h : RG 6 r) : Fit (rtD r) 1 51 := by
  have h1 := h.den
  have h2 := h.num
  have e : (1000 : Nat) ^ 6 = 1000000000000000000 := by decide
  rw [e] at h1 h2
  exact ((FitL.cons (Fit.int (i := r.1) (by omega)) (FitL.cons (Fit.int (i := r.2) (by omega)) FitL.nil)).tup).wide (by omega) (by omega)
theorem sum_fit {l : List (Int × Int)} (h : TinyR l) (hl : l.length ≤ 6) : Fit (rtD (sumR l)) 1 51 := RG.fit ((RG.sum RG.zero h).wide (by omega))
theorem tiny_back {ls : List (Int × Int)} (h : tiny (.tup (ls.map rtD)) = true) (hp : SmallR ls) : TinyR ls := fun b hb => by
  have h : tinyL (ls.map rtD) = true := by simpa [tiny] using h
  have := tinyL_mem h (rtD b) (List.mem_map.mpr ⟨b, hb, rfl⟩)
  simp only [rtD, tiny, tinyL, Bool.and_true, Bool.and_eq_true, decide_eq_true_eq] at this
  have h1 := (hp b hb).1
  exact ⟨h1, by omega, by omega⟩
def areSound (w : Wd) (d : D) : Bool := arePr d w.cs.length && (match d with
  | .tup xs => soundS w (xs.map rtOf)
  | _ => false)
theorem rt_map (ls : List (Int × Int)) : (ls.map rtD).map rtOf = ls := by
  rw [List.map_map]
  have : ls.map (rtOf ∘ rtD) = ls.map id := List.map_congr_left fun x _ => rfl
  rw [this, List.map_id]
section
variable {w : Wd} (g : GoodW w)
include g
end
section
variable {w : Wd} (g : GoodW w)
include g
variable {k v : Nat} (hf : Fit (woodD w) k v)
include hf
variable {ls : List (Int × Int)} (ht : TinyR ls) (hn : ls.length = w.cs.length) (hnum : (D.tup (ls.map rtD)).num = true) (hp : arePr (.tup (ls.map rtD)) w.cs.length = true) (h6 : ls.length ≤ 6)
include ht hn hnum hp h6
omit hf in
end
mutual
/-- ints of two figures, and tuples of these -/
def mini : D → Bool
  | .int i => decide (-100 ≤ i) && decide (i ≤ 100)
  | .tup xs => miniL xs
  | _ => false
def miniL : List D → Bool
  | [] => true
  | x :: xs => mini x && miniL xs
end
theorem miniL_mem : ∀ {xs : List D}, miniL xs = true → ∀ x ∈ xs, mini x = true
  | y :: ys, h, x, hx => by
    rw [miniL, Bool.and_eq_true] at h
    rcases List.mem_cons.mp hx with rfl | hx
    · exact h.1
    · exact miniL_mem h.2 x hx
theorem miniL_of : ∀ {xs : List D}, (∀ x ∈ xs, mini x = true) → miniL xs = true
  | [], _ => rfl
  | x :: xs, h => by
    rw [miniL, Bool.and_eq_true]
    exact ⟨h x List.mem_cons_self, miniL_of fun y hy => h y (List.mem_cons_of_mem _ hy)⟩
mutual
theorem mini_tiny : ∀ d : D, mini d = true → tiny d = true
  | .int i, h => by
    simp only [mini, tiny, Bool.and_eq_true, decide_eq_true_eq] at h ⊢
    omega
  | .tup xs, h => by
    simp only [mini] at h
    simp only [tiny]
    exact miniL_tiny xs h
  | .non, h => by simp [mini] at h
  | .bl _, h => by simp [mini] at h
  | .str _, h => by simp [mini] at h
  | .lst _, h => by simp [mini] at h
  | .emp, h => by simp [mini] at h
theorem miniL_tiny : ∀ xs : List D, miniL xs = true → tinyL xs = true
  | [], _ => rfl
  | x :: xs, h => by
    rw [miniL, Bool.and_eq_true] at h
    rw [tinyL, Bool.and_eq_true]
    exact ⟨mini_tiny x h.1, miniL_tiny xs h.2⟩
end
theorem tiny_tup {xs : List D} (h : ∀ x ∈ xs, tiny x = true) : tiny (.tup xs) = true := by
  simp only [tiny]
  exact tinyL_of h
theorem tiny_lst {xs : List D} (h : ∀ x ∈ xs, tiny x = true) : tiny (.lst xs) = true := by
  simp only [tiny]
  exact tinyL_of h
/-- what is bent is like this -/
structure Bt (d d' : D) : Prop where
  fit : FitE d' (d.deep + 1) (2 * d.wt + 150)
  ti : tiny d' = true
theorem Bt.of {d d' : D} {k v : Nat} (h : Fit d' k v) (ht : tiny d' = true) (hk : k ≤ d.deep + 1) (hv : v ≤ 2 * d.wt + 150) : Bt d d' := ⟨h.e.wide hk hv, ht⟩
theorem fz : Fit (.str ("0" : Str)) 0 100 := ⟨by simp [D.num], by simp [D.deep], by decide +kernel, by decide +kernel⟩
theorem fo : Fit (.str ("open" : Str)) 0 100 := ⟨by simp [D.num], by simp [D.deep], by decide +kernel, by decide +kernel⟩
theorem tiny_int {i : Int} (h : -1000 ≤ i ∧ i ≤ 1000) : tiny (.int i) = true := by
  simp only [tiny, Bool.and_eq_true, decide_eq_true_eq]
  exact h
theorem two {i j : Int} (h1 : -1000 ≤ i ∧ i ≤ 1000) (h2 : -1000 ≤ j ∧ j ≤ 1000) : tiny (.tup [.int i, .int j]) = true ∧ tiny (.lst [.int i, .int j]) = true := by
  simp only [tiny, tinyL, Bool.and_true, Bool.and_eq_true, decide_eq_true_eq]
  exact ⟨⟨h1, h2⟩, h1, h2⟩
theorem wt_line {d : D} (h : d.wt ≤ 100000) : ∀ xs, d = .tup xs → xs.length ≤ line := fun xs e => by
  subst e
  have := wtL_len xs
  simp only [D.wt] at h
  rw [line]
  omega
theorem pair_rising : ∀ {l : List Int}, l.Pairwise (· < ·) → risingI l = true
  | [], _ => rfl
  | [x], _ => rfl
  | x :: y :: r, h => by
    obtain ⟨h1, h2⟩ := List.pairwise_cons.mp h
    have ih := pair_rising h2
    have : (decide (x < y) && risingI (y :: r)) = true := by
      rw [ih, Bool.and_true, decide_eq_true_eq]
      exact h1 y List.mem_cons_self
    simpa [risingI] using this
theorem good_of {w : Wd} (g : PreW w) (h : (w.ss.map (·.1)).Pairwise (· < ·)) : GoodW w := by
  refine ⟨?_, g.t, g.nc, g.ns, g.cu, g.si⟩
  have m : manyOf (treeD w.ts) = (w.ts.length : Int) + 1 := by
    show (((w.ts.map tieD).length : Nat) : Int) + 1 = _
    rw [List.length_map]
  have a : areCusts (.tup (w.cs.map cuD)) ((w.ts.length : Int) + 1) = true := by
    simp only [areCusts, Bool.and_eq_true, decide_eq_true_eq, List.all_eq_true, List.length_map]
    refine ⟨g.nc, fun x hx => ?_⟩
    obtain ⟨c, hc, rfl⟩ := List.mem_map.mp hx
    have := g.cu c hc
    simp only [cuD, isCust, natD, within, Bool.and_eq_true, decide_eq_true_eq]
    omega
  have b : areSites (.tup (w.ss.map tieD)) ((w.ts.length : Int) + 1) = true := by
    simp only [areSites, Bool.and_eq_true, decide_eq_true_eq, List.all_eq_true, List.length_map]
    refine ⟨⟨g.ns, fun x hx => ?_⟩, pair_rising ?_⟩
    · obtain ⟨c, hc, rfl⟩ := List.mem_map.mp hx
      have := g.si c hc
      simp only [tieD, isSite, within, Bool.and_eq_true, decide_eq_true_eq]
      omega
    · rw [List.map_map, List.pairwise_map]
      rw [List.pairwise_map] at h
      refine h.imp fun h => ?_
      simp only [Function.comp, tieD, site0]
      omega
  show (decide (("wood" : Str) = ("wood" : Str)) && isTree (treeD w.ts) && areCusts (.tup (w.cs.map cuD)) (manyOf (treeD w.ts)) && areSites (.tup (w.ss.map tieD)) (manyOf (treeD w.ts))) = true
  rw [isTree_good g.t, m, a, b]
  rfl
/-- a value to be judged -/
structure VOK (d : D) : Prop where
  fit : FitE d 5 12000
  ti : tiny d = true
theorem VOK.len {d : D} (h : VOK d) : ∀ xs, d = .tup xs → xs.length ≤ line := wt_line (Nat.le_trans h.fit.wt (by omega))
/-- drawn anew so many times -/
theorem rep_ (Φ : Phi) (N : Nat) (hN : N ≤ 20) (e : E) (W V2 A B : D) (hrun : ∀ (p : List D) (i : Nat), Pot p → ∃ d p', evE Φ e [.own p, .dat W, .dat V2, .none, .dat A, .dat B, .none, .none, .none, .none, .dat (natD i), .none] = .ok d [.own p', .dat W, .dat V2, .none, .dat A, .dat B, .none, .none, .none, .none, .dat (natD i), .none] ∧ Pot p' ∧ VOK d) {p : List D} (hp : Pot p) :
    ∃ ds p', evL Φ (.comp [10] (.nm 10) (.rng (.cst (.int (N : Nat)))) none e) [.own p, .dat W, .dat V2, .none, .dat A, .dat B, .none, .none, .none, .none, .none, .none] = .ok ds [.own p', .dat W, .dat V2, .none, .dat A, .dat B, .none, .none, .none, .none, .none, .none] ∧ Pot p' ∧ ds.length = N ∧ ∀ d ∈ ds, VOK d := by
  have e0 : evE Φ (.cst (.int (N : Nat))) [.own p, .dat W, .dat V2, .none, .dat A, .dat B, .none, .none, .none, .none, .none, .none] = .ok (.int (N : Int)) [.own p, .dat W, .dat V2, .none, .dat A, .dat B, .none, .none, .none, .none, .none, .none] := by simp
  have e1 := rng_go e0 (rng_okn (n := N) (by omega))
  rw [evL_comp, e1, rng_n]
  simp only [bind_ok_]
  obtain ⟨ys, ρ', h1, p', rfl, hp', hl, hf⟩ := compL_sat (g := evT Φ (.nm 10)) (c := evIf Φ none) (e := evE Φ e) (ow := [10])
    (fun k acc ρ => ∃ p', ρ = [.own p', .dat W, .dat V2, .none, .dat A, .dat B, .none, .none, .none, .none, .none, .none] ∧ Pot p' ∧ acc.length = k ∧ ∀ d ∈ acc, VOK d) ((List.range N).map natD) 0 [] [.own p, .dat W, .dat V2, .none, .dat A, .dat B, .none, .none, .none, .none, .none, .none]
    (by simp [line]; omega) rfl ⟨p, rfl, hp, rfl, fun d h => nomatch h⟩ fun i x acc ρ hx ⟨p1, hρ, hp1, hl, hf⟩ => by
      subst hρ
      obtain ⟨n, rfl, hn⟩ := mem_nats (List.mem_of_getElem? hx)
      obtain ⟨d, p2, ed, hp2, fd⟩ := hrun p1 n hp1
      simp only [natD] at ed
      simp [turnC, ed, noOwn, wipeE]
      refine ⟨hp2, by omega, fun y hy => ?_⟩
      rcases hy with hy | rfl
      · exact hf y hy
      · exact fd
  rw [h1]
  simp only [bind_ok_, noExc_ok_]
  exact ⟨ys, p', rfl, hp', by simpa using hl, hf⟩
theorem VOK.of {d : D} {k v : Nat} (h : Fit d k v) (ht : tiny d = true) (hk : k ≤ 5) (hv : v ≤ 12000) : VOK d := ⟨h.e.wide hk hv, ht⟩
theorem VOK.tup {xs : List D} (h : ∀ x ∈ xs, Fit x 2 200 ∧ tiny x = true) (hn : xs.length ≤ 40) : VOK (.tup xs) :=
  .of ((FitL.of (fun x hx => (h x hx).1) hn).tup) (tiny_tup fun x hx => (h x hx).2) (by omega) (by omega)
theorem VOK.lst {xs : List D} (h : ∀ x ∈ xs, Fit x 2 200 ∧ tiny x = true) (hn : xs.length ≤ 40) : VOK (.lst xs) :=
  .of ((FitL.of (fun x hx => (h x hx).1) hn).lst) (tiny_lst fun x hx => (h x hx).2) (by omega) (by omega)
theorem it_int {i : Int} (h : -1000 ≤ i ∧ i ≤ 1000) : Fit (.int i) 2 200 ∧ tiny (.int i) = true := ⟨(Fit.int (by omega)).wide (by omega) (by omega), tiny_int h⟩
theorem it_pair {i j : Int} (h : -1000 ≤ i ∧ i ≤ 1000) (h2 : -1000 ≤ j ∧ j ≤ 1000) : Fit (.tup [.int i, .int j]) 2 200 ∧ tiny (.tup [.int i, .int j]) = true :=
  ⟨((FitL.cons (Fit.int (by omega)) (FitL.cons (Fit.int (by omega)) FitL.nil)).tup).wide (by omega) (by omega), (two h h2).1⟩
section
variable {w : Wd} {ch : List Nat} {ls : List (Int × Int)} (hc : ∀ s ∈ ch, s < 10) (hcl : ch.length ≤ 10) (hl : ls.length = w.cs.length) (hw : w.cs.length ≤ 6) (hb : ∀ b ∈ ls, 0 < b.2 ∧ b.2 ≤ 9 ∧ b.1.natAbs ≤ 15) (hns : w.ss.length ≤ 10) (hfe : ∀ c ∈ w.cs, c.fe ≤ 14)
include hc hcl hl hw hb
omit hl hw hb hcl in
theorem ch_it : ∀ x ∈ ch.map natD, Fit x 2 200 ∧ tiny x = true := fun x hx => by
  obtain ⟨s, hs, rfl⟩ := List.mem_map.mp hx
  have := hc s hs
  exact it_int (by omega)
omit hc hcl hl hw in
theorem ls_it : ∀ x ∈ ls.map rtD, Fit x 2 200 ∧ tiny x = true := fun x hx => by
  obtain ⟨r, hr, rfl⟩ := List.mem_map.mp hx
  have := hb r hr
  exact it_pair (by omega) (by omega)
omit hl hw hb in
theorem ch_mini : mini (.tup (ch.map natD)) = true ∧ Fit (.tup (ch.map natD)) 1 300 := by
  constructor
  · simp only [mini]
    refine miniL_of fun x hx => ?_
    obtain ⟨s, hs, rfl⟩ := List.mem_map.mp hx
    have := hc s hs
    simp only [mini, Bool.and_eq_true, decide_eq_true_eq]
    omega
  · have a : ∀ x ∈ ch.map natD, Fit x 0 22 := fun x hx => by
      obtain ⟨s, hs, rfl⟩ := List.mem_map.mp hx
      have := hc s hs
      exact Fit.int (by omega)
    exact ((FitL.of a (n := 10) (by rw [List.length_map]; exact hcl)).tup).wide (by omega) (by omega)
omit hc hcl in
theorem ls_mini : mini (.tup (ls.map rtD)) = true ∧ Fit (.tup (ls.map rtD)) 2 500 := by
  constructor
  · simp only [mini]
    refine miniL_of fun x hx => ?_
    obtain ⟨r, hr, rfl⟩ := List.mem_map.mp hx
    have := hb r hr
    simp only [rtD, mini, miniL, Bool.and_true, Bool.and_eq_true, decide_eq_true_eq]
    omega
  · have a : ∀ x ∈ ls.map rtD, Fit x 1 60 := fun x hx => by
      obtain ⟨r, hr, rfl⟩ := List.mem_map.mp hx
      have := hb r hr
      exact ((FitL.cons (Fit.int (i := r.1) (by omega)) (FitL.cons (Fit.int (i := r.2) (by omega)) FitL.nil)).tup).wide (by omega) (by omega)
    exact ((FitL.of a (n := 6) (by rw [List.length_map]; omega)).tup).wide (by omega) (by omega)
include hns hfe
end
end Kp
set_option Elab.async false
set_option linter.all false
set_option maxRecDepth 100000
set_option maxHeartbeats 1000000
/-! Jg: prices raised row by row, columns opened from the last one back: no gap where rows that share a column are nested behind it. Plain Lean. -/
namespace Gd
/-- rows: columns, bound -/
abbrev Rw := Nat → List Nat × Nat
def upF (L : Nat → Nat) (c v : Nat) : Nat → Nat := fun x => if x = c then v else L x
def minP (L : Nat → Nat) (cols : List Nat) (bd : Nat) : Nat := cols.foldl (fun m c => min m (L c)) bd
def lessL (L : Nat → Nat) (cols : List Nat) (p : Nat) : Nat → Nat := fun x => if x ∈ cols then L x - p else L x
def stepR (rows : Rw) (st : (Nat → Nat) × (Nat → Nat)) (r : Nat) : (Nat → Nat) × (Nat → Nat) :=
  (lessL st.1 (rows r).1 (minP st.1 (rows r).1 (rows r).2), upF st.2 r (minP st.1 (rows r).1 (rows r).2))
def runR (rows : Rw) (costs : Nat → Nat) (ord : List Nat) : (Nat → Nat) × (Nat → Nat) := ord.foldl (stepR rows) (costs, fun _ => 0)
theorem minP_le : ∀ (cols : List Nat) (L : Nat → Nat) (bd : Nat), minP L cols bd ≤ bd ∧ (∀ c ∈ cols, minP L cols bd ≤ L c) ∧ (minP L cols bd = bd ∨ ∃ c ∈ cols, minP L cols bd = L c)
  | [], L, bd => ⟨Nat.le_refl _, fun c h => (nomatch h), .inl rfl⟩
  | c :: cols, L, bd => by
    obtain ⟨h1, h2, h3⟩ := minP_le cols L (min bd (L c))
    have e : minP L (c :: cols) bd = minP L cols (min bd (L c)) := rfl
    rw [e]
    refine ⟨by omega, fun x hx => ?_, ?_⟩
    · rcases List.mem_cons.mp hx with rfl | hx
      · omega
      · exact h2 x hx
    · rcases h3 with h3 | ⟨x, hx, h3⟩
      · by_cases q : bd ≤ L c
        · exact .inl (by omega)
        · exact .inr ⟨c, List.mem_cons_self .., by omega⟩
      · exact .inr ⟨x, List.mem_cons_of_mem _ hx, h3⟩
def held (rows : Rw) (c : Nat) : Nat → Bool := fun r => decide (c ∈ (rows r).1)
structure InvR (rows : Rw) (costs : Nat → Nat) (pre : List Nat) (L P : Nat → Nat) : Prop where
  eq : ∀ c, L c + ((pre.filter (held rows c)).map P).sum = costs c
  bd : ∀ r, P r ≤ (rows r).2
  z : ∀ r, r ∉ pre → P r = 0
  tight : ∀ a r b, pre = a ++ r :: b → P r = (rows r).2 ∨ ∃ c ∈ (rows r).1, L c = 0 ∧ ∀ i ∈ b, c ∈ (rows i).1 → P i = 0
theorem map_up {P : Nat → Nat} {r v : Nat} : ∀ {l : List Nat}, r ∉ l → l.map (upF P r v) = l.map P
  | [], _ => rfl
  | x :: l, h => by
    have h1 : x ≠ r := fun q => h (by rw [q]; exact List.mem_cons_self ..)
    rw [List.map_cons, List.map_cons, map_up fun q => h (List.mem_cons_of_mem _ q)]
    unfold upF
    rw [if_neg h1]
theorem InvR.step {rows : Rw} {costs : Nat → Nat} {pre : List Nat} {L P : Nat → Nat} (I : InvR rows costs pre L P) {r : Nat} (hr : r ∉ pre) : InvR rows costs (pre ++ [r]) (stepR rows (L, P) r).1 (stepR rows (L, P) r).2 := by
  obtain ⟨m1, m2, m3⟩ := minP_le (rows r).1 L (rows r).2
  show InvR rows costs (pre ++ [r]) (lessL L (rows r).1 (minP L (rows r).1 (rows r).2)) (upF P r (minP L (rows r).1 (rows r).2))
  generalize hp : minP L (rows r).1 (rows r).2 = p at m1 m2 m3
  have le : ∀ c, lessL L (rows r).1 p c ≤ L c := fun c => by
    unfold lessL
    split <;> omega
  have same : ∀ i, i ≠ r → upF P r p i = P i := fun i h => by
    unfold upF
    rw [if_neg h]
  have me : upF P r p r = p := by
    unfold upF
    rw [if_pos rfl]
  refine ⟨fun c => ?_, fun i => ?_, fun i hi => ?_, fun a i b hab => ?_⟩
  · have h0 := I.eq c
    rw [List.filter_append, List.map_append, List.sum_append, map_up fun q => hr (List.mem_filter.mp q).1]
    by_cases hc : c ∈ (rows r).1
    · have e1 : lessL L (rows r).1 p c = L c - p := by
        unfold lessL
        rw [if_pos hc]
      have e2 : ([r].filter (held rows c)) = [r] := by simp [held, hc]
      have := m2 c hc
      rw [e1, e2]
      simp only [List.map_cons, List.map_nil, List.sum_cons, List.sum_nil, me]
      omega
    · have e1 : lessL L (rows r).1 p c = L c := by
        unfold lessL
        rw [if_neg hc]
      have e2 : ([r].filter (held rows c)) = [] := by simp [held, hc]
      rw [e1, e2]
      simpa using h0
  · by_cases h : i = r
    · subst h
      rw [me]
      exact m1
    · rw [same i h]
      exact I.bd i
  · have h : i ≠ r := fun q => hi (by rw [q]; simp)
    rw [same i h]
    exact I.z i fun q => hi (List.mem_append_left _ q)
  · rcases List.eq_nil_or_concat b with rfl | ⟨b', x, rfl⟩
    · have hi : a = pre ∧ i = r := by
        have := List.append_inj' hab (by simp)
        exact ⟨this.1.symm, by simpa using this.2.symm⟩
      obtain ⟨_, rfl⟩ := hi
      rw [me]
      rcases m3 with m3 | ⟨c, hc, m3⟩
      · exact .inl m3
      · refine .inr ⟨c, hc, ?_, fun _ h => (nomatch h)⟩
        unfold lessL
        rw [if_pos hc]
        omega
    · have hi : pre = a ++ i :: b' ∧ r = x := by
        have e : a ++ i :: (b'.concat x) = (a ++ i :: b') ++ [x] := by simp
        rw [e] at hab
        have := List.append_inj' hab (by simp)
        exact ⟨this.1, by simpa using this.2⟩
      obtain ⟨h1, rfl⟩ := hi
      have hir : i ≠ r := fun q => hr (by rw [h1, ← q]; simp)
      rw [same i hir]
      rcases I.tight a i b' h1 with h | ⟨c, hc, h2, h3⟩
      · exact .inl h
      · refine .inr ⟨c, hc, by have := le c; omega, fun j hj hcj => ?_⟩
        rw [List.concat_eq_append] at hj
        rcases List.mem_append.mp hj with hj | hj
        · have hjr : j ≠ r := fun q => hr (by rw [h1, ← q]; simp [hj])
          rw [same j hjr]
          exact h3 j hj hcj
        · have : j = r := by simpa using hj
          subst this
          rw [me]
          have := m2 c hcj
          omega
theorem runR_inv {rows : Rw} {costs : Nat → Nat} : ∀ {ord pre : List Nat} {L P : Nat → Nat}, InvR rows costs pre L P → (pre ++ ord).Nodup → InvR rows costs (pre ++ ord) (ord.foldl (stepR rows) (L, P)).1 (ord.foldl (stepR rows) (L, P)).2
  | [], pre, L, P, I, _ => by rw [List.append_nil]; exact I
  | r :: ord, pre, L, P, I, hn => by
    have hr : r ∉ pre := fun q => by
      have := (List.nodup_append.mp hn).2.2 r q r (List.mem_cons_self ..)
      exact this rfl
    have e : pre ++ r :: ord = (pre ++ [r]) ++ ord := by simp
    rw [e] at hn ⊢
    exact runR_inv (I.step hr) hn
theorem runR_ok {rows : Rw} {costs : Nat → Nat} {ord : List Nat} (hn : ord.Nodup) : InvR rows costs ord (runR rows costs ord).1 (runR rows costs ord).2 := by
  have := runR_inv (rows := rows) (costs := costs) (ord := ord) (pre := []) (L := costs) (P := fun _ => 0) ⟨fun c => by simp, fun r => Nat.zero_le _, fun r _ => rfl, fun a r b h => by simp at h⟩ hn
  exact this

/-! ### columns opened -/
def someL (rows : Rw) (P : Nat → Nat) (n c : Nat) : List Nat := (List.range n).filter fun r => decide (0 < P r) && decide (c ∈ (rows r).1)
def stepO (rows : Rw) (L P : Nat → Nat) (n : Nat) (st : List Nat × (Nat → Bool)) (c : Nat) : List Nat × (Nat → Bool) :=
  if L c = 0 ∧ (someL rows P n c).any st.2 = false then (st.1 ++ [c], fun r => st.2 r || decide (r ∈ someL rows P n c)) else st
def runO (rows : Rw) (L P : Nat → Nat) (n m : Nat) : List Nat × (Nat → Bool) := (List.range m).reverse.foldl (stepO rows L P n) ([], fun _ => false)
structure InvO (rows : Rw) (L P : Nat → Nat) (n : Nat) (pre found : List Nat) (taken : Nat → Bool) : Prop where
  sub : ∀ c ∈ found, c ∈ pre ∧ L c = 0
  tk : ∀ r, taken r = true ↔ (r < n ∧ 0 < P r ∧ ∃ c ∈ found, c ∈ (rows r).1)
  one : ∀ r, r < n → 0 < P r → (found.filter fun c => decide (c ∈ (rows r).1)).length ≤ 1
  nd : found.Nodup
  all : ∀ c ∈ pre, L c = 0 → c ∈ found ∨ ∃ i, i < n ∧ 0 < P i ∧ c ∈ (rows i).1 ∧ ∃ k ∈ found, c < k ∧ k ∈ (rows i).1
theorem mem_some {rows : Rw} {P : Nat → Nat} {n c r : Nat} : r ∈ someL rows P n c ↔ (r < n ∧ 0 < P r ∧ c ∈ (rows r).1) := by
  unfold someL
  rw [List.mem_filter, List.mem_range, Bool.and_eq_true, decide_eq_true_eq, decide_eq_true_eq]
theorem InvO.step {rows : Rw} {L P : Nat → Nat} {n : Nat} {pre found : List Nat} {taken : Nat → Bool} (I : InvO rows L P n pre found taken) {c : Nat} (hc : ∀ k ∈ pre, c < k) : InvO rows L P n (pre ++ [c]) (stepO rows L P n (found, taken) c).1 (stepO rows L P n (found, taken) c).2 := by
  have nc : c ∉ found := fun q => Nat.lt_irrefl _ (hc c (I.sub c q).1)
  unfold stepO
  split
  · rename_i h
    obtain ⟨h1, h2⟩ := h
    have free : ∀ r, r < n → 0 < P r → c ∈ (rows r).1 → ∀ k ∈ found, k ∉ (rows r).1 := fun r hr hp hcr k hk hkr => by
      have t := (I.tk r).mpr ⟨hr, hp, k, hk, hkr⟩
      have : (someL rows P n c).any taken = true := List.any_eq_true.mpr ⟨r, mem_some.mpr ⟨hr, hp, hcr⟩, t⟩
      simp only at h2
      rw [this] at h2
      cases h2
    refine ⟨fun k hk => ?_, fun r => ?_, fun r hr hp => ?_, ?_, fun k hk hz => ?_⟩
    · rcases List.mem_append.mp hk with hk | hk
      · exact ⟨List.mem_append_left _ (I.sub k hk).1, (I.sub k hk).2⟩
      · have : k = c := by simpa using hk
        subst this
        exact ⟨by simp, h1⟩
    · simp only [Bool.or_eq_true, decide_eq_true_eq, I.tk r, mem_some]
      constructor
      · rintro (⟨a, b, k, hk, hkr⟩ | ⟨a, b, d⟩)
        · exact ⟨a, b, k, List.mem_append_left _ hk, hkr⟩
        · exact ⟨a, b, c, by simp, d⟩
      · rintro ⟨a, b, k, hk, hkr⟩
        rcases List.mem_append.mp hk with hk | hk
        · exact .inl ⟨a, b, k, hk, hkr⟩
        · have : k = c := by simpa using hk
          subst this
          exact .inr ⟨a, b, hkr⟩
    · rw [List.filter_append, List.length_append]
      by_cases hcr : c ∈ (rows r).1
      · have e : found.filter (fun k => decide (k ∈ (rows r).1)) = [] := List.filter_eq_nil_iff.mpr fun k hk => by simpa using free r hr hp hcr k hk
        rw [e]
        have := List.length_filter_le (fun k => decide (k ∈ (rows r).1)) [c]
        simpa using this
      · have e : [c].filter (fun k => decide (k ∈ (rows r).1)) = [] := by simp [hcr]
        rw [e]
        simpa using I.one r hr hp
    · exact List.nodup_append.mpr ⟨I.nd, by simp, fun a ha b hb e => nc (by rw [show b = c by simpa using hb] at e; rw [← e]; exact ha)⟩
    · rcases List.mem_append.mp hk with hk | hk
      · rcases I.all k hk hz with h | ⟨i, a1, a2, a3, j, hj, a4, a5⟩
        · exact .inl (List.mem_append_left _ h)
        · exact .inr ⟨i, a1, a2, a3, j, List.mem_append_left _ hj, a4, a5⟩
      · have : k = c := by simpa using hk
        subst this
        exact .inl (by simp)
  · rename_i h
    refine ⟨fun k hk => ⟨List.mem_append_left _ (I.sub k hk).1, (I.sub k hk).2⟩, I.tk, I.one, I.nd, fun k hk hz => ?_⟩
    rcases List.mem_append.mp hk with hk | hk
    · exact I.all k hk hz
    · have : k = c := by simpa using hk
      subst this
      have h3 : (someL rows P n k).any taken = true := by
        cases q : (someL rows P n k).any taken with
        | true => rfl
        | false => exact (h ⟨hz, q⟩).elim
      obtain ⟨i, hi, ht⟩ := List.any_eq_true.mp h3
      obtain ⟨a1, a2, a3⟩ := mem_some.mp hi
      obtain ⟨_, _, j, hj, hjr⟩ := (I.tk i).mp ht
      exact .inr ⟨i, a1, a2, a3, j, hj, hc j (I.sub j hj).1, hjr⟩
theorem runO_inv {rows : Rw} {L P : Nat → Nat} {n : Nat} : ∀ {l pre found : List Nat} {taken : Nat → Bool}, InvO rows L P n pre found taken → (pre ++ l).Pairwise (fun a b => b < a) → InvO rows L P n (pre ++ l) (l.foldl (stepO rows L P n) (found, taken)).1 (l.foldl (stepO rows L P n) (found, taken)).2
  | [], pre, found, taken, I, _ => by rw [List.append_nil]; exact I
  | c :: l, pre, found, taken, I, hp => by
    have hc : ∀ k ∈ pre, c < k := fun k hk => (List.pairwise_append.mp hp).2.2 k hk c (List.mem_cons_self ..)
    have e : pre ++ c :: l = (pre ++ [c]) ++ l := by simp
    rw [e] at hp ⊢
    have := runO_inv (l := l) (I.step hc) hp
    exact this
theorem runO_ok (rows : Rw) (L P : Nat → Nat) (n m : Nat) : InvO rows L P n (List.range m).reverse (runO rows L P n m).1 (runO rows L P n m).2 := by
  have hp : (List.range m).reverse.Pairwise (fun a b => b < a) := List.pairwise_reverse.mpr List.pairwise_lt_range
  exact runO_inv (pre := []) (found := []) (taken := fun _ => false) ⟨fun c h => (nomatch h), fun r => by simp, fun r _ _ => by simp, List.nodup_nil, fun c h => (nomatch h)⟩ hp

/-! ### no gap -/
theorem greatest {p : Nat → Prop} : ∀ {m : Nat}, (∃ k, k < m ∧ p k) → ∃ k, k < m ∧ p k ∧ ∀ j, k < j → j < m → ¬ p j
  | 0, ⟨k, h, _⟩ => by omega
  | m + 1, ⟨k, h, hp⟩ => by
    by_cases q : p m
    · exact ⟨m, by omega, q, fun j h1 h2 => by omega⟩
    · have hk : k < m := by
        rcases Nat.lt_or_ge k m with z | z
        · exact z
        · have : k = m := by omega
          subst this
          exact (q hp).elim
      obtain ⟨i, h1, h2, h3⟩ := greatest (m := m) ⟨k, hk, hp⟩
      refine ⟨i, by omega, h2, fun j a b => ?_⟩
      by_cases z : j = m
      · rw [z]
        exact q
      · exact h3 j a (by omega)
/-- the last column at which two rows differ decides: who lacks it comes first -/
def Before (rows : Rw) (a b : Nat) : Prop := ∃ k, k ∈ (rows b).1 ∧ k ∉ (rows a).1 ∧ ∀ j, k < j → (j ∈ (rows a).1 ↔ j ∈ (rows b).1)
structure Nest (rows : Rw) (n m : Nat) : Prop where
  lt : ∀ r, r < n → ∀ c ∈ (rows r).1, c < m
  nest : ∀ r i, r < n → i < n → ∀ c, c ∈ (rows r).1 → c ∈ (rows i).1 → (∀ k, c < k → k ∈ (rows i).1 → k ∈ (rows r).1) ∨ ∀ k, c < k → k ∈ (rows r).1 → k ∈ (rows i).1
theorem sum_swap {α β : Type} (f : α → β → Nat) : ∀ (as : List α) (bs : List β), (as.map fun a => (bs.map (f a)).sum).sum = (bs.map fun b => (as.map fun a => f a b).sum).sum
  | [], bs => by
    have : (bs.map fun _ => (0 : Nat)).sum = 0 := by
      induction bs with
      | nil => rfl
      | cons b bs ih => simp [ih]
    simpa using this.symm
  | a :: as, bs => by
    rw [List.map_cons, List.sum_cons, sum_swap f as bs]
    induction bs with
    | nil => rfl
    | cons b bs ih =>
      simp only [List.map_cons, List.sum_cons] at ih ⊢
      omega
theorem sum_filter (f : Nat → Bool) (P : Nat → Nat) : ∀ l : List Nat, ((l.filter f).map P).sum = (l.map fun r => if f r = true then P r else 0).sum
  | [] => rfl
  | x :: l => by
    rw [List.filter_cons]
    cases h : f x with
    | true => simp [h, sum_filter f P l]
    | false => simp [h, sum_filter f P l]
theorem sum_count (f : Nat → Bool) (v : Nat) : ∀ l : List Nat, (l.map fun c => if f c = true then v else 0).sum = (l.filter f).length * v
  | [] => by simp
  | x :: l => by
    rw [List.filter_cons, List.map_cons, List.sum_cons, sum_count f v l]
    cases h : f x with
    | true =>
      simp only [if_true, List.length_cons]
      rw [Nat.add_mul]
      omega
    | false => simp
theorem sum_congr {f g : Nat → Nat} : ∀ {l : List Nat}, (∀ x ∈ l, f x = g x) → (l.map f).sum = (l.map g).sum
  | [], _ => rfl
  | x :: l, h => by
    rw [List.map_cons, List.map_cons, List.sum_cons, List.sum_cons, h x (List.mem_cons_self ..), sum_congr fun y hy => h y (List.mem_cons_of_mem _ hy)]
theorem sum_add (f g : Nat → Nat) : ∀ l : List Nat, (l.map f).sum + (l.map g).sum = (l.map fun x => f x + g x).sum
  | [] => rfl
  | x :: l => by
    have := sum_add f g l
    simp only [List.map_cons, List.sum_cons]
    omega
theorem perm_sum {l r : List Nat} (h : l.Perm r) : l.sum = r.sum := by
  induction h with
  | nil => rfl
  | cons x _ ih => simp [ih]
  | swap x y l =>
    simp only [List.sum_cons]
    omega
  | trans _ _ a b => exact a.trans b
section
variable {rows : Rw} {n m : Nat} {costs : Nat → Nat} {ord : List Nat}
/-- what is raised and opened has no gap -/
theorem no_gap (N : Nest rows n m) (hperm : ord.Perm (List.range n)) (hord : ord.Pairwise fun a b => ¬ Before rows b a) {L P : Nat → Nat} (hR : runR rows costs ord = (L, P)) {found : List Nat} (hO : (runO rows L P n m).1 = found) :
    (∀ r, P r ≤ (rows r).2) ∧ (∀ c, ((List.range n).map fun r => if held rows c r = true then P r else 0).sum ≤ costs c) ∧
    (found.map costs).sum + ((List.range n).map fun r => if (found.any fun c => held rows c r) = true then 0 else (rows r).2).sum = ((List.range n).map P).sum ∧ found.Nodup ∧ (∀ c ∈ found, c < m) := by
  have hnd : ord.Nodup := hperm.nodup_iff.mpr List.nodup_range
  have I : InvR rows costs ord L P := by
    have := runR_ok (rows := rows) (costs := costs) hnd
    rw [hR] at this
    exact this
  have J := runO_ok rows L P n m
  rw [hO] at J
  have eqc : ∀ c, L c + ((List.range n).map fun r => if held rows c r = true then P r else 0).sum = costs c := fun c => by
    have h1 := I.eq c
    have h2 : ((ord.filter (held rows c)).map P).sum = (((List.range n).filter (held rows c)).map P).sum := perm_sum ((hperm.filter _).map _)
    rw [h2, sum_filter] at h1
    exact h1
  have mem_ord : ∀ r, r < n → r ∈ ord := fun r h => hperm.mem_iff.mpr (List.mem_range.mpr h)
  -- who pays less than its bound is held
  have cov : ∀ r, r < n → P r ≠ (rows r).2 → ∃ k ∈ found, k ∈ (rows r).1 := fun r hr hne => by
    obtain ⟨a, b, hab⟩ := List.append_of_mem (mem_ord r hr)
    rcases I.tight a r b hab with h | ⟨c, hc, hz, hb⟩
    · exact (hne h).elim
    · have hcm := N.lt r hr c hc
      rcases J.all c (by simpa using hcm) hz with h | ⟨i, hi, hp, hci, k, hk, hck, hki⟩
      · exact ⟨c, h, hc⟩
      · by_cases hkr : k ∈ (rows r).1
        · exact ⟨k, hk, hkr⟩
        · exfalso
          have sub : ∀ j, c < j → j ∈ (rows r).1 → j ∈ (rows i).1 := by
            rcases N.nest r i hr hi c hc hci with h | h
            · exact (hkr (h k hck hki)).elim
            · exact h
          obtain ⟨j, hj, ⟨q1, q2, q3⟩, hmax⟩ := greatest (p := fun j => c < j ∧ j ∈ (rows i).1 ∧ j ∉ (rows r).1) (m := m) ⟨k, N.lt i hi k hki, hck, hki, hkr⟩
          have bef : Before rows r i := ⟨j, q2, q3, fun x hx => ⟨fun z => sub x (by omega) z, fun z => by
            by_cases w : x ∈ (rows r).1
            · exact w
            · exact (hmax x hx (N.lt i hi x z) ⟨by omega, z, w⟩).elim⟩⟩
          have hi' := mem_ord i hi
          rw [hab] at hi' hord
          rcases List.mem_append.mp hi' with z | z
          · exact (List.pairwise_append.mp hord).2.2 i z r (List.mem_cons_self ..) bef
          · rcases List.mem_cons.mp z with z | z
            · subst z
              exact hkr hki
            · have := hb i z hci
              omega
  refine ⟨I.bd, fun c => by have := eqc c; omega, ?_, J.nd, fun c hc => by simpa using (J.sub c hc).1⟩
  have e1 : (found.map costs).sum = (found.map fun c => ((List.range n).map fun r => if held rows c r = true then P r else 0).sum).sum := sum_congr fun c hc => by
    have h1 := eqc c
    have h2 := (J.sub c hc).2
    omega
  rw [e1, sum_swap, sum_add]
  refine sum_congr fun r hr => ?_
  have hr' := List.mem_range.mp hr
  have e2 := sum_count (fun c => held rows c r) (P r) found
  rw [e2]
  by_cases h0 : (found.any fun c => held rows c r) = true
  · rw [if_pos h0]
    obtain ⟨k, hk, hkr⟩ := List.any_eq_true.mp h0
    have hpos : 1 ≤ (found.filter fun c => held rows c r).length := List.length_pos_iff.mpr (fun q => by
      have : k ∈ found.filter fun c => held rows c r := List.mem_filter.mpr ⟨hk, hkr⟩
      rw [q] at this
      cases this)
    by_cases hp : P r = 0
    · rw [hp]
      simp
    · have h1 := J.one r hr' (by omega)
      have e3 : (found.filter fun c => held rows c r).length = 1 := by
        have : (found.filter fun c => held rows c r).length ≤ 1 := h1
        omega
      rw [e3]
      omega
  · rw [if_neg h0]
    have e3 : found.filter (fun c => held rows c r) = [] := List.filter_eq_nil_iff.mpr fun k hk hkr => h0 (List.any_eq_true.mpr ⟨k, hk, hkr⟩)
    rw [e3]
    have : P r = (rows r).2 := Classical.byContradiction fun hne => by
      obtain ⟨k, hk, hkr⟩ := cov r hr' hne
      exact h0 (List.any_eq_true.mpr ⟨k, hk, by simpa [held] using hkr⟩)
    simp [this]
end
end Gd
set_option Elab.async false
set_option linter.all false
set_option maxRecDepth 100000
set_option maxHeartbeats 1000000
/-! Jk: what sorting by keys tells. No program in sight. -/
namespace Gd
open PySem PySem.Spec L2 Iv Tr PyProof.Rows
abbrev Tk := Int ⊕ List Nat
theorem leK_no {a b : D × D} {p l m : List Tk} {x y : Int} (ha : PySem.W.keyToks a.2.p = p ++ .inl y :: m) (hb : PySem.W.keyToks b.2.p = p ++ .inl x :: l) (h : x < y) : leK a b = false := by
  show (!lexLt itemOrd (PySem.W.keyToks b.2.p) (PySem.W.keyToks a.2.p)) = false
  rw [ha, hb, PySem.W.lex_pre]
  have : lexLt itemOrd (.inl x :: l) (.inl y :: m) = true := by
    rw [lex_true]
    exact .inl (decide_eq_true h)
  rw [this]
  rfl
/-- the places 0 .. n - 1, sorted by their keys -/
theorem ord_of (n : Nat) (f : Nat → D) : ∃ ord : List Nat, keySort ((List.range n).map natD) ((List.range n).map f) = ord.map natD ∧ ord.Perm (List.range n) ∧ ord.Pairwise fun a b => leK (natD a, f a) (natD b, f b) = true := by
  have T := PySem.W.sortLe_total (listOrd itemOrd) false fun b : D × D => PySem.W.keyToks b.2.p
  have hz : ((List.range n).map natD).zip ((List.range n).map f) = (List.range n).map fun i => (natD i, f i) := by
    rw [List.zip_map, List.zip_eq_zipWith, List.zipWith_self]
    simp
  refine ⟨(List.range n).mergeSort fun i j => leK (natD i, f i) (natD j, f j), ?_, List.mergeSort_perm _ _, ?_⟩
  · unfold keySort
    rw [hz]
    have := List.map_mergeSort (r := fun i j => leK (natD i, f i) (natD j, f j)) (s := leK) (f := fun i => (natD i, f i)) (l := List.range n) (fun a _ b _ => rfl)
    rw [← this, List.map_map]
    rfl
  · exact List.pairwise_mergeSort (le := fun i j => leK (natD i, f i) (natD j, f j)) (fun a b c h1 h2 => T.trans _ _ _ h1 h2) (fun a b => by have := T.total (natD a, f a) (natD b, f b); rw [Bool.or_eq_true]; exact this) _
/-! ### keys of columns -/
theorem toks_ii (a b : Int) : PySem.W.keyToks (D.tup [.int a, .int b]).p = [.inl 1] ++ .inl a :: [.inl 1, .inl b, .inl 0] := by
  simp [D.p, D.pAll, PySem.W.keyToks, PySem.W.keyToksAll]
/-! ### keys of rows -/
def bitsOf (rows : Rw) (m r : Nat) : List Int := (List.range m).reverse.map fun c => if held rows c r = true then 1 else 0
def rowKey (rows : Rw) (m r : Nat) : D := .tup [.tup ((bitsOf rows m r).map D.int), natD r]
def tk1 (b : Int) : List Tk := [.inl 1, .inl b]
theorem toks_bits : ∀ bits : List Int, PySem.W.keyToksAll (D.pAll (bits.map D.int)) = bits.flatMap tk1 ++ [.inl 0]
  | [] => by simp [D.pAll, PySem.W.keyToksAll]
  | b :: bits => by
    rw [List.map_cons, D.pAll, PySem.W.keyToksAll, toks_bits bits]
    simp [D.p, PySem.W.keyToks, tk1]
theorem toks_row (rows : Rw) (m r : Nat) : ∃ rest, PySem.W.keyToks (rowKey rows m r).p = .inl 1 :: ((bitsOf rows m r).flatMap tk1 ++ rest) := by
  unfold rowKey
  refine ⟨[.inl 0] ++ PySem.W.keyToksAll (D.pAll [natD r]), ?_⟩
  simp only [D.p, D.pAll, PySem.W.keyToks, PySem.W.keyToksAll]
  rw [toks_bits]
  simp
theorem before_no {rows : Rw} {m a b : Nat} (h : Before rows a b) (hm : ∀ c ∈ (rows b).1, c < m) : leK (natD b, rowKey rows m b) (natD a, rowKey rows m a) = false := by
  obtain ⟨k, h1, h2, h3⟩ := h
  have hk : k ∈ (List.range m).reverse := by simpa using hm k h1
  obtain ⟨s, t, hst⟩ := List.append_of_mem hk
  have hp : (List.range m).reverse.Pairwise (fun a b => b < a) := List.pairwise_reverse.mpr List.pairwise_lt_range
  rw [hst] at hp
  have hs : ∀ j ∈ s, k < j := fun j hj => (List.pairwise_append.mp hp).2.2 j hj k (List.mem_cons_self ..)
  have bits : ∀ r, bitsOf rows m r = (s.map fun c => if held rows c r = true then 1 else 0) ++ (if held rows k r = true then 1 else 0) :: t.map fun c => if held rows c r = true then 1 else 0 := fun r => by
    unfold bitsOf
    rw [hst]
    simp
  have es : (s.map fun c => if held rows c a = true then (1 : Int) else 0) = s.map fun c => if held rows c b = true then 1 else 0 := List.map_congr_left fun j hj => by
    have : held rows j a = held rows j b := by
      have := h3 j (hs j hj)
      simp only [held, this]
    rw [this]
  have ka : (if held rows k a = true then (1 : Int) else 0) = 0 := by simp [held, h2]
  have kb : (if held rows k b = true then (1 : Int) else 0) = 1 := by simp [held, h1]
  obtain ⟨ra, ea⟩ := toks_row rows m a
  obtain ⟨rb, eb⟩ := toks_row rows m b
  rw [bits a, es, ka] at ea
  rw [bits b, kb] at eb
  refine leK_no (p := .inl 1 :: ((s.map fun c => if held rows c b = true then (1 : Int) else 0).flatMap tk1 ++ [.inl 1])) (x := 0) (y := 1) (m := ?_) (l := ?_) ?_ ?_ (by decide)
  rotate_left 2
  · rw [eb, List.flatMap_append, List.flatMap_cons]
    simp only [tk1, List.cons_append, List.nil_append, List.append_assoc]
    rfl
  · rw [ea, List.flatMap_append, List.flatMap_cons]
    simp only [tk1, List.cons_append, List.nil_append, List.append_assoc]
    rfl
end Gd
set_option Elab.async false
set_option linter.all false
set_option maxRecDepth 100000
set_option maxHeartbeats 1000000
/-! Jn: reaches within a tree nest, so the greedy prices leave no gap. No program in sight. -/
namespace Gd
open PySem PySem.Spec L2 Iv Tr PyProof.Rows
/-! ### depths rise downwards -/
theorem dep_snoc_lo (ts : Ties) (q : Nat × Nat) {p : Nat} (h : p ≤ ts.length) : dep (ts ++ [q]) p = dep ts p := by
  unfold dep
  rw [depths_snoc, dStep, List.getD_eq_getElem?_getD, List.getElem?_append_left (by rw [depths_len]; omega), ← List.getD_eq_getElem?_getD]
theorem dep_snoc_hi (ts : Ties) (q : Nat × Nat) : dep (ts ++ [q]) (ts.length + 1) = dep ts q.1 + q.2 := by
  unfold dep
  rw [depths_snoc, dStep, List.getD_eq_getElem?_getD, List.getElem?_append_right (by rw [depths_len]; omega), depths_len]
  simp
theorem fat_snoc_lo (ts : Ties) (q : Nat × Nat) {p : Nat} (h0 : 0 < p) (h : p ≤ ts.length) : fat (ts ++ [q]) p = fat ts p := by
  unfold fat
  rw [List.getElem?_append_left (by omega)]
theorem dep_fat : ∀ (n : Nat) (ts : Ties), ts.length = n → (∀ (i : Nat) (p : Nat × Nat), ts[i]? = some p → p.1 ≤ i) → ∀ p, 0 < p → p ≤ ts.length → dep ts (fat ts p) ≤ dep ts p
  | 0, ts, hn, _, p, h0, hp => by omega
  | n + 1, ts, hn, hf, p, h0, hp => by
    obtain ⟨ts', q, rfl⟩ : ∃ ts' q, ts = ts' ++ [q] := by
      rcases List.eq_nil_or_concat ts with h | ⟨a, b, h⟩
      · rw [h] at hn
        cases hn
      · exact ⟨a, b, by simpa using h⟩
    rw [List.length_append, List.length_singleton] at hn hp
    have hf' : ∀ (i : Nat) (p : Nat × Nat), ts'[i]? = some p → p.1 ≤ i := fun i p h => hf i p (by
      rw [List.getElem?_append_left]
      · exact h
      · exact (List.getElem?_eq_some_iff.mp h).1)
    have hq : q.1 ≤ ts'.length := hf ts'.length q (by simp)
    by_cases hl : p ≤ ts'.length
    · rw [fat_snoc_lo ts' q h0 hl, dep_snoc_lo ts' q hl]
      have e := dep_fat n ts' (by omega) hf' p h0 hl
      have hfp : fat ts' p ≤ ts'.length := by
        unfold fat
        have e2 : ts'[p - 1]? = some ts'[p - 1] := List.getElem?_eq_getElem (by omega)
        rw [e2]
        have := hf' (p - 1) _ e2
        show (ts'[p - 1]).1 ≤ _
        omega
      rw [dep_snoc_lo ts' q hfp]
      exact e
    · have hp' : p = ts'.length + 1 := by omega
      subst hp'
      have : fat (ts' ++ [q]) (ts'.length + 1) = q.1 := by
        unfold fat
        simp
      rw [this, dep_snoc_hi, dep_snoc_lo ts' q hq]
      omega
theorem dep_up {ts : Ties} (g : GoodT ts) : ∀ n p, p ≤ n → p ≤ ts.length → ∀ x ∈ up ts p, dep ts x ≤ dep ts p := by
  intro n
  induction n with
  | zero =>
    intro p hp _ x hx
    have : p = 0 := by omega
    subst this
    rw [up_0] at hx
    have : x = 0 := by simpa using hx
    rw [this]
    exact Nat.le_refl _
  | succ n ih =>
    intro p hp hl x hx
    by_cases h0 : p = 0
    · subst h0
      exact ih 0 (by omega) hl x hx
    · rw [up_pos g (show 0 < p by omega)] at hx
      rcases List.mem_cons.mp hx with rfl | hx
      · exact Nat.le_refl _
      · have h1 := fat_lt g (show 0 < p by omega)
        have h2 := ih (fat ts p) (by omega) (by omega) x hx
        have h3 := dep_fat ts.length ts rfl g.fat p (by omega) hl
        omega
theorem up_len_le {ts : Ties} (g : GoodT ts) {p x : Nat} (hp : p ≤ ts.length) (h : x ∈ up ts p) : x ≤ ts.length := by
  have := up_le g p x h
  omega
/-- how far two places go together -/
def co (ts : Ties) (p q : Nat) : Nat := dep ts (topT ts p q)
theorem co_max {ts : Ties} (g : GoodT ts) {p q x : Nat} (hp : p ≤ ts.length) (h1 : x ∈ up ts p) (h2 : x ∈ up ts q) : dep ts x ≤ co ts p q := by
  obtain ⟨A, B, M⟩ := meet_top g p q
  have : x ∈ up ts (topT ts p q) := by
    rw [M.u] at h1
    rcases List.mem_append.mp h1 with h | h
    · exact (M.a x h h2).elim
    · exact h
  exact dep_up g _ _ (Nat.le_refl _) (up_len_le g hp M.inU) x this
theorem way_co (ts : Ties) (p q : Nat) : wayT ts p q = dep ts p + dep ts q - 2 * co ts p q := rfl
theorem co_comm {ts : Ties} (g : GoodT ts) (p q : Nat) : co ts p q = co ts q p := by
  have h := wayT_comm g p q
  rw [way_co, way_co] at h
  omega
/-- of three ways together, none is the shortest alone -/
theorem co_three {ts : Ties} (g : GoodT ts) {a s t : Nat} (ha : a ≤ ts.length) (hs : s ≤ ts.length) (ht : t ≤ ts.length) : min (co ts a s) (co ts s t) ≤ co ts a t := by
  obtain ⟨A, B, M⟩ := meet_top g a s
  obtain ⟨A', B', N⟩ := meet_top g s t
  have hx := M.inV
  have hy := N.inU
  have hxa := M.inU
  have hyt := N.inV
  generalize hxe : topT ts a s = x at hx hxa M
  generalize hye : topT ts s t = y at hy hyt N
  have ex : co ts a s = dep ts x := by unfold co; rw [hxe]
  have ey : co ts s t = dep ts y := by unfold co; rw [hye]
  by_cases h : x ≤ y
  · obtain ⟨C, hC⟩ := up_split g s y hy
    have : x ∈ up ts y := by
      rw [hC] at hx
      rcases List.mem_append.mp hx with q | q
      · have := up_away g hC x q y (up_mem ts y)
        omega
      · exact q
    obtain ⟨C', hC'⟩ := up_split g t y hyt
    have h3 := co_max g ha hxa (show x ∈ up ts t by rw [hC']; exact List.mem_append_right _ this)
    omega
  · obtain ⟨C, hC⟩ := up_split g s x hx
    have : y ∈ up ts x := by
      rw [hC] at hy
      rcases List.mem_append.mp hy with q | q
      · have := up_away g hC y q x (up_mem ts x)
        omega
      · exact q
    obtain ⟨C', hC'⟩ := up_split g a x hxa
    have h3 := co_max g ha (show y ∈ up ts a by rw [hC']; exact List.mem_append_right _ this) hyt
    omega
/-- who reaches a place, reaches a higher one as if from there -/
theorem reach_as {ts : Ties} (g : GoodT ts) {p s t : Nat} {R : Int} (hp : p ≤ ts.length) (hs : s ≤ ts.length) (ht : t ≤ ts.length) (h : wayT ts p s ≤ R) (hd : dep ts t ≤ dep ts s) :
    wayT ts p t ≤ R ↔ (dep ts t : Int) - 2 * co ts s t ≤ R - dep ts p := by
  rw [way_co] at h ⊢
  have h1 := co_three g hp hs ht
  have h2 := co_three g hs hp ht
  have h3 := co_three g hp ht hs
  rw [co_comm g s p] at h2
  rw [co_comm g t s] at h3
  omega
/-! ### the rows of a wood -/
def siteN (w : Wd) (s : Nat) : Nat := (w.ss.getD s (0, 0)).2
def feeN (w : Wd) (c : Nat) : Nat := match w.cs[c]? with
  | some c => c.fe
  | none => 0
theorem fee_cast (w : Wd) (c : Nat) : feeC w c = (feeN w c : Int) := by
  unfold feeC feeN
  cases w.cs[c]? <;> rfl
theorem site_cast (w : Wd) (s : Nat) : siteC w s = (siteN w s : Int) := rfl
def rowsW (w : Wd) (ord : List Nat) : Rw := fun r => ((List.range ord.length).filter fun k => reachB w (siteP w (ord.getD k 0)) r, feeN w r)
structure PlW (w : Wd) : Prop where
  t : GoodT w.ts
  cu : ∀ c ∈ w.cs, c.pl ≤ w.ts.length
  si : ∀ q ∈ w.ss, q.1 ≤ w.ts.length
theorem PlW.of {w : Wd} (g : GoodW w) : PlW w := ⟨g.t, fun c h => (g.cu c h).1, fun q h => (g.si q h).1⟩
theorem PlW.place {w : Wd} (g : PlW w) (s : Nat) : siteP w s ≤ w.ts.length := by
  unfold siteP
  rw [List.getD_eq_getElem?_getD]
  cases h : w.ss[s]? with
  | none => simp
  | some q => exact g.si q (List.mem_of_getElem? h)
def depS (w : Wd) (s : Nat) : Nat := dep w.ts (siteP w s)
theorem nest_w {w : Wd} (g : PlW w) {ord : List Nat} (hd : ord.Pairwise fun a b => depS w b ≤ depS w a) : Nest (rowsW w ord) w.cs.length ord.length where
  lt := fun r _ c hc => by
    have := (List.mem_filter.mp hc).1
    simpa using this
  nest := fun r i hr hi c hcr hci => by
    have key : ∀ r, r < w.cs.length → c ∈ (rowsW w ord r).1 → ∃ K : Int, ∀ k, c < k → (k ∈ (rowsW w ord r).1 ↔ k < ord.length ∧ (depS w (ord.getD k 0) : Int) - 2 * co w.ts (siteP w (ord.getD c 0)) (siteP w (ord.getD k 0)) ≤ K) := fun r hr hc => by
      obtain ⟨h1, h2⟩ := List.mem_filter.mp hc
      have hcu : w.cs[r]? = some w.cs[r] := List.getElem?_eq_getElem hr
      have hcm := List.mem_of_getElem? hcu
      refine ⟨((w.cs[r]).re : Int) - dep w.ts (w.cs[r]).pl, fun k hk => ?_⟩
      show k ∈ (List.range ord.length).filter _ ↔ _
      rw [List.mem_filter, List.mem_range]
      refine and_congr_right fun hkl => ?_
      rw [reachB_at hcu, decide_eq_true_iff] at h2 ⊢
      have hcl : c < ord.length := by omega
      have hdd : depS w (ord.getD k 0) ≤ depS w (ord.getD c 0) := by
        have e1 : ord.getD k 0 = ord[k] := by simp [List.getD_eq_getElem?_getD, hkl]
        have e2 : ord.getD c 0 = ord[c] := by simp [List.getD_eq_getElem?_getD, hcl]
        rw [e1, e2]
        exact List.pairwise_iff_getElem.mp hd c k hcl hkl hk
      exact reach_as g.t (g.cu _ hcm) (g.place _) (g.place _) h2 hdd
    obtain ⟨K, hK⟩ := key r hr hcr
    obtain ⟨K', hK'⟩ := key i hi hci
    by_cases h : K ≤ K'
    · refine .inr fun k hk hm => ?_
      rw [hK' k hk]
      have := (hK k hk).mp hm
      exact ⟨this.1, by omega⟩
    · refine .inl fun k hk hm => ?_
      rw [hK k hk]
      have := (hK' k hk).mp hm
      exact ⟨this.1, by omega⟩
theorem cast_sum (f : Nat → Nat) : ∀ l : List Nat, (l.map fun x => (f x : Int)).sum = ((l.map f).sum : Nat)
  | [] => rfl
  | x :: l => by
    rw [List.map_cons, List.map_cons, List.sum_cons, List.sum_cons, cast_sum f l]
    omega
def colKey (w : Wd) (s : Nat) : D := .tup [.int (-(depS w s : Int)), natD s]
/-- prices that no site and no fee forbids -/
structure FairP (w : Wd) (P : Nat → Nat) : Prop where
  fee : ∀ r, P r ≤ feeN w r
  site : ∀ s, s < w.ss.length → ((List.range w.cs.length).map fun r => if reachB w (siteP w s) r = true then P r else 0).sum ≤ siteN w s
def costN (w : Wd) (ch : List Nat) : Nat := (ch.map (siteN w)).sum + ((leftS w ch).map (feeN w)).sum
theorem cost_cast (w : Wd) (ch : List Nat) : costS w ch = (costN w ch : Int) := by
  unfold costS costN
  have e1 : siteC w = fun s => (siteN w s : Int) := rfl
  have e2 : feeC w = fun s => (feeN w s : Int) := funext fun s => fee_cast w s
  rw [e1, e2, cast_sum, cast_sum]
  omega
theorem sum_mono {f g : Nat → Nat} : ∀ {l : List Nat}, (∀ x ∈ l, f x ≤ g x) → (l.map f).sum ≤ (l.map g).sum
  | [], _ => Nat.le_refl _
  | x :: l, h => by
    have h1 := h x (List.mem_cons_self ..)
    have h2 := sum_mono (l := l) fun y hy => h y (List.mem_cons_of_mem _ hy)
    rw [List.map_cons, List.map_cons, List.sum_cons, List.sum_cons]
    omega
/-- no choice costs less than fair prices bring -/
theorem fair_le {w : Wd} {P : Nat → Nat} (F : FairP w P) {ch : List Nat} (hc : ∀ s ∈ ch, s < w.ss.length) : ((List.range w.cs.length).map P).sum ≤ costN w ch := by
  have h1 : ((List.range w.cs.length).map P).sum ≤ ((List.range w.cs.length).map fun r => (ch.map fun s => if reachB w (siteP w s) r = true then P r else 0).sum + if (!reachedS w ch r) = true then feeN w r else 0).sum := by
    refine sum_mono fun r _ => ?_
    by_cases h : reachedS w ch r = true
    · obtain ⟨s, hs, hr⟩ := List.any_eq_true.mp h
      have : P r ≤ (ch.map fun s => if reachB w (siteP w s) r = true then P r else 0).sum := by
        obtain ⟨a, b, rfl⟩ := List.append_of_mem hs
        rw [List.map_append, List.map_cons, List.sum_append, List.sum_cons, if_pos hr]
        omega
      omega
    · have := F.fee r
      simp [h]
      omega
  rw [← sum_add, ← sum_swap, ← sum_filter] at h1
  have h2 : (ch.map fun s => ((List.range w.cs.length).map fun r => if reachB w (siteP w s) r = true then P r else 0).sum).sum ≤ (ch.map (siteN w)).sum := sum_mono fun s hs => F.site s (hc s hs)
  unfold costN leftS
  omega
/-! ### what the greedy way finds -/
structure BestW (w : Wd) (F : List Nat) (P : Nat → Nat) : Prop where
  fair : FairP w P
  lt : ∀ s ∈ F, s < w.ss.length
  rise : F.Pairwise (· < ·)
  cost : costN w F = ((List.range w.cs.length).map P).sum
theorem perm_getD {ord : List Nat} {m : Nat} (h : ord.Perm (List.range m)) : ord.length = m ∧ ord.Nodup ∧ ∀ k, k < m → ord.getD k 0 < m := by
  have hl : ord.length = m := by rw [h.length_eq, List.length_range]
  refine ⟨hl, h.nodup_iff.mpr List.nodup_range, fun k hk => ?_⟩
  have e : ord.getD k 0 = ord[k]'(by omega) := by simp [List.getD_eq_getElem?_getD, show k < ord.length by omega]
  rw [e]
  exact List.mem_range.mp (h.mem_iff.mp (List.getElem_mem _))
theorem list_getD (l : List Nat) : (List.range l.length).map (fun k => l.getD k 0) = l := by
  refine List.ext_getElem (by simp) fun i h1 h2 => ?_
  simp [List.getD_eq_getElem?_getD, h2]
theorem held_w (w : Wd) (ord : List Nat) {k : Nat} (hk : k < ord.length) (r : Nat) : held (rowsW w ord) k r = reachB w (siteP w (ord.getD k 0)) r := by
  unfold held rowsW
  simp [List.mem_filter, hk]
theorem best_of {w : Wd} (g : PlW w) {ord ro found F : List Nat} {L P : Nat → Nat} (h1 : ord.Perm (List.range w.ss.length)) (h2 : ord.Pairwise fun a b => depS w b ≤ depS w a)
    (h3 : ro.Perm (List.range w.cs.length)) (h4 : ro.Pairwise fun a b => ¬ Before (rowsW w ord) b a) (hR : runR (rowsW w ord) (fun k => siteN w (ord.getD k 0)) ro = (L, P))
    (hO : (runO (rowsW w ord) L P w.cs.length w.ss.length).1 = found) (hF : F.Perm (found.map fun k => ord.getD k 0)) (hs : F.Pairwise (· ≤ ·)) : BestW w F P := by
  obtain ⟨hl, hnd, hlt⟩ := perm_getD h1
  have N := nest_w g h2
  rw [hl] at N
  obtain ⟨f1, f2, f3, f4, f5⟩ := no_gap N h3 h4 hR hO
  have mem : ∀ s, s ∈ F ↔ ∃ k ∈ found, ord.getD k 0 = s := fun s => by rw [hF.mem_iff, List.mem_map]
  refine ⟨⟨f1, fun s hsl => ?_⟩, fun s h => ?_, ?_, ?_⟩
  · have : s ∈ ord := h1.mem_iff.mpr (List.mem_range.mpr hsl)
    obtain ⟨k, hk, e⟩ := List.getElem_of_mem this
    have e' : ord.getD k 0 = s := by simp [List.getD_eq_getElem?_getD, hk, e]
    have := f2 k
    rw [e'] at this
    have e2 : ((List.range w.cs.length).map fun r => if held (rowsW w ord) k r = true then P r else 0) = (List.range w.cs.length).map fun r => if reachB w (siteP w s) r = true then P r else 0 := List.map_congr_left fun r _ => by rw [held_w w ord hk, e']
    rw [e2] at this
    exact this
  · obtain ⟨k, hk, rfl⟩ := (mem s).mp h
    exact hlt k (f5 k hk)
  · have nd : F.Nodup := by
      rw [hF.nodup_iff]
      refine List.pairwise_map.mpr ((List.Pairwise.and_mem.mp f4).imp fun {a b} h e => ?_)
      obtain ⟨ha, hb, hne⟩ := h
      have hal : a < ord.length := by rw [hl]; exact f5 a ha
      have hbl : b < ord.length := by rw [hl]; exact f5 b hb
      have ea : ord.getD a 0 = ord[a] := by simp [List.getD_eq_getElem?_getD, hal]
      have eb : ord.getD b 0 = ord[b] := by simp [List.getD_eq_getElem?_getD, hbl]
      rw [ea, eb] at e
      exact hne ((List.getElem_inj hnd).mp e)
    exact (hs.and nd).imp fun ⟨h1, h2⟩ => by omega
  · rw [← f3]
    unfold costN
    have e1 : (F.map (siteN w)).sum = (found.map fun k => siteN w (ord.getD k 0)).sum := by
      have := perm_sum (hF.map (siteN w))
      rw [List.map_map] at this
      exact this
    rw [e1]
    congr 1
    unfold leftS
    rw [sum_filter]
    refine sum_congr fun r _ => ?_
    have e2 : reachedS w F r = found.any fun c => held (rowsW w ord) c r := by
      rw [Bool.eq_iff_iff]
      unfold reachedS
      rw [List.any_eq_true, List.any_eq_true]
      constructor
      · rintro ⟨s, hs, hr⟩
        obtain ⟨k, hk, rfl⟩ := (mem s).mp hs
        exact ⟨k, hk, by rw [held_w w ord (by rw [hl]; exact f5 k hk)]; exact hr⟩
      · rintro ⟨k, hk, hr⟩
        rw [held_w w ord (by rw [hl]; exact f5 k hk)] at hr
        exact ⟨_, (mem _).mpr ⟨k, hk, rfl⟩, hr⟩
    rw [e2]
    cases found.any fun c => held (rowsW w ord) c r <;> rfl
end Gd
set_option Elab.async false
set_option linter.all false
set_option maxRecDepth 100000
set_option maxHeartbeats 1000000
/-! Jm: the greedy program's values. No program in sight. -/
namespace Gd
open PySem PySem.Spec L2 Iv Tr PyProof.Rows
def natsD (f : Nat → Nat) (n : Nat) : List D := (List.range n).map fun i => natD (f i)
def rowD (p : List Nat × Nat) : D := .tup [.lst (p.1.map natD), natD p.2]
def rowsD (rows : Rw) (n : Nat) : List D := (List.range n).map fun r => rowD (rows r)
def boolsD (f : Nat → Bool) (n : Nat) : List D := (List.range n).map fun i => .bl (f i)
theorem natsD_map (f : Nat → Nat) (n : Nat) : natsD f n = ((List.range n).map f).map natD := by
  unfold natsD
  rw [List.map_map]
  rfl
@[simp] theorem natsD_len (f : Nat → Nat) (n : Nat) : (natsD f n).length = n := by simp [natsD]
@[simp] theorem rowsD_len (f : Rw) (n : Nat) : (rowsD f n).length = n := by simp [rowsD]
@[simp] theorem boolsD_len (f : Nat → Bool) (n : Nat) : (boolsD f n).length = n := by simp [boolsD]
theorem rng_at {g : Nat → D} {n k : Nat} (h : k < n) : atI ((List.range n).map g) ((k : Nat) : Int) = some (g k) := by
  rw [Iv.atI_nat]
  simp [h]
theorem rng_set {g : Nat → D} {n k : Nat} (h : k < n) (v : D) : setAt ((List.range n).map g) (.int ((k : Nat) : Int)) v = some ((List.range n).map fun i => if i = k then v else g i) := by
  show Option.map (fun j => ((List.range n).map g).set j v) (ixN ((List.range n).map g).length ((k : Nat) : Int)) = _
  unfold ixN
  have : ((List.range n).map g).length = n := by simp
  rw [this, if_pos (Int.natCast_nonneg k), if_pos (by omega)]
  show some _ = some _
  congr 1
  refine List.ext_getElem (by simp) fun i h1 h2 => ?_
  simp [List.getElem_set]
  by_cases e : k = i
  · simp [e]
  · have : ¬ i = k := fun q => e q.symm
    simp [e, this]
theorem nats_at {f : Nat → Nat} {n k : Nat} (h : k < n) : idxD (.lst (natsD f n)) (.int ((k : Nat) : Int)) = some (natD (f k)) := rng_at h
theorem rows_at {f : Rw} {n k : Nat} (h : k < n) : idxD (.lst (rowsD f n)) (.int ((k : Nat) : Int)) = some (rowD (f k)) := rng_at h
theorem bools_at {f : Nat → Bool} {n k : Nat} (h : k < n) : idxD (.lst (boolsD f n)) (.int ((k : Nat) : Int)) = some (.bl (f k)) := rng_at h
theorem nats_set {f : Nat → Nat} {n k : Nat} (h : k < n) (v : Nat) : setAt (natsD f n) (.int ((k : Nat) : Int)) (natD v) = some (natsD (upF f k v) n) := by
  rw [natsD, rng_set h]
  unfold natsD upF
  congr 1
  refine List.map_congr_left fun i _ => ?_
  by_cases e : i = k <;> simp [e]
theorem bools_set {f : Nat → Bool} {n k : Nat} (h : k < n) : setAt (boolsD f n) (.int ((k : Nat) : Int)) (.bl true) = some (boolsD (fun r => f r || decide (r = k)) n) := by
  rw [boolsD, rng_set h]
  unfold boolsD
  congr 1
  refine List.map_congr_left fun i _ => ?_
  by_cases e : i = k <;> simp [e]
theorem row_0 (p : List Nat × Nat) : idxD (rowD p) (.int 0) = some (.lst (p.1.map natD)) := rfl
theorem min_cast (L : Nat → Nat) : ∀ (cols : List Nat) (bd : Nat), minI (bd : Int) (cols.map fun c => ((L c : Nat) : Int)) = ((minP L cols bd : Nat) : Int)
  | [], bd => rfl
  | c :: cols, bd => by
    rw [List.map_cons, minI]
    have e : (if ((L c : Nat) : Int) < (bd : Int) then ((L c : Nat) : Int) else (bd : Int)) = ((min bd (L c) : Nat) : Int) := by
      split <;> omega
    rw [e, min_cast L cols (min bd (L c))]
    rfl
theorem min_row (L : Nat → Nat) (cols : List Nat) (bd : Nat) : minD [.lst (natD bd :: cols.map fun c => natD (L c))] = some (natD (minP L cols bd)) := by
  have e : (natD bd :: cols.map fun c => natD (L c)) = (bd :: cols.map L).map natD := by simp
  rw [e]
  show (match intsOf ((bd :: cols.map L).map natD) with
    | some (x :: r) => some (D.int (minI x r))
    | _ => none) = _
  rw [intsOf_nats]
  show some (D.int (minI (bd : Int) ((cols.map L).map fun n : Nat => (n : Int)))) = _
  rw [List.map_map]
  have := min_cast L cols bd
  simp only [Function.comp_def]
  rw [this]
/-! ### shapes -/
theorem alike_ints : ∀ a b : List Int, PySem.W.alikeAll (D.pAll (a.map D.int)) (D.pAll (b.map D.int)) = true
  | [], b => by simp [D.pAll, PySem.W.alikeAll]
  | x :: a, [] => by simp [D.pAll, PySem.W.alikeAll]
  | x :: a, y :: b => by
    have := alike_ints a b
    simp [D.pAll, D.p, PySem.W.alikeAll, PySem.W.alike, this]
theorem sort_nats {l : List Nat} (hl : l.length ≤ line) : sortOk (l.map natD) = true := by
  unfold sortOk
  simp [D.p, PySem.W.alike, notT, sh_nat, hl]
theorem leP_nat (a b : Nat) : leP (natD a) (natD b) = decide (a ≤ b) := by
  show (!lexLt itemOrd [.inl (b : Int)] [.inl (a : Int)]) = _
  by_cases h : b < a
  · have : lexLt itemOrd [.inl (b : Int)] [.inl (a : Int)] = true := by
      rw [lex_true]
      exact .inl (decide_eq_true (show (b : Int) < a by omega))
    rw [this]
    simp
    omega
  · have : lexLt itemOrd [.inl (b : Int)] [.inl (a : Int)] = false := by
      rw [← Bool.not_eq_true, lex_true]
      rintro (q | ⟨_, q⟩)
      · have := of_decide_eq_true q
        omega
      · cases q
    rw [this]
    simp
    omega
/-- a sorted list of numbers -/
theorem sorted_nats {l : List Nat} (hl : l.length ≤ line) : ∃ F : List Nat, sortedD (.lst (l.map natD)) = some (.lst (F.map natD)) ∧ F.Perm l ∧ F.Pairwise (· ≤ ·) := by
  refine ⟨l.mergeSort fun a b => decide (a ≤ b), ?_, List.mergeSort_perm _ _, ?_⟩
  · show (if sortOk (l.map natD) = true then some (D.lst ((l.map natD).mergeSort leP)) else none) = _
    rw [sort_nats hl, if_pos rfl]
    congr 2
    exact (List.map_mergeSort (r := fun a b => decide (a ≤ b)) (s := leP) (f := natD) (l := l) (fun a _ b _ => (leP_nat a b).symm)).symm
  · have := List.pairwise_mergeSort (le := fun a b : Nat => decide (a ≤ b)) (fun a b c h1 h2 => by simp at *; omega) (fun a b => by simp; omega) l
    exact this.imp fun h => of_decide_eq_true h
theorem sh_tup_ints (l : List Int) : shOk (.tup (l.map D.int)) = true := by
  obtain ⟨h1, h2⟩ := lay_ints l
  simp [shOk, SeqAt.shaped, D.p, PyData.canLay0, PyData.depth, h1, h2]
theorem sort_cols {n : Nat} (f : Nat → Int) (hl : n ≤ line) : sortOk ((List.range n).map fun s => D.tup [.int (f s), natD s]) = true := by
  unfold sortOk
  have e : ∀ s : Nat, shOk (D.tup [.int (f s), natD s]) = true := fun s => sh_tup_ints [f s, (s : Int)]
  simp [D.p, D.pAll, PySem.W.alike, PySem.W.alikeAll, tupN, e, hl]
theorem sh_row (rows : Rw) (m r : Nat) : shOk (rowKey rows m r) = true := by
  obtain ⟨h1, h2⟩ := lay_ints (bitsOf rows m r)
  simp [rowKey, shOk, SeqAt.shaped, D.p, D.pAll, PyData.canLay0, PyData.canLayAll0, PyData.depth, PyData.depthAll, h1, h2]
theorem sort_rows (rows : Rw) (m : Nat) {n : Nat} (hl : n ≤ line) : sortOk ((List.range n).map (rowKey rows m)) = true := by
  unfold sortOk
  have e : ∀ r, shOk (rowKey rows m r) = true := sh_row rows m
  have a : ∀ x y, PySem.W.alike (rowKey rows m x).p (rowKey rows m y).p = true := fun x y => by
    simp [rowKey, D.p, D.pAll, PySem.W.alike, PySem.W.alikeAll, alike_ints]
  have t : ∀ x, tupN (rowKey rows m x).p = true := fun x => rfl
  simp [e, a, t, hl]
theorem rngd_rev (n : Nat) : rngdD ((n : Int) - 1) (-1) = (List.range n).reverse.map natD := by
  unfold rngdD
  have e : ((n : Int) - 1 - -1).toNat = n := by omega
  rw [e]
  refine List.ext_getElem (by simp) fun i h1 h2 => ?_
  simp at h1
  simp
  show ((n : Int) - 1 - (i : Int)) = ((n - 1 - i : Nat) : Int)
  omega
theorem less_nil (L : Nat → Nat) (p : Nat) : lessL L [] p = L := by
  funext x
  simp [lessL]
theorem less_snoc {L : Nat → Nat} {l : List Nat} {c p : Nat} (h : c ∉ l) : upF (lessL L l p) c (lessL L l p c - p) = lessL L (l ++ [c]) p := by
  funext x
  by_cases e : x = c
  · subst e
    simp [upF, lessL, h]
  · simp [upF, lessL, e]
/-! ### sites, the deepest first -/
theorem ord_cols (w : Wd) (n : Nat) : ∃ ord : List Nat, keySort ((List.range n).map natD) ((List.range n).map (colKey w)) = ord.map natD ∧ ord.Perm (List.range n) ∧ ord.Pairwise fun a b => depS w b ≤ depS w a := by
  obtain ⟨ord, h1, h2, h3⟩ := ord_of n (colKey w)
  refine ⟨ord, h1, h2, h3.imp fun {a b} h => Classical.byContradiction fun q => ?_⟩
  have := leK_no (a := (natD a, colKey w a)) (b := (natD b, colKey w b)) (p := [.inl 1]) (toks_ii _ _) (toks_ii _ _) (show (-(depS w b : Int)) < -(depS w a : Int) by omega)
  rw [this] at h
  cases h
theorem ord_rows (rows : Rw) (m n : Nat) (hm : ∀ r, r < n → ∀ c ∈ (rows r).1, c < m) : ∃ ord : List Nat, keySort ((List.range n).map natD) ((List.range n).map (rowKey rows m)) = ord.map natD ∧ ord.Perm (List.range n) ∧ ord.Pairwise fun a b => ¬ Before rows b a := by
  obtain ⟨ord, h1, h2, h3⟩ := ord_of n (rowKey rows m)
  refine ⟨ord, h1, h2, (List.Pairwise.and_mem.mp h3).imp fun {a b} h q => ?_⟩
  obtain ⟨ha, hb, h⟩ := h
  have := before_no (m := m) q (hm a (List.mem_range.mp (h2.mem_iff.mp ha)))
  rw [this] at h
  cases h
end Gd
set_option Elab.async false
set_option linter.all false
set_option maxRecDepth 100000
set_option maxHeartbeats 1000000
/-! Jo: what the best paper proves. No program in sight. -/
namespace Gd
open PySem PySem.Spec L2 Iv Tr Kp PyProof.Rows
def listP (P : Nat → Nat) (n : Nat) : List (Int × Int) := (List.range n).map fun r => ((P r : Int), 1)
def pricesD (P : Nat → Nat) (n : Nat) : List D := (List.range n).map fun r => rtD ((P r : Int), 1)
theorem prices_map (P : Nat → Nat) (n : Nat) : pricesD P n = (listP P n).map rtD := by
  unfold pricesD listP
  rw [List.map_map]
  rfl
@[simp] theorem listP_len (P : Nat → Nat) (n : Nat) : (listP P n).length = n := by simp [listP]
theorem red_1 (a : Int) : redR a 1 = (a, 1) := by
  have : Nat.gcd a.natAbs (1 : Int).natAbs = 1 := Nat.gcd_one_right _
  unfold redR
  rw [this]
  simp
theorem plus_1 (a b : Int) : plusR (a, 1) (b, 1) = (a + b, 1) := by
  unfold plusR
  simp [red_1]
theorem sum_1 {α : Type} (f : α → Nat) (l : List α) : sumR (l.map fun r => ((f r : Int), 1)) = ((((l.map f).sum : Nat) : Int), 1) := by
  suffices q : ∀ (l : List α) (a : Nat), (l.map fun r => ((f r : Int), (1 : Int))).foldl plusR ((a : Int), 1) = (((a + (l.map f).sum : Nat) : Int), 1) by
    have := q l 0
    rw [Nat.zero_add] at this
    exact this
  intro l
  induction l with
  | nil => intro a; rfl
  | cons x l ih =>
    intro a
    rw [List.map_cons, List.foldl_cons, plus_1, List.map_cons, List.sum_cons]
    have := ih (a + f x)
    rw [Int.natCast_add] at this
    rw [this, Nat.add_assoc]
theorem sum_listP (P : Nat → Nat) (n : Nat) : sumR (listP P n) = (((((List.range n).map P).sum : Nat) : Int), 1) := sum_1 P _
theorem getR_listP (P : Nat → Nat) {n c : Nat} (h : c < n) : getR (listP P n) c = ((P c : Int), 1) := by
  unfold getR listP
  simp [List.getD_eq_getElem?_getD, h]
theorem isRt_1 (a : Int) : isRt (rtD (a, 1)) = true := by
  have : Nat.gcd a.natAbs (1 : Int).natAbs = 1 := Nat.gcd_one_right _
  simp [isRt, rtD]
theorem cost_eq {w : Wd} {F : List Nat} {P : Nat → Nat} (B : BestW w F P) : sumR (listP P w.cs.length) = (costS w F, 1) := by
  rw [sum_listP, cost_cast, B.cost]
section
variable {w : Wd} (g : GoodW w) {F : List Nat} {P : Nat → Nat} (B : BestW w F P)
include g
include B
theorem fee_le (r : Nat) : P r ≤ 9999 := by
  have h1 := B.fair.fee r
  have h2 : feeN w r ≤ 9999 := by
    unfold feeN
    cases h : w.cs[r]? with
    | none => simp
    | some c => exact (g.cu c (List.mem_of_getElem? h)).2.2.2
  omega
theorem small_P : SmallR (listP P w.cs.length) := fun b hb => by
  obtain ⟨r, hr, rfl⟩ := List.mem_map.mp hb
  have := fee_le g B r
  exact ⟨show (0 : Int) < 1 by omega, show (1 : Int).natAbs ≤ 10 ^ 20 by decide, by simp only; omega⟩
theorem arePr_P : arePr (.tup (pricesD P w.cs.length)) w.cs.length = true := by
  unfold arePr pricesD
  simp [isRt_1]
theorem sound_P : soundS w (listP P w.cs.length) = true := by
  unfold soundS
  rw [Bool.and_eq_true]
  constructor
  · rw [List.all_eq_true]
    intro p hp
    obtain ⟨i, hi⟩ := List.getElem?_of_mem hp
    rw [List.getElem?_zip_eq_some] at hi
    obtain ⟨h1, h2⟩ := hi
    have hlt := getElem?_lt h1
    have e : p.2 = ((P i : Int), 1) := by
      unfold listP at h2
      simp [hlt] at h2
      exact h2.symm
    have hf : P i ≤ p.1.fe := by
      have := B.fair.fee i
      unfold feeN at this
      rw [h1] at this
      exact this
    unfold okC lessR
    rw [e]
    simp
    omega
  · rw [List.all_eq_true]
    intro s hs
    have hs := List.mem_range.mp hs
    have h := B.fair.site s hs
    unfold okSi earnS earnL
    have e : (reachL w (siteP w s)).map (getR (listP P w.cs.length)) = (reachL w (siteP w s)).map fun c => ((P c : Int), 1) := List.map_congr_left fun c hc => getR_listP P (List.mem_range.mp (List.mem_filter.mp hc).1)
    rw [e, sum_1]
    unfold reachL
    rw [sum_filter]
    unfold lessR
    rw [site_cast]
    simp
    omega
theorem areSound_P : areSound w (.tup (pricesD P w.cs.length)) = true := by
  unfold areSound
  rw [arePr_P g B, prices_map]
  simp only [rt_map, sound_P g B, Bool.true_and]
theorem areOpen_F : areOpen (.tup (F.map natD)) w.ss.length = true := by
  unfold areOpen
  rw [Bool.and_eq_true, List.all_eq_true]
  constructor
  · intro x hx
    obtain ⟨s, hs, rfl⟩ := List.mem_map.mp hx
    have := B.lt s hs
    simp [within]
    omega
  · refine pair_rising ?_
    rw [List.map_map]
    have e : F.map (itI ∘ natD) = F.map fun (s : Nat) => (s : Int) := rfl
    rw [e, List.pairwise_map]
    exact B.rise.imp fun h => by omega
theorem F_len : F.length ≤ 10 := by
  have h1 := rise_len (l := F.map fun (s : Nat) => (s : Int)) (a := 0) (n := (w.ss.length : Nat)) (by rw [List.pairwise_map]; exact B.rise.imp fun h => by omega) (fun k hk => by
    obtain ⟨s, hs, rfl⟩ := List.mem_map.mp hk
    have := B.lt s hs
    omega)
  rw [List.length_map] at h1
  have := g.ns
  omega
theorem cost_le {ch : List Nat} (hc : ∀ s ∈ ch, s < w.ss.length) : costN w F ≤ costN w ch := by
  rw [B.cost]
  exact fair_le B.fair hc
end
/-! ### subsets -/
def subsN : Nat → List (List Nat)
  | 0 => [[]]
  | n + 1 => subsN n ++ (subsN n).map (· ++ [n])
theorem subs_len : ∀ n, (subsN n).length = 2 ^ n
  | 0 => rfl
  | n + 1 => by
    rw [subsN, List.length_append, List.length_map, subs_len n]
    omega
theorem subs_lt : ∀ n, ∀ ch ∈ subsN n, (∀ s ∈ ch, s < n) ∧ ch.length ≤ n
  | 0, ch, h => by
    have : ch = [] := by simpa [subsN] using h
    subst this
    exact ⟨(fun s h => nomatch h), Nat.le_refl _⟩
  | n + 1, ch, h => by
    rw [subsN] at h
    rcases List.mem_append.mp h with h | h
    · obtain ⟨h1, h2⟩ := subs_lt n ch h
      exact ⟨fun s hs => by have := h1 s hs; omega, by omega⟩
    · obtain ⟨c, hc, rfl⟩ := List.mem_map.mp h
      obtain ⟨h1, h2⟩ := subs_lt n c hc
      refine ⟨fun s hs => ?_, by simp; omega⟩
      rcases List.mem_append.mp hs with q | q
      · have := h1 s q
        omega
      · have : s = n := by simpa using q
        omega
theorem subs_mem : ∀ n (F : List Nat), F.Pairwise (· < ·) → (∀ s ∈ F, s < n) → F ∈ subsN n
  | 0, F, _, h => by
    cases F with
    | nil => simp [subsN]
    | cons x l => exact absurd (h x (List.mem_cons_self ..)) (by omega)
  | n + 1, F, hp, h => by
    rw [subsN]
    by_cases hn : n ∈ F
    · obtain ⟨a, b, rfl⟩ := List.append_of_mem hn
      have hb : b = [] := by
        cases b with
        | nil => rfl
        | cons y b =>
          have h1 := (List.pairwise_append.mp hp).2.1
          have h2 := (List.pairwise_cons.mp h1).1 y (List.mem_cons_self ..)
          have h3 := h y (by simp)
          omega
      subst hb
      refine List.mem_append_right _ (List.mem_map.mpr ⟨a, subs_mem n a (List.pairwise_append.mp hp).1 (fun s hs => ?_), rfl⟩)
      exact (List.pairwise_append.mp hp).2.2 s hs n (List.mem_cons_self ..)
    · refine List.mem_append_left _ (subs_mem n F hp fun s hs => ?_)
      have h1 := h s hs
      have : s ≠ n := fun e => hn (e ▸ hs)
      omega
theorem least_is {w : Wd} (g : GoodW w) {F : List Nat} {P : Nat → Nat} (B : BestW w F P) : minD [.lst ((subsN w.ss.length).map fun ch => D.int (costS w ch))] = some (.int (costS w F)) := by
  have e : ((subsN w.ss.length).map fun ch => D.int (costS w ch)) = ((subsN w.ss.length).map (costN w)).map natD := by
    rw [List.map_map]
    refine List.map_congr_left fun ch _ => ?_
    rw [cost_cast]
    rfl
  rw [e, cost_cast]
  refine min_nats (List.mem_map.mpr ⟨F, subs_mem _ F B.rise B.lt, rfl⟩) fun x hx => ?_
  obtain ⟨ch, hc, rfl⟩ := List.mem_map.mp hx
  exact cost_le g B (subs_lt _ ch hc).1
end Gd
namespace Gd
open PySem PySem.Spec L2 Iv Tr Kp PyProof.Rows
theorem isRt_red {n d : Int} (hd : 0 < d) : isRt (rtD (redR n d)) = true := by
  have hg := gcd_pos (n := n) hd
  have hp := (red_bound (n := n) hd).1
  obtain ⟨u, hu⟩ : ∃ u : Int, n = u * ((Nat.gcd n.natAbs d.natAbs : Nat) : Int) := by
    have : ((Nat.gcd n.natAbs d.natAbs : Nat) : Int) ∣ n := Int.ofNat_dvd_left.mpr (Nat.gcd_dvd_left _ _)
    obtain ⟨u, hu⟩ := this
    exact ⟨u, by rw [Int.mul_comm]; exact hu⟩
  obtain ⟨v, hv⟩ : ∃ v : Int, d = v * ((Nat.gcd n.natAbs d.natAbs : Nat) : Int) := by
    have : ((Nat.gcd n.natAbs d.natAbs : Nat) : Int) ∣ d := Int.ofNat_dvd_left.mpr (Nat.gcd_dvd_right _ _)
    obtain ⟨u, hu⟩ := this
    exact ⟨u, by rw [Int.mul_comm]; exact hu⟩
  generalize hG : Nat.gcd n.natAbs d.natAbs = G at hu hv hg
  have e1 : n / (G : Int) = u := by rw [hu]; exact Int.mul_ediv_cancel _ (by omega)
  have e2 : d / (G : Int) = v := by rw [hv]; exact Int.mul_ediv_cancel _ (by omega)
  have er : redR n d = (u, v) := by unfold redR; rw [hG, e1, e2]
  rw [er] at hp ⊢
  have hgcd : Nat.gcd u.natAbs v.natAbs = 1 := by
    have h1 : Nat.gcd (u.natAbs * G) (v.natAbs * G) = G := by
      have h2 : n.natAbs = u.natAbs * G := by rw [hu, Int.natAbs_mul]; rfl
      have h3 : d.natAbs = v.natAbs * G := by rw [hv, Int.natAbs_mul]; rfl
      rw [← h2, ← h3]
      exact hG
    rw [Nat.gcd_mul_right] at h1
    exact Nat.eq_of_mul_eq_mul_right hg (by rw [h1, Nat.one_mul])
  have hp' : 0 < v := hp
  unfold isRt rtD
  simp [hgcd]
  omega
theorem num_2 {a b : Int} (ha : a.natAbs < 10 ^ 19) (hb : b.natAbs < 10 ^ 19) : (rtD (a, b)).num = true := by
  unfold rtD
  simp only [D.num, D.numL, Bool.and_true, Bool.and_eq_true, decide_eq_true_eq]
  omega
theorem cost_small {w : Wd} (g : GoodW w) {F : List Nat} {P : Nat → Nat} (B : BestW w F P) : 0 ≤ costS w F ∧ costS w F ≤ 119988 := by
  rw [cost_cast, B.cost]
  have h : ∀ l : List Nat, (l.map P).sum ≤ l.length * 9999 := fun l => by
    induction l with
    | nil => simp
    | cons x l ih =>
      have := fee_le g B x
      rw [List.map_cons, List.sum_cons, List.length_cons]
      omega
  have h1 := h (List.range w.cs.length)
  rw [List.length_range] at h1
  have := g.nc
  omega
theorem pr_small {a d : Int} (h1 : 0 < d) (h2 : d.natAbs ≤ 10 ^ 20) (h3 : a.natAbs ≤ 10 ^ 20) : PR (a, d) := by
  have k : (10 : Nat) ^ 20 < 2 ^ 1000 := by decide +kernel
  exact ⟨h1, Nat.lt_of_le_of_lt h3 k, Nat.lt_of_le_of_lt h2 k⟩
theorem num_r {r : Int × Int} (ha : r.1.natAbs < 10 ^ 19) (hb : r.2.natAbs < 10 ^ 19) : (rtD r).num = true := num_2 ha hb
theorem ne_rt (a b : Int × Int) : neD (rtD a) (rtD b) = some (.bl (!decide (a = b))) := by
  have h := eq_rt a b
  unfold eqD at h
  unfold neD
  split at h
  · next q =>
    rw [if_pos q]
    have h2 : PyData.eqv (rtD a).p (rtD b).p = decide (a = b) := by
      injection h with h
      injection h
    rw [h2]
  · cases h
theorem near_ok {c d e : Int} (h0 : 0 ≤ c) (h1 : c ≤ 119988) (d0 : 0 < d) (d1 : d ≤ 999) (he : e = 1 ∨ e = -1) : isRt (rtD (plusR (c, 1) (e, d))) = true ∧ (rtD (plusR (c, 1) (e, d))).num = true := by
  unfold plusR
  have m0 : 0 ≤ c * d := Int.mul_nonneg h0 (by omega)
  have m1 : c * d ≤ 119988 * 999 := Int.mul_le_mul h1 d1 (by omega) (by omega)
  have pos : 0 < (1 : Int) * d := by omega
  obtain ⟨r1, r2, r3⟩ := red_bound (n := c * d + e * 1) pos
  refine ⟨isRt_red pos, num_r ?_ ?_⟩
  · have : (c * d + e * 1).natAbs ≤ 119988 * 999 + 1 := by rcases he with rfl | rfl <;> omega
    show (redR (c * d + e * 1) (1 * d)).1.natAbs < _
    omega
  · show (redR (c * d + e * 1) (1 * d)).2.natAbs < _
    omega
end Gd
set_option Elab.async false
set_option linter.all false
set_option maxRecDepth 100000
set_option maxHeartbeats 0
namespace K41
open PySem PySem.Spec PyProof.Rows L2 Iv
def top (i : Nat) : Stmt := PySem.Challenge.pw_treeposts_k41_whole_least_costs_that_pro.main.body.getD i (.Pass ⟨0, 0, 0, 0⟩)
def b_is_integer : List S := [(.ret (.ex (.and (.prim (.isinst ["int"]) [(.ex (.var 0))]) (.not (.prim (.isinst ["bool"]) [(.ex (.var 0))])))))]
def d_is_integer : DefI := ⟨⟨"is_integer", ["value"], ["value"], false, b_is_integer⟩, [], defArgs (top 6), defBody (top 6), defScope (top 6), false⟩
def b_is_within : List S := [(.ret (.ex (.and (.call "is_integer" [(.ex (.var 0))] []) (.chain .le .le (.var 1) (.var 0) (.var 2)))))]
def d_is_within : DefI := ⟨⟨"is_within", ["value", "low", "high"], ["value", "low", "high"], false, b_is_within⟩, [], defArgs (top 7), defBody (top 7), defScope (top 7), false⟩
def b_is_row : List S := [(.ret (.ex (.and (.prim (.isinst ["tuple"]) [(.ex (.var 0))]) (.prim .eq [(.ex (.prim .len [(.ex (.var 0))])), (.ex (.var 1))]))))]
def d_is_row : DefI := ⟨⟨"is_row", ["value", "many"], ["value", "many"], false, b_is_row⟩, [], defArgs (top 8), defBody (top 8), defScope (top 8), false⟩
def e_is_rising_0 : E := (.prim .lt [(.ex (.var 1)), (.ex (.var 2))])
def b_is_rising : List S := [(.ret (.ex (.prim .all [(.ex (.ofL (.comp [1, 2] (.tup [(.nm 1), (.nm 2)]) (.zip (.var 0) (.prim (.slc true false) [(.ex (.var 0)), (.ex (.cst (.int 1)))])) none e_is_rising_0)))])))]
def d_is_rising : DefI := ⟨⟨"is_rising", ["values"], ["values", "near", "far"], false, b_is_rising⟩, [], defArgs (top 9), defBody (top 9), defScope (top 9), false⟩
def e_are_places_of_0 : E := (.call "is_within" [(.ex (.var 2)), (.ex (.cst (.int 0))), (.ex (.prim .sub [(.ex (.var 1)), (.ex (.cst (.int 1)))]))] [])
def b_are_places_of : List S := [(.ifs (.or (.not (.prim (.isinst ["tuple"]) [(.ex (.var 0))])) (.not (.prim .all [(.ex (.ofL (.comp [2] (.nm 2) (.seq (.var 0)) none e_are_places_of_0)))]))) [(.ret (.ex (.cst (.bl false))))] []), (.ret (.ex (.call "is_rising" [(.ex (.var 0))] [])))]
def d_are_places_of : DefI := ⟨⟨"are_places_of", ["value", "many"], ["value", "many", "one"], false, b_are_places_of⟩, [], defArgs (top 10), defBody (top 10), defScope (top 10), false⟩
def k_columns_of_0 : E := (.tup [(.prim .neg [(.ex (.prim .idx [(.ex (.var 0)), (.ex (.prim .idx [(.ex (.prim .idx [(.ex (.var 1)), (.ex (.var 2))])), (.ex (.cst (.int 0)))]))]))]), (.var 2)])
def b_columns_of : List S := [(.ret (.ex (.ofL (.skey 2 (.lrng (.prim .len [(.ex (.var 1))])) k_columns_of_0))))]
def d_columns_of : DefI := ⟨⟨"columns_of", ["tree_depths", "sites"], ["tree_depths", "sites", "site"], false, b_columns_of⟩, [], defArgs (top 12), defBody (top 12), defScope (top 12), true⟩
def e_row_key_0 : E := (.ite (.prim .isin [(.ex (.var 2)), (.ex (.var 0))]) (.cst (.int 1)) (.cst (.int 0)))
def b_row_key : List S := [(.ret (.ex (.prim .tuple [(.ex (.ofL (.comp [2] (.nm 2) (.rngd (.prim .sub [(.ex (.var 1)), (.ex (.cst (.int 1)))]) (.prim .neg [(.ex (.cst (.int 1)))])) none e_row_key_0)))])))]
def d_row_key : DefI := ⟨⟨"row_key", ["columns", "many"], ["columns", "many", "column"], false, b_row_key⟩, [], defArgs (top 13), defBody (top 13), defScope (top 13), false⟩
def e_raised_0 : E := (.cst (.int 0))
def k_raised_1 : E := (.tup [(.call "row_key" [(.ex (.prim .idx [(.ex (.prim .idx [(.ex (.var 0)), (.ex (.var 9))])), (.ex (.cst (.int 0)))])), (.ex (.prim .len [(.ex (.var 1))]))] []), (.var 9)])
def e_raised_2 : E := (.prim .idx [(.sl 3), (.ex (.var 5))])
def l_raised_3 : List S := [(.augs .sub 3 (.var 5) (.prim .idx [(.sl 4), (.ex (.var 2))]))]
def l_raised_4 : List S := [(.asg (.tup [(.nm 6), (.nm 7)]) (.prim .idx [(.ex (.var 0)), (.ex (.var 2))])), (.asg (.sub 4 (.var 2)) (.prim .min [(.ex (.prim .add [(.ex (.ofL (.disp [(.var 7)]))), (.ex (.ofL (.comp [5] (.nm 5) (.seq (.var 6)) none e_raised_2)))]))])), (.forr (.nm 5) (.seq (.var 6)) l_raised_3)]
def b_raised : List S := [(.asgm [3, 4] [(.fr (.prim .list [(.ex (.var 1))])), (.fr (.comp [8] (.nm 8) (.seq (.var 0)) none e_raised_0))]), (.forr (.nm 2) (.seq (.ofL (.skey 9 (.lrng (.prim .len [(.ex (.var 0))])) k_raised_1))) l_raised_4), (.frz 4), (.frz 3), (.ret (.ex (.tup [(.var 4), (.var 3)])))]
def d_raised : DefI := ⟨⟨"raised", ["rows", "costs"], ["rows", "costs", "at", "left", "prices", "column", "columns", "bound", "row", "number"], false, b_raised⟩, [], defArgs (top 14), defBody (top 14), defScope (top 14), true⟩
def e_opened_0 : E := (.cst (.bl false))
def q_opened_1 : E := (.and (.prim .gt [(.ex (.prim .idx [(.ex (.var 1)), (.ex (.var 7))])), (.ex (.cst (.int 0)))]) (.prim .isin [(.ex (.var 3)), (.ex (.prim .idx [(.ex (.var 8)), (.ex (.cst (.int 0)))]))]))
def e_opened_2 : E := (.var 7)
def e_opened_3 : E := (.prim .idx [(.sl 5), (.ex (.var 7))])
def l_opened_4 : List S := [(.asg (.sub 5 (.var 7)) (.cst (.bl true)))]
def l_opened_5 : List S := [(.asg (.nm 6) (.ofL (.comp [7, 8] (.tup [(.nm 7), (.nm 8)]) (.enum (.var 0)) (some q_opened_1) e_opened_2))), (.ifs (.and (.prim .eq [(.ex (.prim .idx [(.ex (.var 2)), (.ex (.var 3))])), (.ex (.cst (.int 0)))]) (.not (.prim .any [(.ex (.ofL (.comp [7] (.nm 7) (.seq (.var 6)) none e_opened_3)))]))) [(.mt .append 4 [(.var 3)]), (.forr (.nm 7) (.seq (.var 6)) l_opened_4)] [])]
def b_opened : List S := [(.asgm [4, 5] [(.fr (.disp [])), (.fr (.comp [8] (.nm 8) (.seq (.var 0)) none e_opened_0))]), (.forr (.nm 3) (.rngd (.prim .sub [(.ex (.prim .len [(.ex (.var 2))])), (.ex (.cst (.int 1)))]) (.prim .neg [(.ex (.cst (.int 1)))])) l_opened_5), (.ret (.ex (.prim .sorted [(.sl 4)])))]
def d_opened : DefI := ⟨⟨"opened", ["rows", "prices", "left"], ["rows", "prices", "left", "column", "found", "taken", "some", "at", "row"], false, b_opened⟩, [], defArgs (top 15), defBody (top 15), defScope (top 15), false⟩
def b_best_of_rows : List S := [(.asg (.tup [(.nm 2), (.nm 3)]) (.call "raised" [(.ex (.var 0)), (.ex (.var 1))] [])), (.ret (.ex (.tup [(.call "opened" [(.ex (.var 0)), (.ex (.var 2)), (.ex (.var 3))] []), (.var 2)])))]
def d_best_of_rows : DefI := ⟨⟨"best_of_rows", ["rows", "costs"], ["rows", "costs", "prices", "left"], false, b_best_of_rows⟩, [], defArgs (top 16), defBody (top 16), defScope (top 16), false⟩
def b_fraction : List S := [(.ifs (.prim .lt [(.ex (.var 1)), (.ex (.cst (.int 0)))]) [(.par 0 1 (.ex (.prim .neg [(.ex (.var 0))])) (.ex (.prim .neg [(.ex (.var 1))])))] []), (.asg (.nm 2) (.prim .gcd [(.ex (.var 0)), (.ex (.var 1))])), (.ret (.ex (.tup [(.prim .fdiv [(.ex (.var 0)), (.ex (.var 2))]), (.prim .fdiv [(.ex (.var 1)), (.ex (.var 2))])])))]
def d_fraction : DefI := ⟨⟨"fraction", ["number", "under"], ["number", "under", "divisor"], false, b_fraction⟩, [], defArgs (top 20), defBody (top 20), defScope (top 20), false⟩
def b_whole : List S := [(.ret (.ex (.tup [(.var 0), (.cst (.int 1))])))]
def d_whole : DefI := ⟨⟨"whole", ["number"], ["number"], false, b_whole⟩, [], defArgs (top 21), defBody (top 21), defScope (top 21), false⟩
def b_plus : List S := [(.ret (.ex (.call "fraction" [(.ex (.prim .add [(.ex (.prim .mul [(.ex (.prim .idx [(.ex (.var 0)), (.ex (.cst (.int 0)))])), (.ex (.prim .idx [(.ex (.var 1)), (.ex (.cst (.int 1)))]))])), (.ex (.prim .mul [(.ex (.prim .idx [(.ex (.var 1)), (.ex (.cst (.int 0)))])), (.ex (.prim .idx [(.ex (.var 0)), (.ex (.cst (.int 1)))]))]))])), (.ex (.prim .mul [(.ex (.prim .idx [(.ex (.var 0)), (.ex (.cst (.int 1)))])), (.ex (.prim .idx [(.ex (.var 1)), (.ex (.cst (.int 1)))]))]))] [])))]
def d_plus : DefI := ⟨⟨"plus", ["near", "far"], ["near", "far"], false, b_plus⟩, [], defArgs (top 22), defBody (top 22), defScope (top 22), false⟩
def b_is_less : List S := [(.ret (.ex (.prim .lt [(.ex (.prim .mul [(.ex (.prim .idx [(.ex (.var 0)), (.ex (.cst (.int 0)))])), (.ex (.prim .idx [(.ex (.var 1)), (.ex (.cst (.int 1)))]))])), (.ex (.prim .mul [(.ex (.prim .idx [(.ex (.var 1)), (.ex (.cst (.int 0)))])), (.ex (.prim .idx [(.ex (.var 0)), (.ex (.cst (.int 1)))]))]))])))]
def d_is_less : DefI := ⟨⟨"is_less", ["near", "far"], ["near", "far"], false, b_is_less⟩, [], defArgs (top 23), defBody (top 23), defScope (top 23), false⟩
def l_total_0 : List S := [(.asg (.nm 1) (.call "plus" [(.ex (.var 1)), (.ex (.var 2))] []))]
def b_total : List S := [(.asg (.nm 1) (.glb "NOUGHT" (.tup [(.int 0), (.int 1)]))), (.forr (.nm 2) (.seq (.var 0)) l_total_0), (.ret (.ex (.var 1)))]
def d_total : DefI := ⟨⟨"total", ["ratios"], ["ratios", "found", "ratio"], false, b_total⟩, [], defArgs (top 24), defBody (top 24), defScope (top 24), false⟩
def b_is_ratio : List S := [(.ifs (.or (.not (.call "is_row" [(.ex (.var 0)), (.ex (.cst (.int 2)))] [])) (.or (.not (.call "is_integer" [(.ex (.prim .idx [(.ex (.var 0)), (.ex (.cst (.int 0)))]))] [])) (.or (.not (.call "is_integer" [(.ex (.prim .idx [(.ex (.var 0)), (.ex (.cst (.int 1)))]))] [])) (.prim .lt [(.ex (.prim .idx [(.ex (.var 0)), (.ex (.cst (.int 1)))])), (.ex (.cst (.int 1)))])))) [(.ret (.ex (.cst (.bl false))))] []), (.ret (.ex (.and (.prim .lt [(.ex (.prim .abs [(.ex (.prim .idx [(.ex (.var 0)), (.ex (.cst (.int 0)))]))])), (.ex (.glb "LIMIT" (.int 10000000000000000000000000000000000000000000000000000000000000000000000000000000000000000000000000000000000000000000000000000000000000000000000000000000000000000000000000000000000000000000000000000000000000000000000000000000000000000000000000000000000000000000000000000000000000000000000000000000000000000000000000000000000000000000000000000000000000000000000000000000000000000000000000000000000000000)))]) (.and (.prim .lt [(.ex (.prim .idx [(.ex (.var 0)), (.ex (.cst (.int 1)))])), (.ex (.glb "LIMIT" (.int 10000000000000000000000000000000000000000000000000000000000000000000000000000000000000000000000000000000000000000000000000000000000000000000000000000000000000000000000000000000000000000000000000000000000000000000000000000000000000000000000000000000000000000000000000000000000000000000000000000000000000000000000000000000000000000000000000000000000000000000000000000000000000000000000000000000000000000)))]) (.prim .eq [(.ex (.prim .gcd [(.ex (.prim .idx [(.ex (.var 0)), (.ex (.cst (.int 0)))])), (.ex (.prim .idx [(.ex (.var 0)), (.ex (.cst (.int 1)))]))])), (.ex (.cst (.int 1)))])))))]
def d_is_ratio : DefI := ⟨⟨"is_ratio", ["value"], ["value"], false, b_is_ratio⟩, [], defArgs (top 25), defBody (top 25), defScope (top 25), false⟩
def b_is_tie : List S := [(.ret (.ex (.and (.call "is_row" [(.ex (.var 0)), (.ex (.cst (.int 2)))] []) (.and (.call "is_within" [(.ex (.prim .idx [(.ex (.var 0)), (.ex (.cst (.int 0)))])), (.ex (.cst (.int 0))), (.ex (.var 1))] []) (.call "is_within" [(.ex (.prim .idx [(.ex (.var 0)), (.ex (.cst (.int 1)))])), (.ex (.cst (.int 1))), (.ex (.glb "MOST_LENGTH" (.int 999)))] [])))))]
def d_is_tie : DefI := ⟨⟨"is_tie", ["value", "number"], ["value", "number"], false, b_is_tie⟩, [], defArgs (top 29), defBody (top 29), defScope (top 29), false⟩
def e_is_tree_0 : E := (.call "is_tie" [(.ex (.var 2)), (.ex (.var 1))] [])
def b_is_tree : List S := [(.ifs (.or (.not (.call "is_row" [(.ex (.var 0)), (.ex (.cst (.int 2)))] [])) (.or (.not (.prim (.isinst ["str"]) [(.ex (.prim .idx [(.ex (.var 0)), (.ex (.cst (.int 0)))]))])) (.prim .ne [(.ex (.prim .idx [(.ex (.var 0)), (.ex (.cst (.int 0)))])), (.ex (.cst (.str "tree")))]))) [(.ret (.ex (.cst (.bl false))))] []), (.ifs (.or (.not (.prim (.isinst ["tuple"]) [(.ex (.prim .idx [(.ex (.var 0)), (.ex (.cst (.int 1)))]))])) (.prim .ge [(.ex (.prim .len [(.ex (.prim .idx [(.ex (.var 0)), (.ex (.cst (.int 1)))]))])), (.ex (.glb "MOST_PLACES" (.int 24)))])) [(.ret (.ex (.cst (.bl false))))] []), (.ret (.ex (.prim .all [(.ex (.ofL (.comp [1, 2] (.tup [(.nm 1), (.nm 2)]) (.enum (.prim .idx [(.ex (.var 0)), (.ex (.cst (.int 1)))])) none e_is_tree_0)))])))]
def d_is_tree : DefI := ⟨⟨"is_tree", ["value"], ["value", "number", "tie"], false, b_is_tree⟩, [], defArgs (top 30), defBody (top 30), defScope (top 30), false⟩
def b_place_count : List S := [(.ret (.ex (.prim .add [(.ex (.prim .len [(.ex (.prim .idx [(.ex (.var 0)), (.ex (.cst (.int 1)))]))])), (.ex (.cst (.int 1)))])))]
def d_place_count : DefI := ⟨⟨"place_count", ["tree"], ["tree"], false, b_place_count⟩, [], defArgs (top 31), defBody (top 31), defScope (top 31), false⟩
def b_father_of : List S := [(.ret (.ex (.prim .idx [(.ex (.prim .idx [(.ex (.prim .idx [(.ex (.var 0)), (.ex (.cst (.int 1)))])), (.ex (.prim .sub [(.ex (.var 1)), (.ex (.cst (.int 1)))]))])), (.ex (.cst (.int 0)))])))]
def d_father_of : DefI := ⟨⟨"father_of", ["tree", "place"], ["tree", "place"], false, b_father_of⟩, [], defArgs (top 32), defBody (top 32), defScope (top 32), false⟩
def w_path_up_0 : E := (.prim .ne [(.ex (.prim .idx [(.sl 2), (.ex (.prim .neg [(.ex (.cst (.int 1)))]))])), (.ex (.cst (.int 0)))])
def l_path_up_1 : List S := [(.mt .append 2 [(.call "father_of" [(.ex (.var 0)), (.ex (.prim .idx [(.sl 2), (.ex (.prim .neg [(.ex (.cst (.int 1)))]))]))] [])])]
def b_path_up : List S := [(.asgo 2 (.disp [(.var 1)])), (.whl w_path_up_0 l_path_up_1), (.ret (.sl 2))]
def d_path_up : DefI := ⟨⟨"path_up", ["tree", "place"], ["tree", "place", "found"], true, b_path_up⟩, [], defArgs (top 33), defBody (top 33), defScope (top 33), false⟩
def l_depths_in_0 : List S := [(.mt .append 1 [(.prim .add [(.ex (.prim .idx [(.sl 1), (.ex (.var 2))])), (.ex (.var 3))])])]
def b_depths_in : List S := [(.asgo 1 (.disp [(.cst (.int 0))])), (.forr (.tup [(.nm 2), (.nm 3)]) (.seq (.prim .idx [(.ex (.var 0)), (.ex (.cst (.int 1)))])) l_depths_in_0), (.ret (.sl 1))]
def d_depths_in : DefI := ⟨⟨"depths_in", ["tree"], ["tree", "found", "father", "length"], false, b_depths_in⟩, [], defArgs (top 34), defBody (top 34), defScope (top 34), false⟩
def w_path_in_0 : E := (.and (.prim .gt [(.ex (.prim .len [(.sl 3)])), (.ex (.cst (.int 1)))]) (.and (.prim .gt [(.ex (.prim .len [(.sl 4)])), (.ex (.cst (.int 1)))]) (.prim .eq [(.ex (.prim .idx [(.sl 3), (.ex (.prim .neg [(.ex (.cst (.int 2)))]))])), (.ex (.prim .idx [(.sl 4), (.ex (.prim .neg [(.ex (.cst (.int 2)))]))]))])))
def l_path_in_1 : List S := [(.mt .pop 3 []), (.mt .pop 4 [])]
def b_path_in : List S := [(.par 3 4 (.fr (.call "path_up" [(.ex (.var 0)), (.ex (.var 1))] [])) (.fr (.call "path_up" [(.ex (.var 0)), (.ex (.var 2))] []))), (.whl w_path_in_0 l_path_in_1), (.ret (.ex (.prim .add [(.sl 3), (.ex (.prim (.slc true false) [(.ex (.prim .rev [(.sl 4)])), (.ex (.cst (.int 1)))]))])))]
def d_path_in : DefI := ⟨⟨"path_in", ["tree", "place", "other"], ["tree", "place", "other", "up", "down"], false, b_path_in⟩, [], defArgs (top 35), defBody (top 35), defScope (top 35), false⟩
def b_top_in : List S := [(.ret (.ex (.prim .min [(.ex (.call "path_in" [(.ex (.var 0)), (.ex (.var 1)), (.ex (.var 2))] []))])))]
def d_top_in : DefI := ⟨⟨"top_in", ["tree", "place", "other"], ["tree", "place", "other"], false, b_top_in⟩, [], defArgs (top 36), defBody (top 36), defScope (top 36), false⟩
def b_way_in : List S := [(.asg (.nm 3) (.call "depths_in" [(.ex (.var 0))] [])), (.ret (.ex (.prim .sub [(.ex (.prim .add [(.ex (.prim .idx [(.ex (.var 3)), (.ex (.var 1))])), (.ex (.prim .idx [(.ex (.var 3)), (.ex (.var 2))]))])), (.ex (.prim .mul [(.ex (.cst (.int 2))), (.ex (.prim .idx [(.ex (.var 3)), (.ex (.call "top_in" [(.ex (.var 0)), (.ex (.var 1)), (.ex (.var 2))] []))]))]))])))]
def d_way_in : DefI := ⟨⟨"way_in", ["tree", "place", "other"], ["tree", "place", "other", "depths"], false, b_way_in⟩, [], defArgs (top 37), defBody (top 37), defScope (top 37), false⟩
def b_is_customer : List S := [(.ifs (.or (.not (.call "is_row" [(.ex (.var 0)), (.ex (.cst (.int 4)))] [])) (.or (.not (.call "is_within" [(.ex (.prim .idx [(.ex (.var 0)), (.ex (.cst (.int 0)))])), (.ex (.cst (.int 0))), (.ex (.prim .sub [(.ex (.var 1)), (.ex (.cst (.int 1)))]))] [])) (.not (.call "is_within" [(.ex (.prim .idx [(.ex (.var 0)), (.ex (.cst (.int 1)))])), (.ex (.cst (.int 0))), (.ex (.glb "MOST_REACH" (.int 9999)))] [])))) [(.ret (.ex (.cst (.bl false))))] []), (.ret (.ex (.and (.call "is_within" [(.ex (.prim .idx [(.ex (.var 0)), (.ex (.cst (.int 2)))])), (.ex (.cst (.int 0))), (.ex (.glb "MOST_RATE" (.int 99)))] []) (.call "is_within" [(.ex (.prim .idx [(.ex (.var 0)), (.ex (.cst (.int 3)))])), (.ex (.cst (.int 0))), (.ex (.glb "MOST_FEE" (.int 9999)))] []))))]
def d_is_customer : DefI := ⟨⟨"is_customer", ["value", "many"], ["value", "many"], false, b_is_customer⟩, [], defArgs (top 45), defBody (top 45), defScope (top 45), false⟩
def b_is_site : List S := [(.ret (.ex (.and (.call "is_row" [(.ex (.var 0)), (.ex (.cst (.int 2)))] []) (.and (.call "is_within" [(.ex (.prim .idx [(.ex (.var 0)), (.ex (.cst (.int 0)))])), (.ex (.cst (.int 0))), (.ex (.prim .sub [(.ex (.var 1)), (.ex (.cst (.int 1)))]))] []) (.call "is_within" [(.ex (.prim .idx [(.ex (.var 0)), (.ex (.cst (.int 1)))])), (.ex (.cst (.int 0))), (.ex (.glb "MOST_COST" (.int 9999)))] [])))))]
def d_is_site : DefI := ⟨⟨"is_site", ["value", "many"], ["value", "many"], false, b_is_site⟩, [], defArgs (top 46), defBody (top 46), defScope (top 46), false⟩
def e_are_sites_0 : E := (.call "is_site" [(.ex (.var 4)), (.ex (.var 1))] [])
def e_are_sites_1 : E := (.var 2)
def b_are_sites : List S := [(.ifs (.or (.not (.prim (.isinst ["tuple"]) [(.ex (.var 0))])) (.or (.prim .gt [(.ex (.prim .len [(.ex (.var 0))])), (.ex (.glb "MOST_SITES" (.int 10)))]) (.not (.prim .all [(.ex (.ofL (.comp [4] (.nm 4) (.seq (.var 0)) none e_are_sites_0)))])))) [(.ret (.ex (.cst (.bl false))))] []), (.ret (.ex (.call "is_rising" [(.ex (.ofL (.comp [2, 3] (.tup [(.nm 2), (.nm 3)]) (.seq (.var 0)) none e_are_sites_1)))] [])))]
def d_are_sites : DefI := ⟨⟨"are_sites", ["value", "many"], ["value", "many", "place", "cost", "one"], false, b_are_sites⟩, [], defArgs (top 47), defBody (top 47), defScope (top 47), false⟩
def e_is_wood_0 : E := (.call "is_customer" [(.ex (.var 2)), (.ex (.var 1))] [])
def b_is_wood : List S := [(.ifs (.or (.not (.call "is_row" [(.ex (.var 0)), (.ex (.cst (.int 4)))] [])) (.or (.not (.prim (.isinst ["str"]) [(.ex (.prim .idx [(.ex (.var 0)), (.ex (.cst (.int 0)))]))])) (.or (.prim .ne [(.ex (.prim .idx [(.ex (.var 0)), (.ex (.cst (.int 0)))])), (.ex (.cst (.str "wood")))]) (.not (.call "is_tree" [(.ex (.prim .idx [(.ex (.var 0)), (.ex (.cst (.int 1)))]))] []))))) [(.ret (.ex (.cst (.bl false))))] []), (.asg (.nm 1) (.call "place_count" [(.ex (.prim .idx [(.ex (.var 0)), (.ex (.cst (.int 1)))]))] [])), (.ifs (.or (.not (.prim (.isinst ["tuple"]) [(.ex (.prim .idx [(.ex (.var 0)), (.ex (.cst (.int 2)))]))])) (.prim .gt [(.ex (.prim .len [(.ex (.prim .idx [(.ex (.var 0)), (.ex (.cst (.int 2)))]))])), (.ex (.glb "MOST_CUSTOMERS" (.int 12)))])) [(.ret (.ex (.cst (.bl false))))] []), (.ret (.ex (.and (.prim .all [(.ex (.ofL (.comp [2] (.nm 2) (.seq (.prim .idx [(.ex (.var 0)), (.ex (.cst (.int 2)))])) none e_is_wood_0)))]) (.call "are_sites" [(.ex (.prim .idx [(.ex (.var 0)), (.ex (.cst (.int 3)))])), (.ex (.var 1))] []))))]
def d_is_wood : DefI := ⟨⟨"is_wood", ["value"], ["value", "many", "one"], false, b_is_wood⟩, [], defArgs (top 48), defBody (top 48), defScope (top 48), false⟩
def b_want_wood : List S := [(.ifs (.not (.call "is_wood" [(.ex (.var 0))] [])) [.never] []), (.ret (.ex (.var 0)))]
def d_want_wood : DefI := ⟨⟨"want_wood", ["value"], ["value"], false, b_want_wood⟩, [], defArgs (top 49), defBody (top 49), defScope (top 49), false⟩
def b_does_reach : List S := [(.asg (.tup [(.nm 3), (.nm 4), (.nm 5), (.nm 6)]) (.prim .idx [(.ex (.prim .idx [(.ex (.var 0)), (.ex (.cst (.int 2)))])), (.ex (.var 2))])), (.ret (.ex (.prim .le [(.ex (.call "way_in" [(.ex (.prim .idx [(.ex (.var 0)), (.ex (.cst (.int 1)))])), (.ex (.var 3)), (.ex (.prim .idx [(.ex (.prim .idx [(.ex (.prim .idx [(.ex (.var 0)), (.ex (.cst (.int 3)))])), (.ex (.var 1))])), (.ex (.cst (.int 0)))]))] [])), (.ex (.var 4))])))]
def d_does_reach : DefI := ⟨⟨"does_reach", ["wood", "site", "customer"], ["wood", "site", "customer", "place", "reach", "rate", "fee"], false, b_does_reach⟩, [], defArgs (top 50), defBody (top 50), defScope (top 50), false⟩
def q_reached_by_0 : E := (.call "does_reach" [(.ex (.var 0)), (.ex (.var 1)), (.ex (.var 2))] [])
def e_reached_by_1 : E := (.var 2)
def b_reached_by : List S := [(.ret (.ex (.ofL (.comp [2] (.nm 2) (.rng (.prim .len [(.ex (.prim .idx [(.ex (.var 0)), (.ex (.cst (.int 2)))]))])) (some q_reached_by_0) e_reached_by_1))))]
def d_reached_by : DefI := ⟨⟨"reached_by", ["wood", "site"], ["wood", "site", "customer"], false, b_reached_by⟩, [], defArgs (top 51), defBody (top 51), defScope (top 51), false⟩
def b_is_open_of : List S := [(.ret (.ex (.call "are_places_of" [(.ex (.var 1)), (.ex (.prim .len [(.ex (.prim .idx [(.ex (.var 0)), (.ex (.cst (.int 3)))]))]))] [])))]
def d_is_open_of : DefI := ⟨⟨"is_open_of", ["wood", "value"], ["wood", "value"], false, b_is_open_of⟩, [], defArgs (top 53), defBody (top 53), defScope (top 53), false⟩
def e_is_prices_of_0 : E := (.call "is_ratio" [(.ex (.var 2))] [])
def b_is_prices_of : List S := [(.ret (.ex (.and (.call "is_row" [(.ex (.var 1)), (.ex (.prim .len [(.ex (.prim .idx [(.ex (.var 0)), (.ex (.cst (.int 2)))]))]))] []) (.prim .all [(.ex (.ofL (.comp [2] (.nm 2) (.seq (.var 1)) none e_is_prices_of_0)))]))))]
def d_is_prices_of : DefI := ⟨⟨"is_prices_of", ["wood", "value"], ["wood", "value", "price"], false, b_is_prices_of⟩, [], defArgs (top 54), defBody (top 54), defScope (top 54), false⟩
def i_reach_in_0 : Iv.It := (.seq (.var 1))
def i_reach_in_1 : Iv.It := (.seq (.call "reached_by" [(.ex (.var 0)), (.ex (.var 2))] []))
def e_reach_in_2 : E := (.var 3)
def b_reach_in : List S := [(.ret (.ex (.ofL (.sset [2, 3] [3] (.nm 2) i_reach_in_0 (.nm 3) i_reach_in_1 e_reach_in_2))))]
def d_reach_in : DefI := ⟨⟨"reach_in", ["wood", "chosen"], ["wood", "chosen", "site", "customer"], false, b_reach_in⟩, [], defArgs (top 55), defBody (top 55), defScope (top 55), false⟩
def q_left_in_0 : E := (.prim .notin [(.ex (.var 3)), (.ex (.var 2))])
def e_left_in_1 : E := (.var 3)
def b_left_in : List S := [(.asg (.nm 2) (.call "reach_in" [(.ex (.var 0)), (.ex (.var 1))] [])), (.ret (.ex (.ofL (.comp [3] (.nm 3) (.rng (.prim .len [(.ex (.prim .idx [(.ex (.var 0)), (.ex (.cst (.int 2)))]))])) (some q_left_in_0) e_left_in_1))))]
def d_left_in : DefI := ⟨⟨"left_in", ["wood", "chosen"], ["wood", "chosen", "found", "customer"], false, b_left_in⟩, [], defArgs (top 56), defBody (top 56), defScope (top 56), false⟩
def e_cost_in_0 : E := (.prim .idx [(.ex (.prim .idx [(.ex (.prim .idx [(.ex (.var 0)), (.ex (.cst (.int 2)))])), (.ex (.var 3))])), (.ex (.cst (.int 3)))])
def e_cost_in_1 : E := (.prim .idx [(.ex (.prim .idx [(.ex (.prim .idx [(.ex (.var 0)), (.ex (.cst (.int 3)))])), (.ex (.var 4))])), (.ex (.cst (.int 1)))])
def b_cost_in : List S := [(.asg (.nm 2) (.ofL (.comp [3] (.nm 3) (.seq (.call "left_in" [(.ex (.var 0)), (.ex (.var 1))] [])) none e_cost_in_0))), (.ret (.ex (.prim .add [(.ex (.prim .sum [(.ex (.ofL (.comp [4] (.nm 4) (.seq (.var 1)) none e_cost_in_1)))])), (.ex (.prim .sum [(.ex (.var 2))]))])))]
def d_cost_in : DefI := ⟨⟨"cost_in", ["wood", "chosen"], ["wood", "chosen", "fees", "customer", "site"], false, b_cost_in⟩, [], defArgs (top 57), defBody (top 57), defScope (top 57), false⟩
def e_earned_in_0 : E := (.prim .idx [(.ex (.var 2)), (.ex (.var 3))])
def b_earned_in : List S := [(.ret (.ex (.call "total" [(.ex (.ofL (.comp [3] (.nm 3) (.seq (.call "reached_by" [(.ex (.var 0)), (.ex (.var 1))] [])) none e_earned_in_0)))] [])))]
def d_earned_in : DefI := ⟨⟨"earned_in", ["wood", "site", "prices"], ["wood", "site", "prices", "customer"], false, b_earned_in⟩, [], defArgs (top 58), defBody (top 58), defScope (top 58), false⟩
def l_is_sound_in_0 : List S := [(.ifs (.or (.prim .lt [(.ex (.prim .idx [(.ex (.var 3)), (.ex (.cst (.int 0)))])), (.ex (.cst (.int 0)))]) (.call "is_less" [(.ex (.call "whole" [(.ex (.prim .idx [(.ex (.var 2)), (.ex (.cst (.int 3)))]))] [])), (.ex (.var 3))] [])) [(.ret (.ex (.cst (.bl false))))] [])]
def e_is_sound_in_1 : E := (.call "is_less" [(.ex (.call "whole" [(.ex (.prim .idx [(.ex (.var 5)), (.ex (.cst (.int 1)))]))] [])), (.ex (.call "earned_in" [(.ex (.var 0)), (.ex (.var 4)), (.ex (.var 1))] []))] [])
def b_is_sound_in : List S := [(.forr (.tup [(.nm 2), (.nm 3)]) (.zip (.prim .idx [(.ex (.var 0)), (.ex (.cst (.int 2)))]) (.var 1)) l_is_sound_in_0), (.ret (.ex (.not (.prim .any [(.ex (.ofL (.comp [4, 5] (.tup [(.nm 4), (.nm 5)]) (.enum (.prim .idx [(.ex (.var 0)), (.ex (.cst (.int 3)))])) none e_is_sound_in_1)))]))))]
def d_is_sound_in : DefI := ⟨⟨"is_sound_in", ["wood", "prices"], ["wood", "prices", "customer", "price", "at", "site"], false, b_is_sound_in⟩, [], defArgs (top 59), defBody (top 59), defScope (top 59), false⟩
def b_are_sound_in : List S := [(.ret (.ex (.and (.call "is_prices_of" [(.ex (.var 0)), (.ex (.var 1))] []) (.call "is_sound_in" [(.ex (.var 0)), (.ex (.var 1))] []))))]
def d_are_sound_in : DefI := ⟨⟨"are_sound_in", ["wood", "value"], ["wood", "value"], false, b_are_sound_in⟩, [], defArgs (top 60), defBody (top 60), defScope (top 60), false⟩
def e_best_in_0 : E := (.call "reached_by" [(.ex (.var 0)), (.ex (.var 9))] [])
def q_best_in_1 : E := (.prim .isin [(.ex (.var 5)), (.ex (.var 12))])
def e_best_in_2 : E := (.var 10)
def l_best_in_3 : List S := [(.mt .append 3 [(.tup [(.ofL (.comp [10, 12] (.tup [(.nm 10), (.nm 12)]) (.enum (.var 2)) (some q_best_in_1) e_best_in_2)), (.prim .idx [(.ex (.var 6)), (.ex (.cst (.int 3)))])])])]
def e_best_in_4 : E := (.prim .idx [(.ex (.prim .idx [(.ex (.prim .idx [(.ex (.var 0)), (.ex (.cst (.int 3)))])), (.ex (.var 9))])), (.ex (.cst (.int 1)))])
def e_best_in_5 : E := (.prim .idx [(.ex (.var 1)), (.ex (.var 10))])
def e_best_in_6 : E := (.call "whole" [(.ex (.var 11))] [])
def b_best_in : List S := [(.asg (.nm 1) (.call "columns_of" [(.ex (.call "depths_in" [(.ex (.prim .idx [(.ex (.var 0)), (.ex (.cst (.int 1)))]))] [])), (.ex (.prim .idx [(.ex (.var 0)), (.ex (.cst (.int 3)))]))] [])), (.asg (.nm 2) (.ofL (.comp [9] (.nm 9) (.seq (.var 1)) none e_best_in_0))), (.asgo 3 (.disp [])), (.forr (.tup [(.nm 5), (.nm 6)]) (.enum (.prim .idx [(.ex (.var 0)), (.ex (.cst (.int 2)))])) l_best_in_3), (.frz 3), (.asg (.tup [(.nm 7), (.nm 8)]) (.call "best_of_rows" [(.ex (.var 3)), (.ex (.ofL (.comp [9] (.nm 9) (.seq (.var 1)) none e_best_in_4)))] [])), (.asg (.nm 4) (.prim .tuple [(.ex (.prim .sorted [(.ex (.ofL (.comp [10] (.nm 10) (.seq (.var 7)) none e_best_in_5)))]))])), (.ret (.ex (.tup [(.call "cost_in" [(.ex (.var 0)), (.ex (.var 4))] []), (.var 4), (.prim .tuple [(.ex (.ofL (.comp [11] (.nm 11) (.seq (.var 8)) none e_best_in_6)))])])))]
def d_best_in : DefI := ⟨⟨"best_in", ["wood"], ["wood", "order", "columns", "rows", "found", "customer", "told", "chosen", "prices", "site", "at", "price", "column"], false, b_best_in⟩, [], defArgs (top 64), defBody (top 64), defScope (top 64), false⟩
def b_least_in : List S := [(.ret (.ex (.prim .idx [(.ex (.call "best_in" [(.ex (.var 0))] [])), (.ex (.cst (.int 0)))])))]
def d_least_in : DefI := ⟨⟨"least_in", ["wood"], ["wood"], false, b_least_in⟩, [], defArgs (top 65), defBody (top 65), defScope (top 65), false⟩
def b_is_best_in : List S := [(.ifs (.or (.not (.call "is_row" [(.ex (.var 1)), (.ex (.cst (.int 2)))] [])) (.or (.not (.call "is_open_of" [(.ex (.var 0)), (.ex (.prim .idx [(.ex (.var 1)), (.ex (.cst (.int 0)))]))] [])) (.not (.call "are_sound_in" [(.ex (.var 0)), (.ex (.prim .idx [(.ex (.var 1)), (.ex (.cst (.int 1)))]))] [])))) [(.ret (.ex (.cst (.bl false))))] []), (.ret (.ex (.prim .eq [(.ex (.call "whole" [(.ex (.call "cost_in" [(.ex (.var 0)), (.ex (.prim .idx [(.ex (.var 1)), (.ex (.cst (.int 0)))]))] []))] [])), (.ex (.call "total" [(.ex (.prim .idx [(.ex (.var 1)), (.ex (.cst (.int 1)))]))] []))])))]
def d_is_best_in : DefI := ⟨⟨"is_best_in", ["wood", "value"], ["wood", "value"], false, b_is_best_in⟩, [], defArgs (top 66), defBody (top 66), defScope (top 66), false⟩
def b_want_budget : List S := [(.ifs (.not (.call "is_ratio" [(.ex (.var 0))] [])) [.never] []), (.ret (.ex (.var 0)))]
def d_want_budget : DefI := ⟨⟨"want_budget", ["value"], ["value"], false, b_want_budget⟩, [], defArgs (top 67), defBody (top 67), defScope (top 67), false⟩
def b_least_cost : List S := [(.ret (.ex (.call "least_in" [(.ex (.call "want_wood" [(.ex (.var 0))] []))] [])))]
def d_least_cost : DefI := ⟨⟨"least_cost", ["wood"], ["wood"], false, b_least_cost⟩, [], defArgs (top 68), defBody (top 68), defScope (top 68), false⟩
def b_best_paper : List S := [(.ret (.ex (.prim (.slc true false) [(.ex (.call "best_in" [(.ex (.call "want_wood" [(.ex (.var 0))] []))] [])), (.ex (.cst (.int 1)))])))]
def d_best_paper : DefI := ⟨⟨"best_paper", ["wood"], ["wood"], false, b_best_paper⟩, [], defArgs (top 69), defBody (top 69), defScope (top 69), false⟩
def b_is_best_paper : List S := [(.ret (.ex (.call "is_best_in" [(.ex (.call "want_wood" [(.ex (.var 0))] [])), (.ex (.var 1))] [])))]
def d_is_best_paper : DefI := ⟨⟨"is_best_paper", ["wood", "value"], ["wood", "value"], false, b_is_best_paper⟩, [], defArgs (top 70), defBody (top 70), defScope (top 70), false⟩
def b_budget_paper : List S := [(.expr (.call "want_wood" [(.ex (.var 0))] [])), (.asg (.tup [(.nm 2), (.nm 3), (.nm 4)]) (.call "best_in" [(.ex (.var 0))] [])), (.ifs (.call "is_less" [(.ex (.call "want_budget" [(.ex (.var 1))] [])), (.ex (.call "whole" [(.ex (.var 2))] []))] []) [(.ret (.ex (.tup [(.glb "PRICES" (.str "prices")), (.var 4)])))] []), (.ret (.ex (.tup [(.glb "OPEN" (.str "open")), (.var 3)])))]
def d_budget_paper : DefI := ⟨⟨"budget_paper", ["wood", "budget"], ["wood", "budget", "least", "chosen", "prices"], false, b_budget_paper⟩, [], defArgs (top 71), defBody (top 71), defScope (top 71), false⟩
def b_is_budget_paper : List S := [(.expr (.call "want_wood" [(.ex (.var 0))] [])), (.expr (.call "want_budget" [(.ex (.var 1))] [])), (.ifs (.or (.not (.call "is_row" [(.ex (.var 2)), (.ex (.cst (.int 2)))] [])) (.not (.prim (.isinst ["str"]) [(.ex (.prim .idx [(.ex (.var 2)), (.ex (.cst (.int 0)))]))]))) [(.ret (.ex (.cst (.bl false))))] []), (.ifs (.prim .eq [(.ex (.prim .idx [(.ex (.var 2)), (.ex (.cst (.int 0)))])), (.ex (.glb "OPEN" (.str "open")))]) [(.ret (.ex (.and (.call "is_open_of" [(.ex (.var 0)), (.ex (.prim .idx [(.ex (.var 2)), (.ex (.cst (.int 1)))]))] []) (.not (.call "is_less" [(.ex (.var 1)), (.ex (.call "whole" [(.ex (.call "cost_in" [(.ex (.var 0)), (.ex (.prim .idx [(.ex (.var 2)), (.ex (.cst (.int 1)))]))] []))] []))] [])))))] []), (.ret (.ex (.and (.prim .eq [(.ex (.prim .idx [(.ex (.var 2)), (.ex (.cst (.int 0)))])), (.ex (.glb "PRICES" (.str "prices")))]) (.and (.call "are_sound_in" [(.ex (.var 0)), (.ex (.prim .idx [(.ex (.var 2)), (.ex (.cst (.int 1)))]))] []) (.call "is_less" [(.ex (.var 1)), (.ex (.call "total" [(.ex (.prim .idx [(.ex (.var 2)), (.ex (.cst (.int 1)))]))] []))] [])))))]
def d_is_budget_paper : DefI := ⟨⟨"is_budget_paper", ["wood", "budget", "value"], ["wood", "budget", "value"], false, b_is_budget_paper⟩, [], defArgs (top 72), defBody (top 72), defScope (top 72), false⟩
def b_law_pot : List S := [(.asg (.nm 2) (.prim .add [(.ex (.prim .mul [(.ex (.cst (.int 1621))), (.ex (.var 1))])), (.ex (.cst (.int 7331)))])), (.ifs (.prim .lt [(.ex (.var 1)), (.ex (.prim .len [(.ex (.var 0))]))]) [(.asg (.nm 2) (.prim .abs [(.ex (.prim .idx [(.ex (.var 0)), (.ex (.var 1))]))]))] []), (.ret (.ex (.ofL (.disp [(.prim .max [(.ex (.cst (.int 0))), (.ex (.prim .sub [(.ex (.var 2)), (.ex (.prim .pow [(.ex (.cst (.int 10))), (.ex (.cst (.int 18)))]))]))]), (.prim .add [(.ex (.prim .mod [(.ex (.prim .int1 [(.ex (.prim .add [(.ex (.prim .add [(.ex (.prim .mul [(.ex (.prim .mod [(.ex (.prim .int1 [(.ex (.var 2))])), (.ex (.cst (.int 2147483549)))])), (.ex (.cst (.int 40014)))])), (.ex (.prim .mul [(.ex (.cst (.int 7331))), (.ex (.var 1))]))])), (.ex (.cst (.int 61)))]))])), (.ex (.cst (.int 2147483563)))])), (.ex (.cst (.int 1)))])]))))]
def d_law_pot : DefI := ⟨⟨"_law_pot", ["script", "k"], ["script", "k", "cell"], true, b_law_pot⟩, [], defArgs (top 74), defBody (top 74), defScope (top 74), false⟩
def b_law_draw : List S := [(.ifs (.prim .gt [(.ex (.prim .idx [(.sl 0), (.ex (.cst (.int 0)))])), (.ex (.cst (.int 0)))]) [(.asg (.tup [(.sub 0 (.cst (.int 0))), (.nm 2)]) (.prim .divmod [(.ex (.prim .idx [(.sl 0), (.ex (.cst (.int 0)))])), (.ex (.var 1))])), (.ret (.ex (.var 2)))] []), (.asg (.sub 0 (.cst (.int 1))) (.prim .mod [(.ex (.prim .int1 [(.ex (.prim .add [(.ex (.prim .mul [(.ex (.prim .idx [(.sl 0), (.ex (.cst (.int 1)))])), (.ex (.cst (.int 39373)))])), (.ex (.cst (.int 211)))]))])), (.ex (.cst (.int 2147483587)))])), (.ret (.ex (.prim .mod [(.ex (.prim .int1 [(.ex (.prim .fdiv [(.ex (.prim .mod [(.ex (.prim .int1 [(.ex (.prim .mul [(.ex (.prim .idx [(.sl 0), (.ex (.cst (.int 1)))])), (.ex (.prim .idx [(.sl 0), (.ex (.cst (.int 1)))]))]))])), (.ex (.cst (.int 2147483563)))])), (.ex (.cst (.int 19)))]))])), (.ex (.var 1))])))]
def d_law_draw : DefI := ⟨⟨"_law_draw", ["pot", "many"], ["pot", "many", "digit"], false, b_law_draw⟩, [0], defArgs (top 75), defBody (top 75), defScope (top 75), false⟩
def w_law_made_0 : E := (.prim .gt [(.ex (.var 4)), (.ex (.cst (.int 0)))])
def l_law_made_1 : List S := [(.par 3 4 (.ex (.var 4)) (.ex (.prim .mod [(.ex (.prim .int1 [(.ex (.var 3))])), (.ex (.prim .int1 [(.ex (.var 4))]))])))]
def b_law_made : List S := [(.par 3 4 (.ex (.prim .abs [(.ex (.var 0))])) (.ex (.prim .abs [(.ex (.var 1))]))), (.whl w_law_made_0 l_law_made_1), (.asg (.nm 2) (.ite (.prim .lt [(.ex (.var 1)), (.ex (.cst (.int 0)))]) (.prim .neg [(.ex (.cst (.int 1)))]) (.cst (.int 1)))), (.ret (.ex (.tup [(.prim .fdiv [(.ex (.prim .mul [(.ex (.var 2)), (.ex (.var 0))])), (.ex (.var 3))]), (.prim .fdiv [(.ex (.prim .abs [(.ex (.var 1))])), (.ex (.var 3))])])))]
def d_law_made : DefI := ⟨⟨"_law_made", ["number", "under"], ["number", "under", "sign", "one", "other"], false, b_law_made⟩, [], defArgs (top 77), defBody (top 77), defScope (top 77), false⟩
def b_law_plus : List S := [(.ret (.ex (.call "_law_made" [(.ex (.prim .add [(.ex (.prim .mul [(.ex (.prim .idx [(.ex (.var 0)), (.ex (.cst (.int 0)))])), (.ex (.prim .idx [(.ex (.var 1)), (.ex (.cst (.int 1)))]))])), (.ex (.prim .mul [(.ex (.prim .idx [(.ex (.var 1)), (.ex (.cst (.int 0)))])), (.ex (.prim .idx [(.ex (.var 0)), (.ex (.cst (.int 1)))]))]))])), (.ex (.prim .mul [(.ex (.prim .idx [(.ex (.var 0)), (.ex (.cst (.int 1)))])), (.ex (.prim .idx [(.ex (.var 1)), (.ex (.cst (.int 1)))]))]))] [])))]
def d_law_plus : DefI := ⟨⟨"_law_plus", ["one", "other"], ["one", "other"], false, b_law_plus⟩, [], defArgs (top 78), defBody (top 78), defScope (top 78), false⟩
def b_law_minus : List S := [(.ret (.ex (.call "_law_plus" [(.ex (.var 0)), (.ex (.tup [(.prim .sub [(.ex (.cst (.int 0))), (.ex (.prim .idx [(.ex (.var 1)), (.ex (.cst (.int 0)))]))]), (.prim .idx [(.ex (.var 1)), (.ex (.cst (.int 1)))])]))] [])))]
def d_law_minus : DefI := ⟨⟨"_law_minus", ["one", "other"], ["one", "other"], false, b_law_minus⟩, [], defArgs (top 79), defBody (top 79), defScope (top 79), false⟩
def l_law_sum_0 : List S := [(.asg (.nm 1) (.call "_law_plus" [(.ex (.var 1)), (.ex (.var 2))] []))]
def b_law_sum : List S := [(.asg (.nm 1) (.tup [(.cst (.int 0)), (.cst (.int 1))])), (.forr (.nm 2) (.seq (.var 0)) l_law_sum_0), (.ret (.ex (.var 1)))]
def d_law_sum : DefI := ⟨⟨"_law_sum", ["some"], ["some", "found", "one"], false, b_law_sum⟩, [], defArgs (top 81), defBody (top 81), defScope (top 81), false⟩
def b_law_is_less : List S := [(.ret (.ex (.prim .lt [(.ex (.prim .mul [(.ex (.prim .idx [(.ex (.var 0)), (.ex (.cst (.int 0)))])), (.ex (.prim .idx [(.ex (.var 1)), (.ex (.cst (.int 1)))]))])), (.ex (.prim .mul [(.ex (.prim .idx [(.ex (.var 1)), (.ex (.cst (.int 0)))])), (.ex (.prim .idx [(.ex (.var 0)), (.ex (.cst (.int 1)))]))]))])))]
def d_law_is_less : DefI := ⟨⟨"_law_is_less", ["one", "other"], ["one", "other"], false, b_law_is_less⟩, [], defArgs (top 82), defBody (top 82), defScope (top 82), false⟩
def l_law_tree_0 : List S := [(.mt .append 3 [(.tup [(.prim .sub [(.ex (.var 4)), (.ex (.call "_law_draw" [(.io 0), (.ex (.prim .min [(.ex (.prim .add [(.ex (.var 4)), (.ex (.cst (.int 1)))])), (.ex (.cst (.int 4)))]))] []))]), (.prim .add [(.ex (.cst (.int 1))), (.ex (.call "_law_draw" [(.io 0), (.ex (.var 2))] []))])])])]
def b_law_tree : List S := [(.asgo 3 (.disp [])), (.forr (.nm 4) (.rng (.call "_law_draw" [(.io 0), (.ex (.var 1))] [])) l_law_tree_0), (.ret (.ex (.tup [(.cst (.str "tree")), (.prim .tuple [(.sl 3)])])))]
def d_law_tree : DefI := ⟨⟨"_law_tree", ["pot", "most", "top"], ["pot", "most", "top", "ties", "number"], false, b_law_tree⟩, [0], defArgs (top 83), defBody (top 83), defScope (top 83), false⟩
def l_law_depths_0 : List S := [(.mt .append 1 [(.prim .add [(.ex (.prim .idx [(.sl 1), (.ex (.var 2))])), (.ex (.var 3))])])]
def b_law_depths : List S := [(.asgo 1 (.disp [(.cst (.int 0))])), (.forr (.tup [(.nm 2), (.nm 3)]) (.seq (.prim .idx [(.ex (.var 0)), (.ex (.cst (.int 1)))])) l_law_depths_0), (.ret (.sl 1))]
def d_law_depths : DefI := ⟨⟨"_law_depths", ["tree"], ["tree", "found", "father", "length"], false, b_law_depths⟩, [], defArgs (top 84), defBody (top 84), defScope (top 84), false⟩
def w_law_up_0 : E := (.prim .gt [(.ex (.prim .idx [(.sl 2), (.ex (.prim .neg [(.ex (.cst (.int 1)))]))])), (.ex (.cst (.int 0)))])
def l_law_up_1 : List S := [(.mt .append 2 [(.prim .idx [(.ex (.prim .idx [(.ex (.prim .idx [(.ex (.var 0)), (.ex (.cst (.int 1)))])), (.ex (.prim .sub [(.ex (.prim .idx [(.sl 2), (.ex (.prim .neg [(.ex (.cst (.int 1)))]))])), (.ex (.cst (.int 1)))]))])), (.ex (.cst (.int 0)))])])]
def b_law_up : List S := [(.asgo 2 (.disp [(.var 1)])), (.whl w_law_up_0 l_law_up_1), (.ret (.sl 2))]
def d_law_up : DefI := ⟨⟨"_law_up", ["tree", "place"], ["tree", "place", "found"], false, b_law_up⟩, [], defArgs (top 85), defBody (top 85), defScope (top 85), false⟩
def q_law_way_0 : E := (.prim .isin [(.ex (.var 6)), (.ex (.var 5))])
def e_law_way_1 : E := (.var 6)
def b_law_way : List S := [(.asg (.tup [(.nm 4), (.nm 5)]) (.tup [(.call "_law_depths" [(.ex (.var 0))] []), (.call "_law_up" [(.ex (.var 0)), (.ex (.var 2))] [])])), (.asg (.nm 3) (.prim .idx [(.ex (.ofL (.comp [6] (.nm 6) (.seq (.call "_law_up" [(.ex (.var 0)), (.ex (.var 1))] [])) (some q_law_way_0) e_law_way_1))), (.ex (.cst (.int 0)))])), (.ret (.ex (.prim .sub [(.ex (.prim .add [(.ex (.prim .idx [(.ex (.var 4)), (.ex (.var 1))])), (.ex (.prim .idx [(.ex (.var 4)), (.ex (.var 2))]))])), (.ex (.prim .mul [(.ex (.cst (.int 2))), (.ex (.prim .idx [(.ex (.var 4)), (.ex (.var 3))]))]))])))]
def d_law_way : DefI := ⟨⟨"_law_way", ["tree", "place", "other"], ["tree", "place", "other", "top", "depths", "high", "one"], false, b_law_way⟩, [], defArgs (top 86), defBody (top 86), defScope (top 86), false⟩
def q_law_sites_0 : E := (.prim .gt [(.ex (.call "_law_draw" [(.io 0), (.ex (.cst (.int 3)))] [])), (.ex (.cst (.int 0)))])
def e_law_sites_1 : E := (.var 5)
def e_law_sites_2 : E := (.tup [(.var 5), (.call "_law_draw" [(.io 0), (.ex (.var 3))] [])])
def b_law_sites : List S := [(.asg (.nm 4) (.prim (.slc false true) [(.ex (.ofL (.comp [5] (.nm 5) (.rng (.var 1)) (some q_law_sites_0) e_law_sites_1))), (.ex (.var 2))])), (.ret (.ex (.prim .tuple [(.ex (.ofL (.comp [5] (.nm 5) (.seq (.var 4)) none e_law_sites_2)))])))]
def d_law_sites : DefI := ⟨⟨"_law_sites", ["pot", "many", "most", "top"], ["pot", "many", "most", "top", "spots", "place"], false, b_law_sites⟩, [0], defArgs (top 87), defBody (top 87), defScope (top 87), false⟩
def l_law_wood_0 : List S := [(.mt .append 7 [(.tup [(.call "_law_draw" [(.io 0), (.ex (.var 6))] []), (.call "_law_draw" [(.io 0), (.ex (.cst (.int 13)))] []), (.call "_law_draw" [(.io 0), (.ex (.cst (.int 4)))] []), (.call "_law_draw" [(.io 0), (.ex (.cst (.int 15)))] [])])])]
def b_law_wood : List S := [(.asg (.nm 4) (.call "_law_tree" [(.io 0), (.ex (.var 1)), (.ex (.cst (.int 6)))] [])), (.par 6 7 (.ex (.prim .add [(.ex (.prim .len [(.ex (.prim .idx [(.ex (.var 4)), (.ex (.cst (.int 1)))]))])), (.ex (.cst (.int 1)))])) (.fr (.disp []))), (.forr (.nm 5) (.rng (.call "_law_draw" [(.io 0), (.ex (.prim .add [(.ex (.var 2)), (.ex (.cst (.int 1)))]))] [])) l_law_wood_0), (.ret (.ex (.tup [(.cst (.str "wood")), (.var 4), (.prim .tuple [(.sl 7)]), (.call "_law_sites" [(.io 0), (.ex (.var 6)), (.ex (.var 3)), (.ex (.cst (.int 12)))] [])])))]
def d_law_wood : DefI := ⟨⟨"_law_wood", ["pot", "room", "customers", "sites"], ["pot", "room", "customers", "sites", "tree", "number", "many", "folk"], false, b_law_wood⟩, [0], defArgs (top 88), defBody (top 88), defScope (top 88), false⟩
def q_law_reached_0 : E := (.prim .le [(.ex (.call "_law_way" [(.ex (.prim .idx [(.ex (.var 0)), (.ex (.cst (.int 1)))])), (.ex (.prim .idx [(.ex (.var 4)), (.ex (.cst (.int 0)))])), (.ex (.var 2))] [])), (.ex (.prim .idx [(.ex (.var 4)), (.ex (.cst (.int 1)))]))])
def e_law_reached_1 : E := (.var 3)
def b_law_reached : List S := [(.asg (.nm 2) (.prim .idx [(.ex (.prim .idx [(.ex (.prim .idx [(.ex (.var 0)), (.ex (.cst (.int 3)))])), (.ex (.var 1))])), (.ex (.cst (.int 0)))])), (.ret (.ex (.ofL (.comp [3, 4] (.tup [(.nm 3), (.nm 4)]) (.enum (.prim .idx [(.ex (.var 0)), (.ex (.cst (.int 2)))])) (some q_law_reached_0) e_law_reached_1))))]
def d_law_reached : DefI := ⟨⟨"_law_reached", ["wood", "site"], ["wood", "site", "place", "at", "one"], true, b_law_reached⟩, [], defArgs (top 89), defBody (top 89), defScope (top 89), false⟩
def b_law_ratio : List S := [(.ret (.ex (.call "_law_made" [(.ex (.prim .sub [(.ex (.call "_law_draw" [(.io 0), (.ex (.prim .add [(.ex (.prim .mul [(.ex (.cst (.int 2))), (.ex (.var 1))])), (.ex (.cst (.int 1)))]))] [])), (.ex (.var 1))])), (.ex (.prim .add [(.ex (.cst (.int 1))), (.ex (.call "_law_draw" [(.io 0), (.ex (.cst (.int 5)))] []))]))] [])))]
def d_law_ratio : DefI := ⟨⟨"_law_ratio", ["pot", "most"], ["pot", "most"], false, b_law_ratio⟩, [0], defArgs (top 90), defBody (top 90), defScope (top 90), false⟩
def e_law_subsets_0 : E := (.prim .add [(.ex (.var 3)), (.ex (.tup [(.var 2)]))])
def l_law_subsets_1 : List S := [(.asg (.nm 1) (.prim .add [(.ex (.var 1)), (.ex (.ofL (.comp [3] (.nm 3) (.seq (.var 1)) none e_law_subsets_0)))]))]
def b_law_subsets : List S := [(.asg (.nm 1) (.ofL (.disp [(.tup [])]))), (.forr (.nm 2) (.rng (.var 0)) l_law_subsets_1), (.ret (.ex (.var 1)))]
def d_law_subsets : DefI := ⟨⟨"_law_subsets", ["many"], ["many", "found", "at", "some"], false, b_law_subsets⟩, [], defArgs (top 91), defBody (top 91), defScope (top 91), false⟩
def l_law_left_0 : List S := [(.ext 2 (.call "_law_reached" [(.ex (.var 0)), (.ex (.var 3))] []))]
def q_law_left_1 : E := (.prim .notin [(.ex (.var 4)), (.sl 2)])
def e_law_left_2 : E := (.var 4)
def b_law_left : List S := [(.asgo 2 (.disp [])), (.forr (.nm 3) (.seq (.var 1)) l_law_left_0), (.ret (.ex (.ofL (.comp [4] (.nm 4) (.rng (.prim .len [(.ex (.prim .idx [(.ex (.var 0)), (.ex (.cst (.int 2)))]))])) (some q_law_left_1) e_law_left_2))))]
def d_law_left : DefI := ⟨⟨"_law_left", ["wood", "some"], ["wood", "some", "found", "site", "at"], false, b_law_left⟩, [], defArgs (top 92), defBody (top 92), defScope (top 92), false⟩
def e_law_cost_0 : E := (.prim .idx [(.ex (.prim .idx [(.ex (.prim .idx [(.ex (.var 0)), (.ex (.cst (.int 3)))])), (.ex (.var 2))])), (.ex (.cst (.int 1)))])
def e_law_cost_1 : E := (.prim .idx [(.ex (.prim .idx [(.ex (.prim .idx [(.ex (.var 0)), (.ex (.cst (.int 2)))])), (.ex (.var 3))])), (.ex (.cst (.int 3)))])
def b_law_cost : List S := [(.ret (.ex (.prim .add [(.ex (.prim .sum [(.ex (.ofL (.comp [2] (.nm 2) (.seq (.var 1)) none e_law_cost_0)))])), (.ex (.prim .sum [(.ex (.ofL (.comp [3] (.nm 3) (.seq (.call "_law_left" [(.ex (.var 0)), (.ex (.var 1))] [])) none e_law_cost_1)))]))])))]
def d_law_cost : DefI := ⟨⟨"_law_cost", ["wood", "some"], ["wood", "some", "site", "at"], false, b_law_cost⟩, [], defArgs (top 93), defBody (top 93), defScope (top 93), false⟩
def e_law_least_0 : E := (.call "_law_cost" [(.ex (.var 0)), (.ex (.var 1))] [])
def b_law_least : List S := [(.ret (.ex (.prim .min [(.ex (.ofL (.comp [1] (.nm 1) (.seq (.call "_law_subsets" [(.ex (.prim .len [(.ex (.prim .idx [(.ex (.var 0)), (.ex (.cst (.int 3)))]))]))] [])) none e_law_least_0)))])))]
def d_law_least : DefI := ⟨⟨"_law_least", ["wood"], ["wood", "some"], false, b_law_least⟩, [], defArgs (top 94), defBody (top 94), defScope (top 94), false⟩
def e_law_is_ratio_0 : E := (.or (.not (.prim (.isinst ["int"]) [(.ex (.var 1))])) (.prim (.isinst ["bool"]) [(.ex (.var 1))]))
def b_law_is_ratio : List S := [(.ifs (.or (.not (.prim (.isinst ["tuple"]) [(.ex (.var 0))])) (.prim .ne [(.ex (.prim .len [(.ex (.var 0))])), (.ex (.cst (.int 2)))])) [(.ret (.ex (.cst (.bl false))))] []), (.ifs (.or (.prim .any [(.ex (.ofL (.comp [1] (.nm 1) (.seq (.var 0)) none e_law_is_ratio_0)))]) (.prim .lt [(.ex (.prim .idx [(.ex (.var 0)), (.ex (.cst (.int 1)))])), (.ex (.cst (.int 1)))])) [(.ret (.ex (.cst (.bl false))))] []), (.ret (.ex (.prim .eq [(.ex (.call "_law_made" [(.ex (.prim .idx [(.ex (.var 0)), (.ex (.cst (.int 0)))])), (.ex (.prim .idx [(.ex (.var 0)), (.ex (.cst (.int 1)))]))] [])), (.ex (.var 0))])))]
def d_law_is_ratio : DefI := ⟨⟨"_law_is_ratio", ["value"], ["value", "one"], false, b_law_is_ratio⟩, [], defArgs (top 95), defBody (top 95), defScope (top 95), false⟩
def e_law_are_prices_0 : E := (.call "_law_is_ratio" [(.ex (.var 2))] [])
def b_law_are_prices : List S := [(.ret (.ex (.and (.prim (.isinst ["tuple"]) [(.ex (.var 1))]) (.and (.prim .eq [(.ex (.prim .len [(.ex (.var 1))])), (.ex (.prim .len [(.ex (.prim .idx [(.ex (.var 0)), (.ex (.cst (.int 2)))]))]))]) (.prim .all [(.ex (.ofL (.comp [2] (.nm 2) (.seq (.var 1)) none e_law_are_prices_0)))])))))]
def d_law_are_prices : DefI := ⟨⟨"_law_are_prices", ["wood", "value"], ["wood", "value", "one"], false, b_law_are_prices⟩, [], defArgs (top 96), defBody (top 96), defScope (top 96), false⟩
def e_law_are_sound_0 : E := (.or (.prim .lt [(.ex (.prim .idx [(.ex (.var 6)), (.ex (.cst (.int 0)))])), (.ex (.cst (.int 0)))]) (.call "_law_is_less" [(.ex (.tup [(.prim .idx [(.ex (.var 5)), (.ex (.cst (.int 3)))]), (.cst (.int 1))])), (.ex (.var 6))] []))
def e_law_are_sound_1 : E := (.prim .idx [(.ex (.var 1)), (.ex (.var 7))])
def l_law_are_sound_2 : List S := [(.ifs (.call "_law_is_less" [(.ex (.tup [(.var 4), (.cst (.int 1))])), (.ex (.call "_law_sum" [(.ex (.ofL (.comp [7] (.nm 7) (.seq (.call "_law_reached" [(.ex (.var 0)), (.ex (.var 2))] [])) none e_law_are_sound_1)))] []))] []) [(.ret (.ex (.cst (.bl false))))] [])]
def b_law_are_sound : List S := [(.ifs (.not (.call "_law_are_prices" [(.ex (.var 0)), (.ex (.var 1))] [])) [(.ret (.ex (.cst (.bl false))))] []), (.ifs (.prim .any [(.ex (.ofL (.comp [5, 6] (.tup [(.nm 5), (.nm 6)]) (.zip (.prim .idx [(.ex (.var 0)), (.ex (.cst (.int 2)))]) (.var 1)) none e_law_are_sound_0)))]) [(.ret (.ex (.cst (.bl false))))] []), (.forr (.tup [(.nm 2), (.tup [(.nm 3), (.nm 4)])]) (.enum (.prim .idx [(.ex (.var 0)), (.ex (.cst (.int 3)))])) l_law_are_sound_2), (.ret (.ex (.cst (.bl true))))]
def d_law_are_sound : DefI := ⟨⟨"_law_are_sound", ["wood", "value"], ["wood", "value", "site", "place", "dear", "one", "price", "at"], false, b_law_are_sound⟩, [], defArgs (top 97), defBody (top 97), defScope (top 97), false⟩
def e_law_is_open_0 : E := (.or (.not (.prim (.isinst ["int"]) [(.ex (.var 2))])) (.prim (.isinst ["bool"]) [(.ex (.var 2))]))
def e_law_is_open_1 : E := (.chain .le .lt (.cst (.int 0)) (.var 2) (.prim .len [(.ex (.prim .idx [(.ex (.var 0)), (.ex (.cst (.int 3)))]))]))
def e_law_is_open_2 : E := (.prim .ge [(.ex (.var 3)), (.ex (.var 4))])
def b_law_is_open : List S := [(.ifs (.or (.not (.prim (.isinst ["tuple"]) [(.ex (.var 1))])) (.prim .any [(.ex (.ofL (.comp [2] (.nm 2) (.seq (.var 1)) none e_law_is_open_0)))])) [(.ret (.ex (.cst (.bl false))))] []), (.ifs (.not (.prim .all [(.ex (.ofL (.comp [2] (.nm 2) (.seq (.var 1)) none e_law_is_open_1)))])) [(.ret (.ex (.cst (.bl false))))] []), (.ret (.ex (.not (.prim .any [(.ex (.ofL (.comp [3, 4] (.tup [(.nm 3), (.nm 4)]) (.zip (.var 1) (.prim (.slc true false) [(.ex (.var 1)), (.ex (.cst (.int 1)))])) none e_law_is_open_2)))]))))]
def d_law_is_open : DefI := ⟨⟨"_law_is_open", ["wood", "value"], ["wood", "value", "one", "near", "far"], false, b_law_is_open⟩, [], defArgs (top 98), defBody (top 98), defScope (top 98), false⟩
def b_law_is_budget_paper : List S := [(.ifs (.or (.not (.prim (.isinst ["tuple"]) [(.ex (.var 2))])) (.or (.prim .ne [(.ex (.prim .len [(.ex (.var 2))])), (.ex (.cst (.int 2)))]) (.not (.prim (.isinst ["str"]) [(.ex (.prim .idx [(.ex (.var 2)), (.ex (.cst (.int 0)))]))])))) [(.ret (.ex (.cst (.bl false))))] []), (.ifs (.prim .eq [(.ex (.prim .idx [(.ex (.var 2)), (.ex (.cst (.int 0)))])), (.ex (.cst (.str "open")))]) [(.ret (.ex (.and (.call "_law_is_open" [(.ex (.var 0)), (.ex (.prim .idx [(.ex (.var 2)), (.ex (.cst (.int 1)))]))] []) (.not (.call "_law_is_less" [(.ex (.var 1)), (.ex (.tup [(.call "_law_cost" [(.ex (.var 0)), (.ex (.prim .idx [(.ex (.var 2)), (.ex (.cst (.int 1)))]))] []), (.cst (.int 1))]))] [])))))] []), (.ret (.ex (.and (.prim .eq [(.ex (.prim .idx [(.ex (.var 2)), (.ex (.cst (.int 0)))])), (.ex (.cst (.str "prices")))]) (.and (.call "_law_are_sound" [(.ex (.var 0)), (.ex (.prim .idx [(.ex (.var 2)), (.ex (.cst (.int 1)))]))] []) (.call "_law_is_less" [(.ex (.var 1)), (.ex (.call "_law_sum" [(.ex (.prim .list [(.ex (.prim .idx [(.ex (.var 2)), (.ex (.cst (.int 1)))]))]))] []))] [])))))]
def d_law_is_budget_paper : DefI := ⟨⟨"_law_is_budget_paper", ["wood", "budget", "value"], ["wood", "budget", "value"], false, b_law_is_budget_paper⟩, [], defArgs (top 99), defBody (top 99), defScope (top 99), false⟩
def b_law_budget_right : List S := [(.asg (.nm 3) (.call "budget_paper" [(.ex (.var 2)), (.ex (.var 0))] [1, 0])), (.asg (.nm 4) (.ite (.call "_law_is_less" [(.ex (.var 2)), (.ex (.tup [(.var 1), (.cst (.int 1))]))] []) (.cst (.str "prices")) (.cst (.str "open")))), (.ifs (.or (.not (.call "_law_is_budget_paper" [(.ex (.var 0)), (.ex (.var 2)), (.ex (.var 3))] [])) (.prim .ne [(.ex (.prim .idx [(.ex (.var 3)), (.ex (.cst (.int 0)))])), (.ex (.var 4))])) [(.ret (.ex (.cst (.bl false))))] []), (.asg (.nm 5) (.ofL (.disp [(.call "is_budget_paper" [(.ex (.var 0)), (.ex (.var 2)), (.ex (.var 3))] []), (.call "is_budget_paper" [(.ex (.var 3)), (.ex (.var 2)), (.ex (.var 0))] [2, 1, 0])]))), (.ret (.ex (.and (.prim .eq [(.ex (.prim .repr [(.ex (.var 5))])), (.ex (.cst (.str "[True, True]")))]) (.call "_law_is_budget_paper" [(.ex (.var 0)), (.ex (.var 2)), (.ex (.call "budget_paper" [(.ex (.var 0)), (.ex (.var 2))] []))] []))))]
def d_law_budget_right : DefI := ⟨⟨"_law_budget_right", ["wood", "least", "budget"], ["wood", "least", "budget", "paper", "word", "told"], false, b_law_budget_right⟩, [], defArgs (top 100), defBody (top 100), defScope (top 100), false⟩
def e_law_right_0 : E := (.call "_law_budget_right" [(.ex (.var 1)), (.ex (.var 5)), (.ex (.var 7))] [])
def b_law_right : List S := [(.asg (.nm 1) (.call "_law_wood" [(.io 0), (.ex (.cst (.int 9))), (.ex (.cst (.int 6))), (.ex (.cst (.int 5)))] [])), (.asg (.tup [(.nm 5), (.nm 6)]) (.tup [(.call "_law_least" [(.ex (.var 1))] []), (.prim .repr [(.ex (.var 1))])])), (.ifs (.prim .ne [(.ex (.prim .repr [(.ex (.ofL (.disp [(.call "least_cost" [(.ex (.var 1))] []), (.call "least_cost" [(.ex (.var 1))] [0])])))])), (.ex (.prim .repr [(.ex (.ofL (.disp [(.var 5), (.var 5)])))]))]) [(.ret (.ex (.cst (.bl false))))] []), (.asg (.nm 2) (.call "best_paper" [(.ex (.var 1))] [])), (.ifs (.or (.not (.prim (.isinst ["tuple"]) [(.ex (.var 2))])) (.or (.prim .ne [(.ex (.prim .len [(.ex (.var 2))])), (.ex (.cst (.int 2)))]) (.or (.not (.call "_law_is_open" [(.ex (.var 1)), (.ex (.prim .idx [(.ex (.var 2)), (.ex (.cst (.int 0)))]))] [])) (.not (.call "_law_are_sound" [(.ex (.var 1)), (.ex (.prim .idx [(.ex (.var 2)), (.ex (.cst (.int 1)))]))] []))))) [(.ret (.ex (.cst (.bl false))))] []), (.ifs (.or (.prim .ne [(.ex (.call "_law_cost" [(.ex (.var 1)), (.ex (.prim .idx [(.ex (.var 2)), (.ex (.cst (.int 0)))]))] [])), (.ex (.var 5))]) (.prim .ne [(.ex (.call "_law_sum" [(.ex (.prim .list [(.ex (.prim .idx [(.ex (.var 2)), (.ex (.cst (.int 1)))]))]))] [])), (.ex (.tup [(.var 5), (.cst (.int 1))]))])) [(.ret (.ex (.cst (.bl false))))] []), (.ifs (.prim .ne [(.ex (.prim .repr [(.ex (.ofL (.disp [(.call "is_best_paper" [(.ex (.var 1)), (.ex (.var 2))] []), (.call "is_best_paper" [(.ex (.call "best_paper" [(.ex (.var 1))] [0])), (.ex (.var 1))] [1, 0])])))])), (.ex (.cst (.str "[True, True]")))]) [(.ret (.ex (.cst (.bl false))))] []), (.asg (.nm 3) (.tup [(.cst (.int 1)), (.prim .add [(.ex (.cst (.int 1))), (.ex (.call "_law_draw" [(.io 0), (.ex (.cst (.int 999)))] []))])])), (.asg (.nm 4) (.ofL (.disp [(.tup [(.var 5), (.cst (.int 1))]), (.call "_law_minus" [(.ex (.tup [(.var 5), (.cst (.int 1))])), (.ex (.var 3))] []), (.call "_law_plus" [(.ex (.tup [(.var 5), (.cst (.int 1))])), (.ex (.var 3))] []), (.call "_law_ratio" [(.io 0), (.ex (.cst (.int 40)))] [])]))), (.ret (.ex (.and (.prim .all [(.ex (.ofL (.comp [7] (.nm 7) (.seq (.var 4)) none e_law_right_0)))]) (.prim .eq [(.ex (.prim .repr [(.ex (.var 1))])), (.ex (.var 6))]))))]
def d_law_right : DefI := ⟨⟨"_law_right", ["pot"], ["pot", "wood", "paper", "small", "budgets", "least", "shown", "budget"], false, b_law_right⟩, [0], defArgs (top 101), defBody (top 101), defScope (top 101), false⟩
def b_law : List S := [(.ret (.ex (.call "_law_right" [(.fr (.call "_law_pot" [(.ex (.var 0)), (.ex (.cst (.int 0)))] []))] [])))]
def d_law : DefI := ⟨⟨"law", ["script"], ["script"], false, b_law⟩, [], defArgs (top 102), defBody (top 102), defScope (top 102), false⟩
def Fs : List DefI := [d_is_integer, d_is_within, d_is_row, d_is_rising, d_are_places_of, d_columns_of, d_row_key, d_raised, d_opened, d_best_of_rows, d_fraction, d_whole, d_plus, d_is_less, d_total, d_is_ratio, d_is_tie, d_is_tree, d_place_count, d_father_of, d_path_up, d_depths_in, d_path_in, d_top_in, d_way_in, d_is_customer, d_is_site, d_are_sites, d_is_wood, d_want_wood, d_does_reach, d_reached_by, d_is_open_of, d_is_prices_of, d_reach_in, d_left_in, d_cost_in, d_earned_in, d_is_sound_in, d_are_sound_in, d_best_in, d_least_in, d_is_best_in, d_want_budget, d_least_cost, d_best_paper, d_is_best_paper, d_budget_paper, d_is_budget_paper, d_law_pot, d_law_draw, d_law_made, d_law_plus, d_law_minus, d_law_sum, d_law_is_less, d_law_tree, d_law_depths, d_law_up, d_law_way, d_law_sites, d_law_wood, d_law_reached, d_law_ratio, d_law_subsets, d_law_left, d_law_cost, d_law_least, d_law_is_ratio, d_law_are_prices, d_law_are_sound, d_law_is_open, d_law_is_budget_paper, d_law_budget_right, d_law_right, d_law]
def free : List Str := ["abs", "all", "any", "bool", "divmod", "enumerate", "int", "isinstance", "len", "list", "max", "min", "range", "repr", "sorted", "str", "sum", "tuple", "zip"]
def csts : List (Str × D) := [("LIMIT", (.int 10000000000000000000000000000000000000000000000000000000000000000000000000000000000000000000000000000000000000000000000000000000000000000000000000000000000000000000000000000000000000000000000000000000000000000000000000000000000000000000000000000000000000000000000000000000000000000000000000000000000000000000000000000000000000000000000000000000000000000000000000000000000000000000000000000000000000000)), ("MOST_COST", (.int 9999)), ("MOST_CUSTOMERS", (.int 12)), ("MOST_FEE", (.int 9999)), ("MOST_LENGTH", (.int 999)), ("MOST_PLACES", (.int 24)), ("MOST_RATE", (.int 99)), ("MOST_REACH", (.int 9999)), ("MOST_SITES", (.int 10)), ("NOUGHT", (.tup [(.int 0), (.int 1)])), ("OPEN", (.str "open")), ("PRICES", (.str "prices"))]
def mods : List (Str × String) := [("gcd", "math.gcd")]
theorem st {n : Nat} {f : Str} {F : DefI} (h : Fs.find? (fun F => F.df.name == f) = some F) : phi Fs (n + 1) f = runF (phi Fs n) F.df F.io := by
  funext as
  rw [phi, h]
theorem run_is_integer (m : Nat) (x0 : D) : phi Fs (m + 1) "is_integer" [.dat x0] = endF false [] (evS.go (phi Fs m) b_is_integer [.dat x0]) := by
  rw [st (F := d_is_integer) (by kernel_rfl)]
  exact runF_ok (F := d_is_integer.df) (io := []) rfl (by decide) rfl rfl
theorem run_is_within (m : Nat) (x0 : D) (x1 : D) (x2 : D) : phi Fs (m + 1) "is_within" [.dat x0, .dat x1, .dat x2] = endF false [] (evS.go (phi Fs m) b_is_within [.dat x0, .dat x1, .dat x2]) := by
  rw [st (F := d_is_within) (by kernel_rfl)]
  exact runF_ok (F := d_is_within.df) (io := []) rfl (by decide) rfl rfl
theorem run_is_row (m : Nat) (x0 : D) (x1 : D) : phi Fs (m + 1) "is_row" [.dat x0, .dat x1] = endF false [] (evS.go (phi Fs m) b_is_row [.dat x0, .dat x1]) := by
  rw [st (F := d_is_row) (by kernel_rfl)]
  exact runF_ok (F := d_is_row.df) (io := []) rfl (by decide) rfl rfl
theorem run_is_rising (m : Nat) (x0 : D) : phi Fs (m + 1) "is_rising" [.dat x0] = endF false [] (evS.go (phi Fs m) b_is_rising [.dat x0, .none, .none]) := by
  rw [st (F := d_is_rising) (by kernel_rfl)]
  exact runF_ok (F := d_is_rising.df) (io := []) rfl (by decide) rfl rfl
theorem run_are_places_of (m : Nat) (x0 : D) (x1 : D) : phi Fs (m + 1) "are_places_of" [.dat x0, .dat x1] = endF false [] (evS.go (phi Fs m) b_are_places_of [.dat x0, .dat x1, .none]) := by
  rw [st (F := d_are_places_of) (by kernel_rfl)]
  exact runF_ok (F := d_are_places_of.df) (io := []) rfl (by decide) rfl rfl
theorem run_columns_of (m : Nat) (x0 : D) (x1 : D) : phi Fs (m + 1) "columns_of" [.dat x0, .dat x1] = endF false [] (evS.go (phi Fs m) b_columns_of [.dat x0, .dat x1, .none]) := by
  rw [st (F := d_columns_of) (by kernel_rfl)]
  exact runF_ok (F := d_columns_of.df) (io := []) rfl (by decide) rfl rfl
theorem run_row_key (m : Nat) (x0 : D) (x1 : D) : phi Fs (m + 1) "row_key" [.dat x0, .dat x1] = endF false [] (evS.go (phi Fs m) b_row_key [.dat x0, .dat x1, .none]) := by
  rw [st (F := d_row_key) (by kernel_rfl)]
  exact runF_ok (F := d_row_key.df) (io := []) rfl (by decide) rfl rfl
theorem run_raised (m : Nat) (x0 : D) (x1 : D) : phi Fs (m + 1) "raised" [.dat x0, .dat x1] = endF false [] (evS.go (phi Fs m) b_raised [.dat x0, .dat x1, .none, .none, .none, .none, .none, .none, .none, .none]) := by
  rw [st (F := d_raised) (by kernel_rfl)]
  exact runF_ok (F := d_raised.df) (io := []) rfl (by decide) rfl rfl
theorem run_opened (m : Nat) (x0 : D) (x1 : D) (x2 : D) : phi Fs (m + 1) "opened" [.dat x0, .dat x1, .dat x2] = endF false [] (evS.go (phi Fs m) b_opened [.dat x0, .dat x1, .dat x2, .none, .none, .none, .none, .none, .none]) := by
  rw [st (F := d_opened) (by kernel_rfl)]
  exact runF_ok (F := d_opened.df) (io := []) rfl (by decide) rfl rfl
theorem run_best_of_rows (m : Nat) (x0 : D) (x1 : D) : phi Fs (m + 1) "best_of_rows" [.dat x0, .dat x1] = endF false [] (evS.go (phi Fs m) b_best_of_rows [.dat x0, .dat x1, .none, .none]) := by
  rw [st (F := d_best_of_rows) (by kernel_rfl)]
  exact runF_ok (F := d_best_of_rows.df) (io := []) rfl (by decide) rfl rfl
theorem run_fraction (m : Nat) (x0 : D) (x1 : D) : phi Fs (m + 1) "fraction" [.dat x0, .dat x1] = endF false [] (evS.go (phi Fs m) b_fraction [.dat x0, .dat x1, .none]) := by
  rw [st (F := d_fraction) (by kernel_rfl)]
  exact runF_ok (F := d_fraction.df) (io := []) rfl (by decide) rfl rfl
theorem run_whole (m : Nat) (x0 : D) : phi Fs (m + 1) "whole" [.dat x0] = endF false [] (evS.go (phi Fs m) b_whole [.dat x0]) := by
  rw [st (F := d_whole) (by kernel_rfl)]
  exact runF_ok (F := d_whole.df) (io := []) rfl (by decide) rfl rfl
theorem run_plus (m : Nat) (x0 : D) (x1 : D) : phi Fs (m + 1) "plus" [.dat x0, .dat x1] = endF false [] (evS.go (phi Fs m) b_plus [.dat x0, .dat x1]) := by
  rw [st (F := d_plus) (by kernel_rfl)]
  exact runF_ok (F := d_plus.df) (io := []) rfl (by decide) rfl rfl
theorem run_is_less (m : Nat) (x0 : D) (x1 : D) : phi Fs (m + 1) "is_less" [.dat x0, .dat x1] = endF false [] (evS.go (phi Fs m) b_is_less [.dat x0, .dat x1]) := by
  rw [st (F := d_is_less) (by kernel_rfl)]
  exact runF_ok (F := d_is_less.df) (io := []) rfl (by decide) rfl rfl
theorem run_total (m : Nat) (x0 : D) : phi Fs (m + 1) "total" [.dat x0] = endF false [] (evS.go (phi Fs m) b_total [.dat x0, .none, .none]) := by
  rw [st (F := d_total) (by kernel_rfl)]
  exact runF_ok (F := d_total.df) (io := []) rfl (by decide) rfl rfl
theorem run_is_ratio (m : Nat) (x0 : D) : phi Fs (m + 1) "is_ratio" [.dat x0] = endF false [] (evS.go (phi Fs m) b_is_ratio [.dat x0]) := by
  rw [st (F := d_is_ratio) (by kernel_rfl)]
  exact runF_ok (F := d_is_ratio.df) (io := []) rfl (by decide) rfl rfl
theorem run_is_tie (m : Nat) (x0 : D) (x1 : D) : phi Fs (m + 1) "is_tie" [.dat x0, .dat x1] = endF false [] (evS.go (phi Fs m) b_is_tie [.dat x0, .dat x1]) := by
  rw [st (F := d_is_tie) (by kernel_rfl)]
  exact runF_ok (F := d_is_tie.df) (io := []) rfl (by decide) rfl rfl
theorem run_is_tree (m : Nat) (x0 : D) : phi Fs (m + 1) "is_tree" [.dat x0] = endF false [] (evS.go (phi Fs m) b_is_tree [.dat x0, .none, .none]) := by
  rw [st (F := d_is_tree) (by kernel_rfl)]
  exact runF_ok (F := d_is_tree.df) (io := []) rfl (by decide) rfl rfl
theorem run_place_count (m : Nat) (x0 : D) : phi Fs (m + 1) "place_count" [.dat x0] = endF false [] (evS.go (phi Fs m) b_place_count [.dat x0]) := by
  rw [st (F := d_place_count) (by kernel_rfl)]
  exact runF_ok (F := d_place_count.df) (io := []) rfl (by decide) rfl rfl
theorem run_father_of (m : Nat) (x0 : D) (x1 : D) : phi Fs (m + 1) "father_of" [.dat x0, .dat x1] = endF false [] (evS.go (phi Fs m) b_father_of [.dat x0, .dat x1]) := by
  rw [st (F := d_father_of) (by kernel_rfl)]
  exact runF_ok (F := d_father_of.df) (io := []) rfl (by decide) rfl rfl
theorem run_path_up (m : Nat) (x0 : D) (x1 : D) : phi Fs (m + 1) "path_up" [.dat x0, .dat x1] = endF true [] (evS.go (phi Fs m) b_path_up [.dat x0, .dat x1, .none]) := by
  rw [st (F := d_path_up) (by kernel_rfl)]
  exact runF_ok (F := d_path_up.df) (io := []) rfl (by decide) rfl rfl
theorem run_depths_in (m : Nat) (x0 : D) : phi Fs (m + 1) "depths_in" [.dat x0] = endF false [] (evS.go (phi Fs m) b_depths_in [.dat x0, .none, .none, .none]) := by
  rw [st (F := d_depths_in) (by kernel_rfl)]
  exact runF_ok (F := d_depths_in.df) (io := []) rfl (by decide) rfl rfl
theorem run_path_in (m : Nat) (x0 : D) (x1 : D) (x2 : D) : phi Fs (m + 1) "path_in" [.dat x0, .dat x1, .dat x2] = endF false [] (evS.go (phi Fs m) b_path_in [.dat x0, .dat x1, .dat x2, .none, .none]) := by
  rw [st (F := d_path_in) (by kernel_rfl)]
  exact runF_ok (F := d_path_in.df) (io := []) rfl (by decide) rfl rfl
theorem run_top_in (m : Nat) (x0 : D) (x1 : D) (x2 : D) : phi Fs (m + 1) "top_in" [.dat x0, .dat x1, .dat x2] = endF false [] (evS.go (phi Fs m) b_top_in [.dat x0, .dat x1, .dat x2]) := by
  rw [st (F := d_top_in) (by kernel_rfl)]
  exact runF_ok (F := d_top_in.df) (io := []) rfl (by decide) rfl rfl
theorem run_way_in (m : Nat) (x0 : D) (x1 : D) (x2 : D) : phi Fs (m + 1) "way_in" [.dat x0, .dat x1, .dat x2] = endF false [] (evS.go (phi Fs m) b_way_in [.dat x0, .dat x1, .dat x2, .none]) := by
  rw [st (F := d_way_in) (by kernel_rfl)]
  exact runF_ok (F := d_way_in.df) (io := []) rfl (by decide) rfl rfl
theorem run_is_customer (m : Nat) (x0 : D) (x1 : D) : phi Fs (m + 1) "is_customer" [.dat x0, .dat x1] = endF false [] (evS.go (phi Fs m) b_is_customer [.dat x0, .dat x1]) := by
  rw [st (F := d_is_customer) (by kernel_rfl)]
  exact runF_ok (F := d_is_customer.df) (io := []) rfl (by decide) rfl rfl
theorem run_is_site (m : Nat) (x0 : D) (x1 : D) : phi Fs (m + 1) "is_site" [.dat x0, .dat x1] = endF false [] (evS.go (phi Fs m) b_is_site [.dat x0, .dat x1]) := by
  rw [st (F := d_is_site) (by kernel_rfl)]
  exact runF_ok (F := d_is_site.df) (io := []) rfl (by decide) rfl rfl
theorem run_are_sites (m : Nat) (x0 : D) (x1 : D) : phi Fs (m + 1) "are_sites" [.dat x0, .dat x1] = endF false [] (evS.go (phi Fs m) b_are_sites [.dat x0, .dat x1, .none, .none, .none]) := by
  rw [st (F := d_are_sites) (by kernel_rfl)]
  exact runF_ok (F := d_are_sites.df) (io := []) rfl (by decide) rfl rfl
theorem run_is_wood (m : Nat) (x0 : D) : phi Fs (m + 1) "is_wood" [.dat x0] = endF false [] (evS.go (phi Fs m) b_is_wood [.dat x0, .none, .none]) := by
  rw [st (F := d_is_wood) (by kernel_rfl)]
  exact runF_ok (F := d_is_wood.df) (io := []) rfl (by decide) rfl rfl
theorem run_want_wood (m : Nat) (x0 : D) : phi Fs (m + 1) "want_wood" [.dat x0] = endF false [] (evS.go (phi Fs m) b_want_wood [.dat x0]) := by
  rw [st (F := d_want_wood) (by kernel_rfl)]
  exact runF_ok (F := d_want_wood.df) (io := []) rfl (by decide) rfl rfl
theorem run_does_reach (m : Nat) (x0 : D) (x1 : D) (x2 : D) : phi Fs (m + 1) "does_reach" [.dat x0, .dat x1, .dat x2] = endF false [] (evS.go (phi Fs m) b_does_reach [.dat x0, .dat x1, .dat x2, .none, .none, .none, .none]) := by
  rw [st (F := d_does_reach) (by kernel_rfl)]
  exact runF_ok (F := d_does_reach.df) (io := []) rfl (by decide) rfl rfl
theorem run_reached_by (m : Nat) (x0 : D) (x1 : D) : phi Fs (m + 1) "reached_by" [.dat x0, .dat x1] = endF false [] (evS.go (phi Fs m) b_reached_by [.dat x0, .dat x1, .none]) := by
  rw [st (F := d_reached_by) (by kernel_rfl)]
  exact runF_ok (F := d_reached_by.df) (io := []) rfl (by decide) rfl rfl
theorem run_is_open_of (m : Nat) (x0 : D) (x1 : D) : phi Fs (m + 1) "is_open_of" [.dat x0, .dat x1] = endF false [] (evS.go (phi Fs m) b_is_open_of [.dat x0, .dat x1]) := by
  rw [st (F := d_is_open_of) (by kernel_rfl)]
  exact runF_ok (F := d_is_open_of.df) (io := []) rfl (by decide) rfl rfl
theorem run_is_prices_of (m : Nat) (x0 : D) (x1 : D) : phi Fs (m + 1) "is_prices_of" [.dat x0, .dat x1] = endF false [] (evS.go (phi Fs m) b_is_prices_of [.dat x0, .dat x1, .none]) := by
  rw [st (F := d_is_prices_of) (by kernel_rfl)]
  exact runF_ok (F := d_is_prices_of.df) (io := []) rfl (by decide) rfl rfl
theorem run_reach_in (m : Nat) (x0 : D) (x1 : D) : phi Fs (m + 1) "reach_in" [.dat x0, .dat x1] = endF false [] (evS.go (phi Fs m) b_reach_in [.dat x0, .dat x1, .none, .none]) := by
  rw [st (F := d_reach_in) (by kernel_rfl)]
  exact runF_ok (F := d_reach_in.df) (io := []) rfl (by decide) rfl rfl
theorem run_left_in (m : Nat) (x0 : D) (x1 : D) : phi Fs (m + 1) "left_in" [.dat x0, .dat x1] = endF false [] (evS.go (phi Fs m) b_left_in [.dat x0, .dat x1, .none, .none]) := by
  rw [st (F := d_left_in) (by kernel_rfl)]
  exact runF_ok (F := d_left_in.df) (io := []) rfl (by decide) rfl rfl
theorem run_cost_in (m : Nat) (x0 : D) (x1 : D) : phi Fs (m + 1) "cost_in" [.dat x0, .dat x1] = endF false [] (evS.go (phi Fs m) b_cost_in [.dat x0, .dat x1, .none, .none, .none]) := by
  rw [st (F := d_cost_in) (by kernel_rfl)]
  exact runF_ok (F := d_cost_in.df) (io := []) rfl (by decide) rfl rfl
theorem run_earned_in (m : Nat) (x0 : D) (x1 : D) (x2 : D) : phi Fs (m + 1) "earned_in" [.dat x0, .dat x1, .dat x2] = endF false [] (evS.go (phi Fs m) b_earned_in [.dat x0, .dat x1, .dat x2, .none]) := by
  rw [st (F := d_earned_in) (by kernel_rfl)]
  exact runF_ok (F := d_earned_in.df) (io := []) rfl (by decide) rfl rfl
theorem run_is_sound_in (m : Nat) (x0 : D) (x1 : D) : phi Fs (m + 1) "is_sound_in" [.dat x0, .dat x1] = endF false [] (evS.go (phi Fs m) b_is_sound_in [.dat x0, .dat x1, .none, .none, .none, .none]) := by
  rw [st (F := d_is_sound_in) (by kernel_rfl)]
  exact runF_ok (F := d_is_sound_in.df) (io := []) rfl (by decide) rfl rfl
theorem run_are_sound_in (m : Nat) (x0 : D) (x1 : D) : phi Fs (m + 1) "are_sound_in" [.dat x0, .dat x1] = endF false [] (evS.go (phi Fs m) b_are_sound_in [.dat x0, .dat x1]) := by
  rw [st (F := d_are_sound_in) (by kernel_rfl)]
  exact runF_ok (F := d_are_sound_in.df) (io := []) rfl (by decide) rfl rfl
theorem run_best_in (m : Nat) (x0 : D) : phi Fs (m + 1) "best_in" [.dat x0] = endF false [] (evS.go (phi Fs m) b_best_in [.dat x0, .none, .none, .none, .none, .none, .none, .none, .none, .none, .none, .none, .none]) := by
  rw [st (F := d_best_in) (by kernel_rfl)]
  exact runF_ok (F := d_best_in.df) (io := []) rfl (by decide) rfl rfl
theorem run_least_in (m : Nat) (x0 : D) : phi Fs (m + 1) "least_in" [.dat x0] = endF false [] (evS.go (phi Fs m) b_least_in [.dat x0]) := by
  rw [st (F := d_least_in) (by kernel_rfl)]
  exact runF_ok (F := d_least_in.df) (io := []) rfl (by decide) rfl rfl
theorem run_is_best_in (m : Nat) (x0 : D) (x1 : D) : phi Fs (m + 1) "is_best_in" [.dat x0, .dat x1] = endF false [] (evS.go (phi Fs m) b_is_best_in [.dat x0, .dat x1]) := by
  rw [st (F := d_is_best_in) (by kernel_rfl)]
  exact runF_ok (F := d_is_best_in.df) (io := []) rfl (by decide) rfl rfl
theorem run_want_budget (m : Nat) (x0 : D) : phi Fs (m + 1) "want_budget" [.dat x0] = endF false [] (evS.go (phi Fs m) b_want_budget [.dat x0]) := by
  rw [st (F := d_want_budget) (by kernel_rfl)]
  exact runF_ok (F := d_want_budget.df) (io := []) rfl (by decide) rfl rfl
theorem run_least_cost (m : Nat) (x0 : D) : phi Fs (m + 1) "least_cost" [.dat x0] = endF false [] (evS.go (phi Fs m) b_least_cost [.dat x0]) := by
  rw [st (F := d_least_cost) (by kernel_rfl)]
  exact runF_ok (F := d_least_cost.df) (io := []) rfl (by decide) rfl rfl
theorem run_best_paper (m : Nat) (x0 : D) : phi Fs (m + 1) "best_paper" [.dat x0] = endF false [] (evS.go (phi Fs m) b_best_paper [.dat x0]) := by
  rw [st (F := d_best_paper) (by kernel_rfl)]
  exact runF_ok (F := d_best_paper.df) (io := []) rfl (by decide) rfl rfl
theorem run_is_best_paper (m : Nat) (x0 : D) (x1 : D) : phi Fs (m + 1) "is_best_paper" [.dat x0, .dat x1] = endF false [] (evS.go (phi Fs m) b_is_best_paper [.dat x0, .dat x1]) := by
  rw [st (F := d_is_best_paper) (by kernel_rfl)]
  exact runF_ok (F := d_is_best_paper.df) (io := []) rfl (by decide) rfl rfl
theorem run_budget_paper (m : Nat) (x0 : D) (x1 : D) : phi Fs (m + 1) "budget_paper" [.dat x0, .dat x1] = endF false [] (evS.go (phi Fs m) b_budget_paper [.dat x0, .dat x1, .none, .none, .none]) := by
  rw [st (F := d_budget_paper) (by kernel_rfl)]
  exact runF_ok (F := d_budget_paper.df) (io := []) rfl (by decide) rfl rfl
theorem run_is_budget_paper (m : Nat) (x0 : D) (x1 : D) (x2 : D) : phi Fs (m + 1) "is_budget_paper" [.dat x0, .dat x1, .dat x2] = endF false [] (evS.go (phi Fs m) b_is_budget_paper [.dat x0, .dat x1, .dat x2]) := by
  rw [st (F := d_is_budget_paper) (by kernel_rfl)]
  exact runF_ok (F := d_is_budget_paper.df) (io := []) rfl (by decide) rfl rfl
theorem run_law_pot (m : Nat) (x0 : D) (x1 : D) : phi Fs (m + 1) "_law_pot" [.dat x0, .dat x1] = endF true [] (evS.go (phi Fs m) b_law_pot [.dat x0, .dat x1, .none]) := by
  rw [st (F := d_law_pot) (by kernel_rfl)]
  exact runF_ok (F := d_law_pot.df) (io := []) rfl (by decide) rfl rfl
theorem run_law_draw (m : Nat) (x0 : List D) (x1 : D) : phi Fs (m + 1) "_law_draw" [.own x0, .dat x1] = endF false [0] (evS.go (phi Fs m) b_law_draw [.own x0, .dat x1, .none]) := by
  rw [st (F := d_law_draw) (by kernel_rfl)]
  exact runF_ok (F := d_law_draw.df) (io := [0]) rfl (by decide) rfl rfl
theorem run_law_made (m : Nat) (x0 : D) (x1 : D) : phi Fs (m + 1) "_law_made" [.dat x0, .dat x1] = endF false [] (evS.go (phi Fs m) b_law_made [.dat x0, .dat x1, .none, .none, .none]) := by
  rw [st (F := d_law_made) (by kernel_rfl)]
  exact runF_ok (F := d_law_made.df) (io := []) rfl (by decide) rfl rfl
theorem run_law_plus (m : Nat) (x0 : D) (x1 : D) : phi Fs (m + 1) "_law_plus" [.dat x0, .dat x1] = endF false [] (evS.go (phi Fs m) b_law_plus [.dat x0, .dat x1]) := by
  rw [st (F := d_law_plus) (by kernel_rfl)]
  exact runF_ok (F := d_law_plus.df) (io := []) rfl (by decide) rfl rfl
theorem run_law_minus (m : Nat) (x0 : D) (x1 : D) : phi Fs (m + 1) "_law_minus" [.dat x0, .dat x1] = endF false [] (evS.go (phi Fs m) b_law_minus [.dat x0, .dat x1]) := by
  rw [st (F := d_law_minus) (by kernel_rfl)]
  exact runF_ok (F := d_law_minus.df) (io := []) rfl (by decide) rfl rfl
theorem run_law_sum (m : Nat) (x0 : D) : phi Fs (m + 1) "_law_sum" [.dat x0] = endF false [] (evS.go (phi Fs m) b_law_sum [.dat x0, .none, .none]) := by
  rw [st (F := d_law_sum) (by kernel_rfl)]
  exact runF_ok (F := d_law_sum.df) (io := []) rfl (by decide) rfl rfl
theorem run_law_is_less (m : Nat) (x0 : D) (x1 : D) : phi Fs (m + 1) "_law_is_less" [.dat x0, .dat x1] = endF false [] (evS.go (phi Fs m) b_law_is_less [.dat x0, .dat x1]) := by
  rw [st (F := d_law_is_less) (by kernel_rfl)]
  exact runF_ok (F := d_law_is_less.df) (io := []) rfl (by decide) rfl rfl
theorem run_law_tree (m : Nat) (x0 : List D) (x1 : D) (x2 : D) : phi Fs (m + 1) "_law_tree" [.own x0, .dat x1, .dat x2] = endF false [0] (evS.go (phi Fs m) b_law_tree [.own x0, .dat x1, .dat x2, .none, .none]) := by
  rw [st (F := d_law_tree) (by kernel_rfl)]
  exact runF_ok (F := d_law_tree.df) (io := [0]) rfl (by decide) rfl rfl
theorem run_law_depths (m : Nat) (x0 : D) : phi Fs (m + 1) "_law_depths" [.dat x0] = endF false [] (evS.go (phi Fs m) b_law_depths [.dat x0, .none, .none, .none]) := by
  rw [st (F := d_law_depths) (by kernel_rfl)]
  exact runF_ok (F := d_law_depths.df) (io := []) rfl (by decide) rfl rfl
theorem run_law_up (m : Nat) (x0 : D) (x1 : D) : phi Fs (m + 1) "_law_up" [.dat x0, .dat x1] = endF false [] (evS.go (phi Fs m) b_law_up [.dat x0, .dat x1, .none]) := by
  rw [st (F := d_law_up) (by kernel_rfl)]
  exact runF_ok (F := d_law_up.df) (io := []) rfl (by decide) rfl rfl
theorem run_law_way (m : Nat) (x0 : D) (x1 : D) (x2 : D) : phi Fs (m + 1) "_law_way" [.dat x0, .dat x1, .dat x2] = endF false [] (evS.go (phi Fs m) b_law_way [.dat x0, .dat x1, .dat x2, .none, .none, .none, .none]) := by
  rw [st (F := d_law_way) (by kernel_rfl)]
  exact runF_ok (F := d_law_way.df) (io := []) rfl (by decide) rfl rfl
theorem run_law_sites (m : Nat) (x0 : List D) (x1 : D) (x2 : D) (x3 : D) : phi Fs (m + 1) "_law_sites" [.own x0, .dat x1, .dat x2, .dat x3] = endF false [0] (evS.go (phi Fs m) b_law_sites [.own x0, .dat x1, .dat x2, .dat x3, .none, .none]) := by
  rw [st (F := d_law_sites) (by kernel_rfl)]
  exact runF_ok (F := d_law_sites.df) (io := [0]) rfl (by decide) rfl rfl
theorem run_law_wood (m : Nat) (x0 : List D) (x1 : D) (x2 : D) (x3 : D) : phi Fs (m + 1) "_law_wood" [.own x0, .dat x1, .dat x2, .dat x3] = endF false [0] (evS.go (phi Fs m) b_law_wood [.own x0, .dat x1, .dat x2, .dat x3, .none, .none, .none, .none]) := by
  rw [st (F := d_law_wood) (by kernel_rfl)]
  exact runF_ok (F := d_law_wood.df) (io := [0]) rfl (by decide) rfl rfl
theorem run_law_reached (m : Nat) (x0 : D) (x1 : D) : phi Fs (m + 1) "_law_reached" [.dat x0, .dat x1] = endF true [] (evS.go (phi Fs m) b_law_reached [.dat x0, .dat x1, .none, .none, .none]) := by
  rw [st (F := d_law_reached) (by kernel_rfl)]
  exact runF_ok (F := d_law_reached.df) (io := []) rfl (by decide) rfl rfl
theorem run_law_ratio (m : Nat) (x0 : List D) (x1 : D) : phi Fs (m + 1) "_law_ratio" [.own x0, .dat x1] = endF false [0] (evS.go (phi Fs m) b_law_ratio [.own x0, .dat x1]) := by
  rw [st (F := d_law_ratio) (by kernel_rfl)]
  exact runF_ok (F := d_law_ratio.df) (io := [0]) rfl (by decide) rfl rfl
theorem run_law_subsets (m : Nat) (x0 : D) : phi Fs (m + 1) "_law_subsets" [.dat x0] = endF false [] (evS.go (phi Fs m) b_law_subsets [.dat x0, .none, .none, .none]) := by
  rw [st (F := d_law_subsets) (by kernel_rfl)]
  exact runF_ok (F := d_law_subsets.df) (io := []) rfl (by decide) rfl rfl
theorem run_law_left (m : Nat) (x0 : D) (x1 : D) : phi Fs (m + 1) "_law_left" [.dat x0, .dat x1] = endF false [] (evS.go (phi Fs m) b_law_left [.dat x0, .dat x1, .none, .none, .none]) := by
  rw [st (F := d_law_left) (by kernel_rfl)]
  exact runF_ok (F := d_law_left.df) (io := []) rfl (by decide) rfl rfl
theorem run_law_cost (m : Nat) (x0 : D) (x1 : D) : phi Fs (m + 1) "_law_cost" [.dat x0, .dat x1] = endF false [] (evS.go (phi Fs m) b_law_cost [.dat x0, .dat x1, .none, .none]) := by
  rw [st (F := d_law_cost) (by kernel_rfl)]
  exact runF_ok (F := d_law_cost.df) (io := []) rfl (by decide) rfl rfl
theorem run_law_least (m : Nat) (x0 : D) : phi Fs (m + 1) "_law_least" [.dat x0] = endF false [] (evS.go (phi Fs m) b_law_least [.dat x0, .none]) := by
  rw [st (F := d_law_least) (by kernel_rfl)]
  exact runF_ok (F := d_law_least.df) (io := []) rfl (by decide) rfl rfl
theorem run_law_is_ratio (m : Nat) (x0 : D) : phi Fs (m + 1) "_law_is_ratio" [.dat x0] = endF false [] (evS.go (phi Fs m) b_law_is_ratio [.dat x0, .none]) := by
  rw [st (F := d_law_is_ratio) (by kernel_rfl)]
  exact runF_ok (F := d_law_is_ratio.df) (io := []) rfl (by decide) rfl rfl
theorem run_law_are_prices (m : Nat) (x0 : D) (x1 : D) : phi Fs (m + 1) "_law_are_prices" [.dat x0, .dat x1] = endF false [] (evS.go (phi Fs m) b_law_are_prices [.dat x0, .dat x1, .none]) := by
  rw [st (F := d_law_are_prices) (by kernel_rfl)]
  exact runF_ok (F := d_law_are_prices.df) (io := []) rfl (by decide) rfl rfl
theorem run_law_are_sound (m : Nat) (x0 : D) (x1 : D) : phi Fs (m + 1) "_law_are_sound" [.dat x0, .dat x1] = endF false [] (evS.go (phi Fs m) b_law_are_sound [.dat x0, .dat x1, .none, .none, .none, .none, .none, .none]) := by
  rw [st (F := d_law_are_sound) (by kernel_rfl)]
  exact runF_ok (F := d_law_are_sound.df) (io := []) rfl (by decide) rfl rfl
theorem run_law_is_open (m : Nat) (x0 : D) (x1 : D) : phi Fs (m + 1) "_law_is_open" [.dat x0, .dat x1] = endF false [] (evS.go (phi Fs m) b_law_is_open [.dat x0, .dat x1, .none, .none, .none]) := by
  rw [st (F := d_law_is_open) (by kernel_rfl)]
  exact runF_ok (F := d_law_is_open.df) (io := []) rfl (by decide) rfl rfl
theorem run_law_is_budget_paper (m : Nat) (x0 : D) (x1 : D) (x2 : D) : phi Fs (m + 1) "_law_is_budget_paper" [.dat x0, .dat x1, .dat x2] = endF false [] (evS.go (phi Fs m) b_law_is_budget_paper [.dat x0, .dat x1, .dat x2]) := by
  rw [st (F := d_law_is_budget_paper) (by kernel_rfl)]
  exact runF_ok (F := d_law_is_budget_paper.df) (io := []) rfl (by decide) rfl rfl
theorem run_law_budget_right (m : Nat) (x0 : D) (x1 : D) (x2 : D) : phi Fs (m + 1) "_law_budget_right" [.dat x0, .dat x1, .dat x2] = endF false [] (evS.go (phi Fs m) b_law_budget_right [.dat x0, .dat x1, .dat x2, .none, .none, .none]) := by
  rw [st (F := d_law_budget_right) (by kernel_rfl)]
  exact runF_ok (F := d_law_budget_right.df) (io := []) rfl (by decide) rfl rfl
theorem run_law_right (m : Nat) (x0 : List D) : phi Fs (m + 1) "_law_right" [.own x0] = endF false [0] (evS.go (phi Fs m) b_law_right [.own x0, .none, .none, .none, .none, .none, .none, .none]) := by
  rw [st (F := d_law_right) (by kernel_rfl)]
  exact runF_ok (F := d_law_right.df) (io := [0]) rfl (by decide) rfl rfl
theorem run_law (m : Nat) (x0 : D) : phi Fs (m + 1) "law" [.dat x0] = endF false [] (evS.go (phi Fs m) b_law [.dat x0]) := by
  rw [st (F := d_law) (by kernel_rfl)]
  exact runF_ok (F := d_law.df) (io := []) rfl (by decide) rfl rfl

theorem checked : ∀ F ∈ Fs, defB (tblOf Fs free csts mods) F = true := by
  have h : Fs.all (defB (tblOf Fs free csts mods)) = true := by decide +kernel
  exact fun F hF => List.all_eq_true.mp h F hF
end K41
set_option Elab.async false
set_option linter.all false
set_option maxRecDepth 100000
set_option maxHeartbeats 1000000
namespace K41
open PySem PySem.Spec L2 Iv Tr Kp
theorem is_integer_ (m : Nat) (d : D) : phi Fs (m + 1) "is_integer" [.dat d] = .ok (.bl (isInt d)) [] := by
  rw [run_is_integer, ← isInt_eq]
  simp [b_is_integer]
  cases d.isA "int" <;> simp
theorem is_within_ (m : Nat) (d : D) (lo hi : Int) : phi Fs (m + 2) "is_within" [.dat d, .dat (.int lo), .dat (.int hi)] = .ok (.bl (within d lo hi)) [] := by
  rw [run_is_within]
  simp [b_is_within, is_integer_]
  cases d <;> simp [isInt, within]
  rename_i i
  by_cases h : lo ≤ i <;> simp [h]
theorem is_row_ (m : Nat) (d : D) (k : Int) : phi Fs (m + 1) "is_row" [.dat d, .dat (.int k)] = .ok (.bl (isRow d k)) [] := by
  rw [run_is_row]
  cases d <;> simp [b_is_row, D.isA, isRow]
theorem is_tie_ (m : Nat) (d : D) (k : Int) : phi Fs (m + 3) "is_tie" [.dat d, .dat (.int k)] = .ok (.bl (isTie d k)) [] := by
  rw [run_is_tie]
  simp [b_is_tie, is_row_]
  cases d with
  | tup xs =>
    match xs with
    | [] => simp [isRow, isTie]
    | [a] => simp [isRow, isTie]
    | [a, b] =>
      simp [isRow, isTie, is_within_]
      cases within a 0 k <;> simp
    | a :: b :: c :: r =>
      have : ¬ ((r.length : Int) + 1 + 1 + 1 = 2) := by omega
      simp [isRow, isTie, this]
  | _ => simp [isRow, isTie]
theorem is_tree_ (m : Nat) (d : D) (hs : ∀ s b, d = .tup [.str s, b] → shOk (.str s) = true) : phi Fs (m + 4) "is_tree" [.dat d] = .ok (.bl (isTree d)) [] := by
  rw [run_is_tree]
  simp [b_is_tree, is_row_]
  cases d with
  | tup xs =>
    match xs with
    | [] => simp [isRow, isTree]
    | [a] => simp [isRow, isTree]
    | a :: b :: c :: r =>
      have : ¬ ((r.length : Int) + 1 + 1 + 1 = 2) := by omega
      simp [isRow, isTree, this]
    | [a, b] =>
      cases a with
      | str s =>
        simp [isRow, isTree, D.isA, neD_str (hs s b rfl) tree_str]
        by_cases q : s = ("tree" : Str)
        · subst q
          simp
          cases b with
          | tup ys =>
            simp
            by_cases hl : ys.length < 24
            · have hl' : ¬ (24 ≤ (ys.length : Int)) := by omega
              simp [hl, hl']
              rw [compL_pure (enumF fun d i => some (.bl (isTie d i))) (ρw := [.dat (.tup [.str ("tree" : Str), .tup ys]), .none, .none]) (by rw [enumD_len, line]; omega) rfl rfl fun x hx => ?_]
              · rw [enumD_filterMap]
                simp [allD_map, backE]
              · obtain ⟨d, i, rfl, hi⟩ := enumD_mem hx
                simp [turnC, e_is_tree_0, is_tie_, noOwn, wipeE]
            · have hl' : (24 ≤ (ys.length : Int)) := by omega
              simp [hl, hl']
          | _ => simp
        · simp [q]
          cases b <;> simp [q]
      | _ => simp [isRow, isTree, D.isA]
  | _ => simp [isRow, isTree]
theorem draw_run (m : Nat) {a b k : Int} (hb : 0 ≤ b) (hb2 : b ≤ 2147483647) (hk : 0 < k) (hk2 : k < 1000000) : phi Fs (m + 1) "_law_draw" [.own [.int a, .int b], .dat (.int k)] =
    if 0 < a then .ok (.int (a % k)) [[.int (a / k), .int b]] else .ok (.int (nextB b * nextB b % 2147483563 / 19 % k)) [[.int a, .int (nextB b)]] := by
  rw [run_law_draw]
  simp [b_law_draw]
  by_cases h : 0 < a
  · simp [h, divmodD_small hk (by omega), setAt_0]
  · have e1 : mulOk b 39373 = true := mulOk_l (by omega)
    have hn := nextB_ok b
    have e2 : mulOk (nextB b) (nextB b) = true := mulOk_l (by omega)
    unfold nextB at e2
    have e3 : Nat.log2 19 < 9000 := by decide +kernel
    simp [h, e1, setAt_1, e2, hk, e3, nextB]
theorem draw_ (m : Nat) {p : List D} (hp : Pot p) {k : Int} (hk : 0 < k) (hk2 : k < 1000000) : ∃ d p', phi Fs (m + 1) "_law_draw" [.own p, .dat (.int k)] = .ok (.int d) [p'] ∧ Pot p' ∧ 0 ≤ d ∧ d < k := by
  obtain ⟨a, b, rfl, ha, hb, hb2⟩ := hp
  rw [draw_run m hb hb2 hk hk2]
  by_cases h : 0 < a
  · rw [if_pos h]
    exact ⟨_, _, rfl, ⟨_, _, rfl, Int.ediv_nonneg (by omega) (by omega), hb, hb2⟩, Int.emod_nonneg _ (by omega), Int.emod_lt_of_pos _ hk⟩
  · rw [if_neg h]
    have hn := nextB_ok b
    exact ⟨_, _, rfl, ⟨_, _, rfl, ha, by omega, by omega⟩, Int.emod_nonneg _ (by omega), Int.emod_lt_of_pos _ hk⟩
theorem pot_ (m : Nat) (ns : List Int) : ∃ p, phi Fs (m + 1) "_law_pot" [.dat (.lst (ns.map D.int)), .dat (.int 0)] = .ok (.lst p) [] ∧ Pot p := by
  rw [run_law_pot]
  have e1 : ∀ x : Int, mulOk (x % 2147483549) 40014 = true := fun x => mulOk_r (by omega)
  have e2 : mulOk 1621 0 = true := by decide +kernel
  have e3 : mulOk 7331 0 = true := by decide +kernel
  have e4 : powD (.int 10) (.int 18) = some (.int 1000000000000000000) := by rfl
  have e5 : mulOk 7331 40014 = true := by decide +kernel
  have fin : ∀ c : Int, Pot [.int (if 1000000000000000000 < c then c - 1000000000000000000 else 0), .int ((c % 2147483549 * 40014 + 61) % 2147483563 + 1)] := fun c => by
    refine ⟨_, _, rfl, ?_, ?_, ?_⟩
    · split <;> omega
    · have := Int.emod_nonneg (c % 2147483549 * 40014 + 61) (show (2147483563 : Int) ≠ 0 by omega)
      omega
    · have := Int.emod_lt_of_pos (c % 2147483549 * 40014 + 61) (show (0 : Int) < 2147483563 by omega)
      omega
  cases ns with
  | nil =>
    simp [b_law_pot, e1, e2, e3, e4, e5]
    exact ⟨_, _, rfl, by omega, by omega, by omega⟩
  | cons n ns =>
    have hl : (0 : Int) < (ns.length : Int) + 1 := by omega
    simp [b_law_pot, e1, e2, e3, e4, hl]
    exact fin _
theorem father_of_ (m : Nat) {ts : Ties} {p : Nat} (h : 0 < p) (hl : p ≤ ts.length) : phi Fs (m + 1) "father_of" [.dat (treeD ts), .dat (natD p)] = .ok (natD (fat ts p)) [] := by
  rw [run_father_of]
  have e : ((p : Int) - 1) = ((p - 1 : Nat) : Int) := by omega
  have e2 : ts[p - 1]? = some ts[p - 1] := List.getElem?_eq_getElem (by omega)
  simp [b_father_of, treeD, natD, e, ties_at (show p - 1 < ts.length by omega), tieD, fat, e2]
theorem place_count_ (m : Nat) (ts : Ties) : phi Fs (m + 1) "place_count" [.dat (treeD ts)] = .ok (natD (ts.length + 1)) [] := by
  rw [run_place_count]
  simp [b_place_count, treeD, natD]
theorem is_rising_ (m : Nat) (l : List Int) (hl : l.length ≤ 1000) : phi Fs (m + 1) "is_rising" [.dat (.lst (l.map D.int))] = .ok (.bl (risingI l)) [] := by
  rw [run_is_rising]
  simp [b_is_rising, cutL_lo1, -List.map_drop, -List.drop_one]
  rw [zip_next]
  rw [compL_pure (fun x => match x with | .tup [.int a, .int b] => some (.bl (decide (a < b))) | _ => none) (ρw := [.dat (.lst (l.map D.int)), .none, .none])
    (by rw [List.length_map, List.length_zip]; exact small_line (by omega)) rfl rfl fun x hx => ?_]
  · rw [List.filterMap_map]
    have e : (l.zip (l.drop 1)).filterMap ((fun x => match x with | D.tup [.int a, .int b] => some (D.bl (decide (a < b))) | _ => none) ∘ fun p => D.tup [.int p.1, .int p.2]) = (l.zip (l.drop 1)).map fun p => D.bl (decide (p.1 < p.2)) := filterMap_all _ _
    rw [e]
    have ea : allD (.lst ((l.zip (l.drop 1)).map fun p => D.bl (decide (p.1 < p.2)))) = some (.bl (risingI l)) := allD_map _ _
    simp [-List.drop_one, backE, ea]
  · obtain ⟨p, hp, rfl⟩ := List.mem_map.mp hx
    simp [turnC, e_is_rising_0, noOwn, wipeE]
theorem is_customer_ (m : Nat) (d : D) (k : Int) : phi Fs (m + 3) "is_customer" [.dat d, .dat (.int k)] = .ok (.bl (isCust d k)) [] := by
  rw [run_is_customer]
  simp [b_is_customer, is_row_]
  cases d with
  | tup xs =>
    by_cases hl : xs.length = 4
    · obtain ⟨a, b, c, e, rfl⟩ := of_len4 hl
      simp [isRow, isCust, is_within_]
      cases within a 0 (k - 1) <;> cases within b 0 9999 <;> simp [is_within_] <;> cases within c 0 99 <;> simp [is_within_]
    · have hl' : ¬ ((xs.length : Int) = 4) := by omega
      simp [isCust_len hl, isRow, hl']
  | _ => simp [isRow, isCust]
theorem is_site_ (m : Nat) (d : D) (k : Int) : phi Fs (m + 3) "is_site" [.dat d, .dat (.int k)] = .ok (.bl (isSite d k)) [] := by
  rw [run_is_site]
  simp [b_is_site, is_row_]
  cases d with
  | tup xs =>
    by_cases hl : xs.length = 2
    · obtain ⟨a, b, rfl⟩ := of_len2 hl
      simp [isRow, isSite, is_within_]
      cases within a 0 (k - 1) <;> simp
    · have hl' : ¬ ((xs.length : Int) = 2) := by omega
      simp [isSite_len hl, isRow, hl']
  | _ => simp [isRow, isSite]
theorem are_sites_ (m : Nat) (d : D) (k : Int) : phi Fs (m + 4) "are_sites" [.dat d, .dat (.int k)] = .ok (.bl (areSites d k)) [] := by
  rw [run_are_sites]
  simp [b_are_sites]
  cases d with
  | tup xs =>
    simp
    by_cases hl : xs.length ≤ 10
    · have hl' : ¬ (10 < (xs.length : Int)) := by omega
      simp [hl']
      rw [compL_pure (fun x => some (.bl (isSite x k))) (ρw := [.dat (.tup xs), .dat (.int k), .none, .none, .none]) (small_line (by omega)) rfl rfl fun x hx => ?_]
      · rw [filterMap_all]
        obtain ⟨b, hb⟩ : ∃ b, (xs.all fun x => isSite x k) = b := ⟨_, rfl⟩
        have ea : allD (.lst (xs.map fun x => D.bl (isSite x k))) = some (.bl b) := by rw [allD_map, hb]
        simp [ea, backE]
        cases b with
        | true =>
          simp
          rw [compL_pure (fun x => some (.int (site0 x))) (ρw := [.dat (.tup xs), .dat (.int k), .none, .none, .none]) (small_line (by omega)) rfl rfl fun x hx => ?_]
          · have e : xs.filterMap (fun x => some (D.int (site0 x))) = (xs.map site0).map D.int := by
              rw [filterMap_all, List.map_map]
              rfl
            rw [e]
            simp only [areSites, hb, decide_eq_true hl, Bool.true_and]
            simp [-List.map_map, is_rising_ (m + 2) (xs.map site0) (by rw [List.length_map]; omega), backE]
          · obtain ⟨c, e⟩ := site_first (List.all_eq_true.mp hb x hx)
            rw [e]
            simp [turnC, e_are_sites_1, noOwn, wipeE, site0]
        | false =>
          simp only [areSites, hb, decide_eq_true hl, Bool.true_and, Bool.false_and]
          simp
      · simp [turnC, e_are_sites_0, is_site_, noOwn, wipeE]
    · have hl' : 10 < (xs.length : Int) := by omega
      simp [hl', areSites, hl]
  | _ => simp [areSites]
theorem is_wood_ (m : Nat) (d : D) {k w : Nat} (hf : Fit d k w) : phi Fs (m + 5) "is_wood" [.dat d] = .ok (.bl (isWood d)) [] := by
  rw [run_is_wood]
  simp [b_is_wood, is_row_]
  cases d with
  | tup xs =>
    by_cases hl : xs.length = 4
    · obtain ⟨a, t, c, e, rfl⟩ := of_len4 hl
      have ft := hf.item t (by simp)
      cases a with
      | str s =>
        have hs : shOk (.str s) = true := hf.key
        simp [isRow, isWood, neD_str hs wood_str]
        by_cases q : s = ("wood" : Str)
        · subst q
          simp [is_tree_ m t ft.keyOf]
          by_cases ht : isTree t = true
          · obtain ⟨ts, rfl, g⟩ := tree_back ht
            have pc : phi Fs (m + 4) "place_count" [.dat (treeD ts)] = .ok (.int ((ts.length : Int) + 1)) [] := by
              rw [place_count_]
              rfl
            simp [ht, pc, manyOf_tree]
            cases c with
            | tup cs =>
              simp
              by_cases hc : cs.length ≤ 12
              · have hc' : ¬ (12 < (cs.length : Int)) := by omega
                simp [hc']
                rw [compL_pure (fun x => some (.bl (isCust x ((ts.length : Int) + 1)))) (ρw := [.dat (.tup [.str ("wood" : Str), treeD ts, .tup cs, e]), .dat (.int ((ts.length : Int) + 1)), .none]) (small_line (by omega)) rfl rfl fun x hx => ?_]
                · rw [filterMap_all]
                  obtain ⟨b, hb⟩ : ∃ b, (cs.all fun x => isCust x ((ts.length : Int) + 1)) = b := ⟨_, rfl⟩
                  have ea : allD (.lst (cs.map fun x => D.bl (isCust x ((ts.length : Int) + 1)))) = some (.bl b) := by rw [allD_map, hb]
                  have eb : areCusts (.tup cs) ((ts.length : Int) + 1) = b := by simp only [areCusts, hb, decide_eq_true hc, Bool.true_and]
                  simp [ea, backE, eb]
                  cases b <;> simp [are_sites_]
                · simp [turnC, e_is_wood_0, is_customer_, noOwn, wipeE]
              · have hc' : 12 < (cs.length : Int) := by omega
                simp [hc', areCusts, hc]
            | _ => simp [areCusts]
          · have ht' : isTree t = false := by simpa using ht
            simp [ht']
        · simp [q]
      | _ => simp [isRow, isWood]
    · have hl' : ¬ ((xs.length : Int) = 4) := by omega
      simp [isWood_len hl, isRow, hl']
  | _ => simp [isRow, isWood]
theorem path_up_ (m : Nat) {ts : Ties} (g : GoodT ts) {p : Nat} (hp : p ≤ ts.length) : phi Fs (m + 2) "path_up" [.dat (treeD ts), .dat (natD p)] = .ok (.lst ((up ts p).map natD)) [] := by
  rw [run_path_up]
  simp [b_path_up]
  obtain ⟨ρ', h1, rfl⟩ := whlF_run (c := evC (phi Fs (m + 1)) w_path_up_0) (b := evS.go (phi Fs (m + 1)) l_path_up_1) (ρ := [.dat (treeD ts), .dat (natD p), .own [natD p]]) (k := p)
    (fun k ρ => ∃ acc, ρ = [.dat (treeD ts), .dat (natD p), .own ((acc ++ [k]).map natD)] ∧ acc ++ up ts k = up ts p ∧ k ≤ ts.length)
    (fun ρ => ρ = [.dat (treeD ts), .dat (natD p), .own ((up ts p).map natD)]) (fun k ρ ⟨acc, hρ, ha, hk⟩ => by
      subst hρ
      simp only [w_path_up_0]
      simp [-List.map_append, -List.map_cons, last_of]
      by_cases h0 : k = 0
      · subst h0
        rw [up_0] at ha
        simp [ha]
      · have hf := fat_lt g (p := k) (by omega)
        have hlen : (acc ++ [k]).length < line := by
          have := up_line g hp
          rw [← ha, up_pos g (by omega), List.length_append, List.length_cons] at this
          rw [List.length_append, List.length_singleton]
          omega
        have hlen' : ((acc ++ [k]).map natD).length < line := by rw [List.length_map]; exact hlen
        simp only [h0, if_false, l_path_up_1]
        simp [-List.map_append, -List.map_cons, -List.length_map, -List.length_append, last_of, father_of_ m (show 0 < k by omega) hk, hlen']
        refine ⟨fat ts k, hf, acc ++ [k], ?_, ?_, by omega⟩
        · simp
        · rw [← ha, up_pos g (show 0 < k by omega)]
          simp) ⟨[], rfl, rfl, hp⟩
  rw [h1]
  simp
theorem law_up_ (m : Nat) {ts : Ties} (g : GoodT ts) {p : Nat} (hp : p ≤ ts.length) : phi Fs (m + 1) "_law_up" [.dat (treeD ts), .dat (natD p)] = .ok (.lst ((up ts p).map natD)) [] := by
  rw [run_law_up]
  simp [b_law_up]
  obtain ⟨ρ', h1, rfl⟩ := whlF_run (c := evC (phi Fs m) w_law_up_0) (b := evS.go (phi Fs m) l_law_up_1) (ρ := [.dat (treeD ts), .dat (natD p), .own [natD p]]) (k := p)
    (fun k ρ => ∃ acc, ρ = [.dat (treeD ts), .dat (natD p), .own ((acc ++ [k]).map natD)] ∧ acc ++ up ts k = up ts p ∧ k ≤ ts.length)
    (fun ρ => ρ = [.dat (treeD ts), .dat (natD p), .own ((up ts p).map natD)]) (fun k ρ ⟨acc, hρ, ha, hk⟩ => by
      subst hρ
      simp only [w_law_up_0]
      simp [-List.map_append, -List.map_cons, last_of]
      by_cases h0 : k = 0
      · subst h0
        rw [up_0] at ha
        simp [ha]
      · have hpos : 0 < k := by omega
        have hf := fat_lt g hpos
        have hlen : (acc ++ [k]).length < line := by
          have := up_line g hp
          rw [← ha, up_pos g hpos, List.length_append, List.length_cons] at this
          rw [List.length_append, List.length_singleton]
          omega
        have hlen' : ((acc ++ [k]).map natD).length < line := by rw [List.length_map]; exact hlen
        have e : ((k : Int) - 1) = ((k - 1 : Nat) : Int) := by omega
        have e2 : ts[k - 1]? = some ts[k - 1] := List.getElem?_eq_getElem (by omega)
        simp only [h0, hpos, if_false, if_true, l_law_up_1]
        simp [-List.map_append, -List.map_cons, -List.length_map, -List.length_append, last_of, treeD, e, ties_at (show k - 1 < ts.length by omega), tieD, hlen']
        have e3 : ts[k - 1].1 = fat ts k := by
          unfold fat
          rw [e2]
        rw [e3]
        refine ⟨fat ts k, hf, acc ++ [k], ?_, ?_, by omega⟩
        · simp
        · rw [← ha, up_pos g hpos]
          simp) ⟨[], rfl, rfl, hp⟩
  rw [h1]
  simp
theorem depths_in_ (m : Nat) {ts : Ties} (g : GoodT ts) : phi Fs (m + 1) "depths_in" [.dat (treeD ts)] = .ok (.lst ((depthsT ts).map natD)) [] := by
  rw [run_depths_in]
  simp [b_depths_in, treeD]
  generalize hv : D.tup [D.str ("tree" : Str), D.tup (ts.map tieD)] = v
  obtain ⟨ρ', h1, a, b, rfl⟩ := forL_nx (g := evT (phi Fs m) (.tup [.nm 2, .nm 3])) (b := evS.go (phi Fs m) l_depths_in_0) (xs := ts.map tieD) (ρ := [.dat v, .own [.int 0], .none, .none])
    (fun k ρ => ∃ a b, ρ = [.dat v, .own ((depthsT (ts.take k)).map natD), a, b]) ⟨_, _, rfl⟩ (fun i x ρ hx ⟨a, b, hρ⟩ => by
      subst hρ
      rw [List.getElem?_map] at hx
      cases ht : ts[i]? with
      | none =>
        rw [ht] at hx
        cases hx
      | some q =>
        rw [ht] at hx
        cases hx
        have hf := g.fat i q ht
        have hi : i < ts.length := getElem?_lt ht
        have hl := depths_len (ts.take i)
        rw [List.length_take] at hl
        have hlen : ((depthsT (ts.take i)).map natD).length < line := by
          rw [List.length_map, hl]
          have := g.len
          unfold line
          omega
        simp only [tieD, l_depths_in_0]
        simp [-List.length_map, nat_at (show q.1 < (depthsT (ts.take i)).length by omega), hlen]
        rw [take_snoc ht, depths_snoc, dStep]
        simp)
  rw [List.length_map, List.take_length] at *
  rw [h1]
  simp
theorem law_depths_ (m : Nat) {ts : Ties} (g : GoodT ts) : phi Fs (m + 1) "_law_depths" [.dat (treeD ts)] = .ok (.lst ((depthsT ts).map natD)) [] := by
  rw [run_law_depths, show b_law_depths = b_depths_in from rfl, ← run_depths_in]
  exact depths_in_ m g
theorem path_in_ (m : Nat) {ts : Ties} (g : GoodT ts) {p q : Nat} (hp : p ≤ ts.length) (hq : q ≤ ts.length) {A B : List Nat} {t : Nat} (M : Meet ts p q A B t) :
    phi Fs (m + 3) "path_in" [.dat (treeD ts), .dat (natD p), .dat (natD q)] = .ok (.lst ((A ++ t :: B.reverse).map natD)) [] := by
  rw [run_path_in]
  simp [b_path_in, path_up_ m g hp, path_up_ m g hq, putA]
  have hlp := up_line g hp
  have hlq := up_line g hq
  obtain ⟨r, hr⟩ := up_self ts t
  obtain ⟨ρ', h1, rfl⟩ := whlF_run (c := evC (phi Fs (m + 2)) w_path_in_0) (b := evS.go (phi Fs (m + 2)) l_path_in_1) (ρ := [.dat (treeD ts), .dat (natD p), .dat (natD q), .own ((up ts p).map natD), .own ((up ts q).map natD)]) (k := (up ts t).length)
    (fun k ρ => ∃ S T, up ts t = S ++ T ∧ S.length = k ∧ 1 ≤ k ∧ ρ = [.dat (treeD ts), .dat (natD p), .dat (natD q), .own ((A ++ S).map natD), .own ((B ++ S).map natD)])
    (fun ρ => ρ = [.dat (treeD ts), .dat (natD p), .dat (natD q), .own ((A ++ [t]).map natD), .own ((B ++ [t]).map natD)]) (fun k ρ ⟨S, T, hS, hk, h1, hρ⟩ => by
      subst hρ hk
      simp only [w_path_in_0]
      by_cases hone : S.length = 1
      · -- nothing is left but the meeting place
        obtain ⟨x, rfl⟩ := List.length_eq_one_iff.mp hone
        have hx : x = t := by
          rw [hr] at hS
          exact (List.cons.inj hS).1.symm
        subst hx
        rcases List.eq_nil_or_concat A with rfl | ⟨A', a, rfl⟩
        · simp
        · rcases List.eq_nil_or_concat B with rfl | ⟨B', b, rfl⟩
          · simp
          · have ha := M.a a (by simp)
            have hne : ¬ ((a : Int) = (b : Int)) := fun e => by
              have e : a = b := by omega
              subst e
              exact ha (by rw [M.v]; simp)
            have la : (0 : Int) < (A'.length : Int) + 1 := by omega
            have lb : (0 : Int) < (B'.length : Int) + 1 := by omega
            have ea := last2 A' a x
            have eb := last2 B' b x
            simp at ea eb
            simp [ea, eb, hne]
      · -- the last is common: both drop it
        rcases List.eq_nil_or_concat S with rfl | ⟨S', y, rfl⟩
        · simp at h1
        · rcases List.eq_nil_or_concat S' with rfl | ⟨S0, x, rfl⟩
          · simp at hone
          · have ea := last2 (A ++ S0) x y
            have eb := last2 (B ++ S0) x y
            simp at ea eb
            have la : (1 : Int) < (A.length : Int) + ((S0.length : Int) + 2) := by omega
            have lb : (1 : Int) < (B.length : Int) + ((S0.length : Int) + 2) := by omega
            have dl : ∀ L : List D, (L ++ (S0.map natD ++ [natD x, natD y])).dropLast = L ++ (S0.map natD ++ [natD x]) := fun L => by
              rw [← List.append_assoc, show (L ++ S0.map natD) ++ [natD x, natD y] = ((L ++ S0.map natD) ++ [natD x]) ++ [natD y] by simp, List.dropLast_concat, List.append_assoc]
            simp [ea, eb, l_path_in_1, la, lb, dl]
            exact ⟨S0.length + 1, by omega, S0 ++ [x], ⟨[y] ++ T, by rw [hS]; simp⟩, by simp, by omega, by simp⟩) ⟨up ts t, [], by simp, rfl, by rw [hr]; simp, by rw [M.u, M.v]⟩
  rw [h1]
  have hA : A.length + B.length + 1 ≤ line := by
    have h1 := up_len g p
    have h2 := up_len g q
    rw [M.u, List.length_append] at h1
    rw [M.v, List.length_append] at h2
    have := g.len
    unfold line
    omega
  have hA' : A.length + 1 + B.length ≤ line := by omega
  simp [cutL_lo1, hA']
theorem top_in_ (m : Nat) {ts : Ties} (g : GoodT ts) {p q : Nat} (hp : p ≤ ts.length) (hq : q ≤ ts.length) {A B : List Nat} {t : Nat} (M : Meet ts p q A B t) :
    phi Fs (m + 4) "top_in" [.dat (treeD ts), .dat (natD p), .dat (natD q)] = .ok (natD t) [] := by
  rw [run_top_in]
  have h := min_nats (l := A ++ t :: B.reverse) (v := t) (by simp) (fun x hx => by
    rcases List.mem_append.mp hx with h | h
    · exact Nat.le_of_lt (M.gtA g x h)
    · rcases List.mem_cons.mp h with h | h
      · omega
      · exact Nat.le_of_lt (M.gtB g x (by simpa using h)))
  simp [b_top_in, path_in_ m g hp hq M, -List.map_append, -List.map_cons, h]
theorem way_in_ (m : Nat) {ts : Ties} (g : GoodT ts) {p q : Nat} (hp : p ≤ ts.length) (hq : q ≤ ts.length) {A B : List Nat} {t : Nat} (M : Meet ts p q A B t) :
    phi Fs (m + 5) "way_in" [.dat (treeD ts), .dat (natD p), .dat (natD q)] = .ok (.int (wayI ts p q t)) [] := by
  rw [run_way_in]
  have ht := M.le g
  have e : mulOk 2 (dep ts t : Int) = true := mulOk_l (by omega)
  simp [b_way_in, depths_in_ (m + 3) g, top_in_ m g hp hq M, dep_at hp, dep_at hq, dep_at (show t ≤ ts.length by omega), e, wayI]
theorem law_way_ (m : Nat) {ts : Ties} (g : GoodT ts) {p q : Nat} (hp : p ≤ ts.length) (hq : q ≤ ts.length) {A B : List Nat} {t : Nat} (M : Meet ts p q A B t) :
    phi Fs (m + 2) "_law_way" [.dat (treeD ts), .dat (natD p), .dat (natD q)] = .ok (.int (wayI ts p q t)) [] := by
  rw [run_law_way]
  have ht := M.le g
  have e : mulOk 2 (dep ts t : Int) = true := mulOk_l (by omega)
  simp [b_law_way, law_depths_ m g, law_up_ m g hp, law_up_ m g hq]
  obtain ⟨r, hr⟩ := M.first
  have hl := up_line g hp
  rw [compL_pure (natF fun x => if decide (x ∈ up ts q) = true then some (natD x) else none) (ρw := [.dat (treeD ts), .dat (natD p), .dat (natD q), .none, .dat (.lst ((depthsT ts).map natD)), .dat (.lst ((up ts q).map natD)), .none])
    (by rw [List.length_map]; omega) rfl rfl fun x hx => ?_]
  · rw [natF_map, filterMap_if, hr]
    simp [backE, dep_at hp, dep_at hq, dep_at (show t ≤ ts.length by omega), e, wayI]
  · obtain ⟨n, rfl, hn⟩ := mem_nats hx
    simp [turnC, q_law_way_0, e_law_way_1, in_nats]
    by_cases h : n ∈ up ts q
    · simp [h, noOwn, wipeE]
    · simp [h, noOwn, wipeE]
theorem law_tree_ (m : Nat) {p : List D} (hp : Pot p) {most top : Int} (h1 : 0 < most) (h2 : most ≤ 24) (h3 : 0 < top) (h4 : top ≤ 900) :
    ∃ ts p', phi Fs (m + 2) "_law_tree" [.own p, .dat (.int most), .dat (.int top)] = .ok (treeD ts) [p'] ∧ Pot p' ∧ GoodT ts := by
  obtain ⟨d, p1, e, hp1, g0, g1⟩ := draw_ m hp h1 (by omega)
  obtain ⟨n, rfl⟩ : ∃ n : Nat, d = (n : Int) := ⟨d.toNat, by omega⟩
  rw [run_law_tree]
  have e0 : evE (phi Fs (m + 1)) (.call "_law_draw" [.io 0, .ex (.var 1)] []) [Slot.own p, .dat (.int most), .dat (.int top), .own [], Slot.none] = .ok (.int (n : Int)) [Slot.own p1, .dat (.int most), .dat (.int top), .own [], Slot.none] := by
    simp [e]
  have e1 := rng_go e0 (rng_okn (n := n) (by omega))
  simp [b_law_tree, -evI_rng, e1, rng_n]
  obtain ⟨ρ', k1, ts, p2, x4, rfl, hp2, g, hlen⟩ := forL_nx (g := evT (phi Fs (m + 1)) (.nm 4)) (b := evS.go (phi Fs (m + 1)) l_law_tree_0) (xs := (List.range n).map natD) (ρ := [Slot.own p1, .dat (.int most), .dat (.int top), .own [], Slot.none])
    (fun k ρ => ∃ ts p2 x4, ρ = [Slot.own p2, .dat (.int most), .dat (.int top), .own (ts.map tieD), x4] ∧ Pot p2 ∧ GoodT ts ∧ ts.length = k) ⟨[], p1, Slot.none, rfl, hp1, GoodT.nil, rfl⟩ (fun i x ρ hx ⟨ts, p2, x4, hρ, hp2, g, hl⟩ => by
      subst hρ
      rw [List.getElem?_map] at hx
      have hi : i < n := by
        rcases Nat.lt_or_ge i n with h | h
        · exact h
        · rw [List.getElem?_eq_none (by simpa using h)] at hx
          cases hx
      rw [List.getElem?_range hi] at hx
      cases hx
      obtain ⟨k, ek, k0, k1, k2⟩ := min4 i
      obtain ⟨a, p3, ea, hp3, a0, a1⟩ := draw_ m hp2 k0 (by omega)
      obtain ⟨b, p4, eb, hp4, b0, b1⟩ := draw_ m hp3 h3 (by omega)
      have hline : (ts.map tieD).length < line := by
        rw [List.length_map]
        unfold line
        omega
      have g' := g.snoc (f := (↑i - a).toNat) (l := (1 + b).toNat) (by omega) (by omega) (by omega) (by omega)
      have t' : tieD ((↑i - a).toNat, (1 + b).toNat) = .tup [.int (i - a), .int (1 + b)] := by
        show D.tup [.int (((↑i - a).toNat : Nat) : Int), .int (((1 + b).toNat : Nat) : Int)] = _
        rw [show (((↑i - a).toNat : Nat) : Int) = i - a by omega, show (((1 + b).toNat : Nat) : Int) = 1 + b by omega]
      simp [-List.length_map, l_law_tree_0, ek, ea, eb, hline]
      refine ⟨_, p4, ⟨rfl, ?_⟩, hp4, g', by rw [List.length_append]; show ts.length + 1 = _; omega⟩
      rw [List.map_append, List.map_cons, t']
      rfl)
  rw [k1]
  simp [tupleD]
  exact ⟨ts, p2, ⟨rfl, rfl⟩, hp2, g⟩
theorem wayin (m : Nat) {ts : Ties} (g : GoodT ts) {p q : Nat} (hp : p ≤ ts.length) (hq : q ≤ ts.length) : phi Fs (m + 5) "way_in" [.dat (treeD ts), .dat (natD p), .dat (natD q)] = .ok (.int (wayT ts p q)) [] := by
  obtain ⟨A, B, M⟩ := meet_top g p q
  exact way_in_ m g hp hq M
theorem lawway (m : Nat) {ts : Ties} (g : GoodT ts) {p q : Nat} (hp : p ≤ ts.length) (hq : q ≤ ts.length) : phi Fs (m + 2) "_law_way" [.dat (treeD ts), .dat (natD p), .dat (natD q)] = .ok (.int (wayT ts p q)) [] := by
  obtain ⟨A, B, M⟩ := meet_top g p q
  exact law_way_ m g hp hq M
section
variable {w : Wd} (g : GoodW w)
include g
theorem want_wood_ (m : Nat) {k v : Nat} (hf : Fit (woodD w) k v) : phi Fs (m + 6) "want_wood" [.dat (woodD w)] = .ok (woodD w) [] := by
  rw [run_want_wood]
  simp [b_want_wood, is_wood_ m (woodD w) hf, g.ok]
theorem does_reach_ (m : Nat) {s i : Nat} {c : Cu} {q : Nat × Nat} (hc : w.cs[i]? = some c) (hs : w.ss[s]? = some q) : phi Fs (m + 6) "does_reach" [.dat (woodD w), .dat (natD s), .dat (natD i)] = .ok (.bl (decide (wayT w.ts c.pl q.1 ≤ (c.re : Int)))) [] := by
  rw [run_does_reach]
  have h1 := g.cu c (List.mem_of_getElem? hc)
  have h2 := g.si q (List.mem_of_getElem? hs)
  have e1 := at_map cuD w.cs hc
  have e2 := at_map tieD w.ss hs
  simp [b_does_reach, wood1, wood2, wood3, e1, e2, tie0]
  simp [cuD, wayin m g.t h1.1 h2.1, wood1, wood3, e2, tie0]
theorem reached_by_ (m : Nat) {s : Nat} {q : Nat × Nat} (hs : w.ss[s]? = some q) : phi Fs (m + 7) "reached_by" [.dat (woodD w), .dat (natD s)] = .ok (.lst ((reachL w q.1).map natD)) [] := by
  rw [run_reached_by]
  have hn := g.nc
  have e0 : evE (phi Fs (m + 6)) (.prim .len [.ex (.prim .idx [.ex (.var 0), .ex (.cst (.int 2))])]) [.dat (woodD w), .dat (natD s), Iv.Slot.none] = .ok (.int (w.cs.length : Int)) [.dat (woodD w), .dat (natD s), Iv.Slot.none] := by
    simp [wood2]
  have e1 := rng_go e0 (rng_okn (n := w.cs.length) (by omega))
  simp [b_reached_by, -evI_rng, e1, rng_n]
  rw [compL_pure (natF fun i => if reachB w q.1 i = true then some (natD i) else none) (ρw := [.dat (woodD w), .dat (natD s), .none])
    (by rw [List.length_map, List.length_range]; exact small_line (by omega)) rfl rfl fun x hx => ?_]
  · rw [natF_map, filterMap_if]
    simp [reachL, backE]
  · obtain ⟨n, rfl, hn⟩ := mem_nats hx
    have hn' := List.mem_range.mp hn
    have hc : w.cs[n]? = some w.cs[n] := List.getElem?_eq_getElem hn'
    simp [turnC, q_reached_by_0, e_reached_by_1, does_reach_ g m hc hs, ← reachB_at hc q.1]
    by_cases h : reachB w q.1 n = true
    · simp [h, noOwn, wipeE]
    · simp [h, noOwn, wipeE]
theorem law_reached_ (m : Nat) {s : Nat} {q : Nat × Nat} (hs : w.ss[s]? = some q) : phi Fs (m + 3) "_law_reached" [.dat (woodD w), .dat (natD s)] = .ok (.lst ((reachL w q.1).map natD)) [] := by
  rw [run_law_reached]
  have hn := g.nc
  have h2 := g.si q (List.mem_of_getElem? hs)
  have e2 := at_map tieD w.ss hs
  simp [b_law_reached, wood2, wood3, e2, tie0]
  rw [compL_pure (enumF fun d i => if reachB w q.1 i = true then some (natD i) else none) (ρw := [.dat (woodD w), .dat (natD s), .dat (natD q.1), .none, .none])
    (by rw [enumD_len, List.length_map]; exact small_line (by omega)) rfl rfl fun x hx => ?_]
  · rw [enumD_filterMap, zipIdx_range (fun (d : D) i => if reachB w q.1 i = true then some (natD i) else none), List.length_map]
    have e : (List.range w.cs.length).filterMap (fun i => ((w.cs.map cuD)[i]?).bind fun _ => if reachB w q.1 i = true then some (natD i) else none) = (reachL w q.1).map natD := by
      unfold reachL
      rw [← filterMap_if]
      refine filterMap_eq fun i hi => ?_
      rw [List.getElem?_map, List.getElem?_eq_getElem (List.mem_range.mp hi)]
      rfl
    rw [e]
    simp [backE]
  · obtain ⟨d, i, rfl, hi⟩ := enumD_mem hx
    rw [List.getElem?_map] at hi
    cases hc : w.cs[i]? with
    | none =>
      rw [hc] at hi
      cases hi
    | some c =>
      rw [hc] at hi
      cases hi
      have h1 := g.cu c (List.mem_of_getElem? hc)
      simp [turnC, q_law_reached_0, e_law_reached_1, wood1, cu0, cu1, lawway m g.t h1.1 h2.1, ← reachB_at hc q.1]
      by_cases h : reachB w q.1 i = true
      · simp [h, noOwn, wipeE]
      · simp [h, noOwn, wipeE]
end
/-- sites at unlike places -/
theorem law_sites_ (m : Nat) {p : List D} (hp : Pot p) {many most top : Nat} (h1 : many ≤ 1000) (h2 : 0 < top) (h3 : top ≤ 100000) : ∃ qs p', phi Fs (m + 2) "_law_sites" [.own p, .dat (natD many), .dat (natD most), .dat (natD top)] = .ok (.tup (List.map tieD qs)) [p'] ∧ Pot p' ∧
    qs.length ≤ most ∧ (∀ q ∈ qs, q.1 < many ∧ q.2 < top) ∧ (qs.map (·.1)).Pairwise (· < ·) := by
  rw [run_law_sites]
  have e0 : evE (phi Fs (m + 1)) (.var 1) [.own p, .dat (natD many), .dat (natD most), .dat (natD top), Iv.Slot.none, Iv.Slot.none] = .ok (.int ((many : Nat) : Int)) [.own p, .dat (natD many), .dat (natD most), .dat (natD top), Iv.Slot.none, Iv.Slot.none] := by simp
  have e1 := rng_go e0 (rng_okn h1)
  obtain ⟨ys, ρ', k1, p1, ns, rfl, rfl, hp1, hn, hg, hl⟩ := compL_sat (g := evT (phi Fs (m + 1)) (.nm 5)) (c := evIf (phi Fs (m + 1)) (some q_law_sites_0)) (e := evE (phi Fs (m + 1)) e_law_sites_1) (ow := [5])
    (fun k acc ρ => ∃ p' ns, ρ = [.own p', .dat (natD many), .dat (natD most), .dat (natD top), Iv.Slot.none, Iv.Slot.none] ∧ acc = List.map natD ns ∧ Pot p' ∧ (∀ n ∈ ns, n < k) ∧ ns.Pairwise (· < ·) ∧ ns.length ≤ k) ((List.range many).map natD) 0 [] [.own p, .dat (natD many), .dat (natD most), .dat (natD top), Iv.Slot.none, Iv.Slot.none]
    (by simp [line]; omega) rfl ⟨p, [], rfl, rfl, hp, (fun n h => nomatch h), List.Pairwise.nil, Nat.le_refl _⟩ fun i x acc ρ hx ⟨p1, ns, hρ, ha, hp1, hn, hg, hl⟩ => by
      subst hρ ha
      have hi : i < many := by
        have := getElem?_lt hx
        simpa using this
      rw [List.getElem?_map, List.getElem?_range hi] at hx
      cases hx
      obtain ⟨b, p2, eb, hp2, b0, b1⟩ := draw_ m hp1 (k := 3) (by omega) (by omega)
      by_cases hb : 0 < b
      · simp [turnC, q_law_sites_0, e_law_sites_1, eb, hb, noOwn, wipeE]
        refine ⟨ns ++ [i], by simp, hp2, ?_, ?_, by simp; omega⟩
        · intro n hn'
          rcases List.mem_append.mp hn' with h | h
          · have := hn n h
            omega
          · have : n = i := by simpa using h
            omega
        · refine List.pairwise_append.mpr ⟨hg, by simp, fun a ha b hb => ?_⟩
          have hb : b = i := by simpa using hb
          have := hn a ha
          omega
      · simp [turnC, q_law_sites_0, e_law_sites_1, eb, hb, noOwn, wipeE]
        exact ⟨ns, rfl, hp2, fun n hn' => by have := hn n hn'; omega, hg, by omega⟩
  obtain ⟨zs, ρ', k2, p2, qs, rfl, rfl, hp2, hq, ht⟩ := compL_sat (g := evT (phi Fs (m + 1)) (.nm 5)) (c := evIf (phi Fs (m + 1)) none) (e := evE (phi Fs (m + 1)) e_law_sites_2) (ow := [5])
    (fun k acc ρ => ∃ p' qs, ρ = [.own p', .dat (natD many), .dat (natD most), .dat (natD top), .dat (.lst ((ns.take most).map natD)), Iv.Slot.none] ∧ acc = List.map tieD qs ∧ Pot p' ∧ qs.map (·.1) = (ns.take most).take k ∧ ∀ q ∈ qs, q.2 < top) ((ns.take most).map natD) 0 [] [.own p1, .dat (natD many), .dat (natD most), .dat (natD top), .dat (.lst ((ns.take most).map natD)), Iv.Slot.none]
    (by simp [line] at hl ⊢; omega) rfl ⟨p1, [], rfl, rfl, hp1, rfl, (fun q h => nomatch h)⟩ fun i x acc ρ hx ⟨p2, qs, hρ, ha, hp2, hq, ht⟩ => by
      subst hρ ha
      rw [List.getElem?_map] at hx
      cases hn : (ns.take most)[i]? with
      | none =>
        rw [hn] at hx
        cases hx
      | some n =>
        rw [hn] at hx
        cases hx
        obtain ⟨b, p3, eb, hp3, b0, b1⟩ := draw_ m hp2 (k := (top : Int)) (by omega) (by omega)
        simp [turnC, e_law_sites_2, eb, noOwn, wipeE]
        refine ⟨qs ++ [(n, b.toNat)], ?_, hp3, ?_, ?_⟩
        · simp [tieD]
          omega
        · rw [List.map_append, hq, List.take_add_one, Nat.zero_add, hn]
          rfl
        · intro q1 q2 hq'
          rcases List.mem_append.mp hq' with h | h
          · exact ht (q1, q2) h
          · have : (q1, q2) = (n, b.toNat) := by simpa using h
            cases this
            omega
  rw [List.take_of_length_le (by simp)] at hq
  refine ⟨qs, p2, ?_, hp2, ?_, ?_, ?_⟩
  · simp only [natD] at k1 k2 e1
    rw [List.map_take] at k2
    simp [b_law_sites, -evI_rng, e1, rng_n]
    simp [k1, backE, cutL_hi]
    simp [k2, backE]
  · have := congrArg List.length hq
    rw [List.length_map, List.length_take] at this
    omega
  · intro q hq'
    have hm : q.1 ∈ ns.take most := by
      rw [← hq]
      exact List.mem_map.mpr ⟨q, hq', rfl⟩
    have := hn q.1 (List.mem_of_mem_take hm)
    refine ⟨by simpa using this, ht q hq'⟩
  · rw [hq]
    exact List.Pairwise.sublist (List.take_sublist _ _) hg
theorem law_wood_ (m : Nat) {p : List D} (hp : Pot p) {room customers sites : Nat} (h1 : 0 < room) (h2 : room ≤ 24) (h3 : customers ≤ 12) (h4 : sites ≤ 10) : ∃ w p', phi Fs (m + 3) "_law_wood" [.own p, .dat (natD room), .dat (natD customers), .dat (natD sites)] = .ok (woodD w) [p'] ∧ Pot p' ∧
    PreW w ∧ (w.ss.map (·.1)).Pairwise (· < ·) ∧ w.cs.length ≤ customers ∧ (∀ c ∈ w.cs, c.fe ≤ 14) ∧ ∀ q ∈ w.ss, q.2 ≤ 99 := by
  rw [run_law_wood]
  obtain ⟨ts, p1, et, hp1, g⟩ := law_tree_ m hp (most := (room : Int)) (top := 6) (by omega) (by omega) (by omega) (by omega)
  have hl := g.len
  obtain ⟨b, p2, eb, hp2, b0, b1⟩ := draw_ (m + 1) hp1 (k := (customers : Int) + 1) (by omega) (by omega)
  obtain ⟨n, rfl⟩ := nat_of b0
  have e0 : evE (phi Fs (m + 2)) (.call "_law_draw" [.io 0, .ex (.prim .add [.ex (.var 2), .ex (.cst (.int 1))])] []) [Iv.Slot.own p1, .dat (natD room), .dat (natD customers), .dat (natD sites), .dat (treeD ts), .none, .dat (.int ((ts.length : Int) + 1)), .own []] = .ok (.int (n : Int)) [.own p2, .dat (natD room), .dat (natD customers), .dat (natD sites), .dat (treeD ts), .none, .dat (.int ((ts.length : Int) + 1)), .own []] := by
    simp [eb]
  have e1 := rng_go e0 (rng_okn (n := n) (by omega))
  simp only [natD] at et e1
  simp [b_law_wood, et, tree1, putA, -evI_rng, e1, rng_n]
  obtain ⟨ρ', k1, cs, p3, x5, rfl, hp3, hc, hb⟩ := forL_nx (g := evT (phi Fs (m + 2)) (.nm 5)) (b := evS.go (phi Fs (m + 2)) l_law_wood_0) (xs := (List.range n).map natD) (ρ := [.own p2, .dat (natD room), .dat (natD customers), .dat (natD sites), .dat (treeD ts), .none, .dat (.int ((ts.length : Int) + 1)), .own []])
    (fun k ρ => ∃ (cs : List Cu) (p3 : List D) (x5 : Iv.Slot), ρ = [.own p3, .dat (natD room), .dat (natD customers), .dat (natD sites), .dat (treeD ts), x5, .dat (.int ((ts.length : Int) + 1)), .own (cs.map cuD)] ∧ Pot p3 ∧ cs.length = k ∧ ∀ c ∈ cs, c.pl ≤ ts.length ∧ c.re ≤ 9999 ∧ c.ra ≤ 99 ∧ c.fe ≤ 14)
    ⟨[], p2, _, rfl, hp2, rfl, (fun c h => nomatch h)⟩ (fun i x ρ hx ⟨cs, p3, x5, hρ, hp3, hc, hb⟩ => by
      subst hρ
      have hi := getElem?_lt hx
      rw [List.length_map, List.length_range] at hi
      obtain ⟨d1, p4, ea, hp4, a0, a1⟩ := draw_ (m + 1) hp3 (k := (ts.length : Int) + 1) (by omega) (by omega)
      obtain ⟨d2, p5, eb, hp5, b0, b1⟩ := draw_ (m + 1) hp4 (k := 13) (by omega) (by omega)
      obtain ⟨d3, p6, ec, hp6, c0, c1⟩ := draw_ (m + 1) hp5 (k := 4) (by omega) (by omega)
      obtain ⟨d4, p7, ed, hp7, d0, d1⟩ := draw_ (m + 1) hp6 (k := 15) (by omega) (by omega)
      obtain ⟨n1, rfl⟩ := nat_of a0
      obtain ⟨n2, rfl⟩ := nat_of b0
      obtain ⟨n3, rfl⟩ := nat_of c0
      obtain ⟨n4, rfl⟩ := nat_of d0
      have hline : (cs.map cuD).length < line := by
        rw [List.length_map, line]
        omega
      simp [-List.length_map, l_law_wood_0, ea, eb, ec, ed, hline]
      refine ⟨cs ++ [⟨n1, n2, n3, n4⟩], p7, ⟨rfl, by simp [cuD]⟩, hp7, by simp; omega, ?_⟩
      intro c hc'
      rcases List.mem_append.mp hc' with h | h
      · exact hb c h
      · have : c = ⟨n1, n2, n3, n4⟩ := by simpa using h
        subst this
        refine ⟨?_, ?_, ?_, ?_⟩ <;> (simp only; omega))
  simp only [natD] at k1
  rw [k1]
  obtain ⟨qs, p4, es, hp4, hq1, hq2, hq3⟩ := law_sites_ m hp3 (many := ts.length + 1) (most := sites) (top := 12) (by omega) (by omega) (by omega)
  simp only [natD] at es
  have es' : phi Fs (m + 2) "_law_sites" [.own p3, .dat (.int ((ts.length : Int) + 1)), .dat (.int (sites : Int)), .dat (.int 12)] = .ok (.tup (List.map tieD qs)) [p4] := es
  simp [tupleD, es']
  rw [List.length_map, List.length_range] at hc
  refine ⟨⟨ts, cs, qs⟩, p4, ⟨rfl, rfl⟩, hp4, ⟨g, by simp only; omega, by simp only; omega, fun c hc' => (by have := hb c hc'; simp only; omega), fun q hq => ?_⟩, hq3, by simp only; omega, fun c hc' => (hb c hc').2.2.2, fun q1 q2 hq => by have := (hq2 (q1, q2) hq).2; omega⟩
  have := hq2 q hq
  simp only
  omega
theorem fraction_ (m : Nat) {n d : Int} (hd : 0 < d) (hb : d.natAbs < 2 ^ 4000) : phi Fs (m + 1) "fraction" [.dat (.int n), .dat (.int d)] = .ok (rtD (redR n d)) [] := by
  rw [run_fraction]
  have h : ¬ d < 0 := by omega
  have e1 := fdiv_gcd (n := n) (x := n) hd hb
  have e2 := fdiv_gcd (n := n) (x := d) hd hb
  have e3 : gcdD (.int n) (.int d) = some (.int ((Nat.gcd n.natAbs d.natAbs : Nat) : Int)) := rfl
  have e4 : ∀ a b : D, prim .gcd [a, b] = gcdD a b := fun _ _ => rfl
  simp [b_fraction, h, e4, e3, e1, e2, rtD, redR]
theorem whole_ (m : Nat) (n : Int) : phi Fs (m + 1) "whole" [.dat (.int n)] = .ok (rtD (n, 1)) [] := by
  rw [run_whole]
  simp [b_whole, rtD]
theorem plus_ (m : Nat) {a b : Int × Int} (ha : PR a) (hb : PR b) : phi Fs (m + 2) "plus" [.dat (rtD a), .dat (rtD b)] = .ok (rtD (plusR a b)) [] := by
  rw [run_plus]
  obtain ⟨h1, h2⟩ := ha.mul hb
  simp [b_plus, rt0, rt1, mulOk_big ha.a hb.b, mulOk_big hb.a ha.b, mulOk_big ha.b hb.b, fraction_ m h1 h2, plusR]
theorem is_less_ (m : Nat) {a b : Int × Int} (ha : PR a) (hb : PR b) : phi Fs (m + 1) "is_less" [.dat (rtD a), .dat (rtD b)] = .ok (.bl (lessR a b)) [] := by
  rw [run_is_less]
  simp [b_is_less, rt0, rt1, mulOk_big ha.a hb.b, mulOk_big hb.a ha.b, lessR]
theorem total_ (m : Nat) {x : D} {l : List (Int × Int)} (hx : itemsI x = some (l.map rtD)) (hs : SmallR l) (hl : l.length ≤ 12) : phi Fs (m + 3) "total" [.dat x] = .ok (rtD (sumR l)) [] := by
  rw [run_total]
  simp [b_total, hx]
  obtain ⟨ρ', k1, x2, rfl⟩ := forL_nx (g := evT (phi Fs (m + 2)) (.nm 2)) (b := evS.go (phi Fs (m + 2)) l_total_0) (xs := l.map rtD) (ρ := [.dat x, .dat (rtD (0, 1)), .none])
    (fun i ρ => ∃ x2, ρ = [.dat x, .dat (rtD ((l.take i).foldl plusR (0, 1))), x2]) ⟨_, rfl⟩ (fun i y ρ hy ⟨x2, hρ⟩ => by
      subst hρ
      rw [List.getElem?_map] at hy
      cases hb : l[i]? with
      | none =>
        rw [hb] at hy
        cases hy
      | some b =>
        rw [hb] at hy
        cases hy
        have e := plus_ m (hs.take hl i) (hs.pr (List.mem_of_getElem? hb))
        simp [l_total_0, e, fold_take hb])
  have k1' : forL (evT (phi Fs (m + 2)) (.nm 2)) (evS.go (phi Fs (m + 2)) l_total_0) (l.map rtD) [.dat x, .dat (.tup [.int 0, .int 1]), .none] = _ := k1
  rw [k1']
  simp [sumR]
theorem law_made_ (m : Nat) {n d : Int} (hd : 0 < d) (hb : d.natAbs < 2 ^ 4000) : phi Fs (m + 1) "_law_made" [.dat (.int n), .dat (.int d)] = .ok (rtD (redR n d)) [] := by
  rw [run_law_made]
  simp [b_law_made, putA, abs_nat]
  obtain ⟨ρ', h1, rfl⟩ := whlF_run (c := evC (phi Fs m) w_law_made_0) (b := evS.go (phi Fs m) l_law_made_1) (ρ := [.dat (.int n), .dat (.int d), .none, .dat (natD n.natAbs), .dat (natD d.natAbs)]) (k := d.natAbs)
    (fun k ρ => ∃ a : Nat, ρ = [.dat (.int n), .dat (.int d), .none, .dat (natD a), .dat (natD k)] ∧ Nat.gcd a k = Nat.gcd n.natAbs d.natAbs)
    (fun ρ => ρ = [.dat (.int n), .dat (.int d), .none, .dat (natD (Nat.gcd n.natAbs d.natAbs)), .dat (natD 0)]) (fun k ρ ⟨a, hρ, ha⟩ => by
      subst hρ
      simp only [w_law_made_0]
      by_cases h0 : k = 0
      · subst h0
        rw [Nat.gcd_zero_right] at ha
        subst ha
        simp
      · have hk : 0 < k := by omega
        simp [hk, l_law_made_1, putA]
        refine ⟨a % k, Nat.mod_lt _ hk, k, ⟨rfl, by simp⟩, ?_⟩
        rw [← ha, Nat.gcd_comm k, ← Nat.gcd_rec, Nat.gcd_comm]) ⟨_, rfl, rfl⟩
  rw [h1]
  have h : ¬ d < 0 := by omega
  have hm : mulOk 1 n = true := mulOk_l (by omega)
  have e1 := fdiv_gcd (n := n) (x := n) hd hb
  have e2 := fdiv_gcd (n := n) (x := d) hd hb
  have e3 : ((d.natAbs : Nat) : Int) = d := by omega
  simp [h, hm, abs_nat, e3, e1, e2, rtD, redR, -fdivD_int]
theorem law_plus_ (m : Nat) {a b : Int × Int} (ha : PR a) (hb : PR b) : phi Fs (m + 2) "_law_plus" [.dat (rtD a), .dat (rtD b)] = .ok (rtD (plusR a b)) [] := by
  rw [run_law_plus]
  obtain ⟨h1, h2⟩ := ha.mul hb
  simp [b_law_plus, rt0, rt1, mulOk_big ha.a hb.b, mulOk_big hb.a ha.b, mulOk_big ha.b hb.b, law_made_ m h1 h2, plusR]
theorem law_is_less_ (m : Nat) {a b : Int × Int} (ha : PR a) (hb : PR b) : phi Fs (m + 1) "_law_is_less" [.dat (rtD a), .dat (rtD b)] = .ok (.bl (lessR a b)) [] := by
  rw [run_law_is_less]
  simp [b_law_is_less, rt0, rt1, mulOk_big ha.a hb.b, mulOk_big hb.a ha.b, lessR]
theorem law_sum_ (m : Nat) {x : D} {l : List (Int × Int)} (hx : itemsI x = some (l.map rtD)) (hs : SmallR l) (hl : l.length ≤ 12) : phi Fs (m + 3) "_law_sum" [.dat x] = .ok (rtD (sumR l)) [] := by
  rw [run_law_sum]
  simp [b_law_sum, hx]
  obtain ⟨ρ', k1, x2, rfl⟩ := forL_nx (g := evT (phi Fs (m + 2)) (.nm 2)) (b := evS.go (phi Fs (m + 2)) l_law_sum_0) (xs := l.map rtD) (ρ := [.dat x, .dat (rtD (0, 1)), .none])
    (fun i ρ => ∃ x2, ρ = [.dat x, .dat (rtD ((l.take i).foldl plusR (0, 1))), x2]) ⟨_, rfl⟩ (fun i y ρ hy ⟨x2, hρ⟩ => by
      subst hρ
      rw [List.getElem?_map] at hy
      cases hb : l[i]? with
      | none =>
        rw [hb] at hy
        cases hy
      | some b =>
        rw [hb] at hy
        cases hy
        have e := law_plus_ m (hs.take hl i) (hs.pr (List.mem_of_getElem? hb))
        simp [l_law_sum_0, e, fold_take hb])
  have k1' : forL (evT (phi Fs (m + 2)) (.nm 2)) (evS.go (phi Fs (m + 2)) l_law_sum_0) (l.map rtD) [.dat x, .dat (.tup [.int 0, .int 1]), .none] = _ := k1
  rw [k1']
  simp [sumR]
theorem is_ratio_ (m : Nat) (d : D) (hn : d.num = true) : phi Fs (m + 2) "is_ratio" [.dat d] = .ok (.bl (isRt d)) [] := by
  rw [run_is_ratio]
  by_cases hr : ∃ a b, d = .tup [a, b]
  · obtain ⟨a, b, rfl⟩ := hr
    have e : isRow (.tup [a, b]) 2 = true := rfl
    cases a with
    | int n =>
      cases b with
      | int u =>
        obtain ⟨h1, h2⟩ := num_rt hn
        by_cases hu : u < 1
        · have hu' : ¬ (1 ≤ u) := by omega
          simp [b_is_ratio, is_row_, is_integer_, e, isInt, isRt, hu, hu']
        · have hu' : 1 ≤ u := by omega
          have c : (10000000000000000000000000000000000000000000000000000000000000000000000000000000000000000000000000000000000000000000000000000000000000000000000000000000000000000000000000000000000000000000000000000000000000000000000000000000000000000000000000000000000000000000000000000000000000000000000000000000000000000000000000000000000000000000000000000000000000000000000000000000000000000000000000000000000000000 : Int) = 10 ^ 400 := by decide +kernel
          have e1 : (if n < 0 then -n else n) < (10 : Int) ^ 400 := by
            have : (10 : Int) ^ 20 < 10 ^ 400 := by decide +kernel
            have : ((10 : Nat) ^ 20 : Nat) = ((10 : Int) ^ 20) := by norm_cast
            split <;> omega
          have e2 : u < (10 : Int) ^ 400 := by
            have : (10 : Int) ^ 20 < 10 ^ 400 := by decide +kernel
            have : ((10 : Nat) ^ 20 : Nat) = ((10 : Int) ^ 20) := by norm_cast
            omega
          have e3 : ∀ G : Nat, decide ((G : Int) = 1) = decide (G = 1) := fun G => by
            by_cases h : G = 1
            · simp [h]
            · simp [h]
              omega
          simp [b_is_ratio, is_row_, is_integer_, e, isInt, isRt, hu, hu', c, e1, e2, e3]
      | _ => simp [b_is_ratio, is_row_, is_integer_, e, isInt, isRt]
    | _ => simp [b_is_ratio, is_row_, is_integer_, e, isInt, isRt]
  · simp [b_is_ratio, is_row_, isRow_no hr, isRt_no hr]
theorem law_is_ratio_ (m : Nat) (d : D) (hn : d.num = true) : phi Fs (m + 2) "_law_is_ratio" [.dat d] = .ok (.bl (isRt d)) [] := by
  rw [run_law_is_ratio]
  by_cases hr : ∃ a b, d = .tup [a, b]
  · obtain ⟨a, b, rfl⟩ := hr
    have k1 : compL (evT (phi Fs (m + 1)) (.nm 1)) (evIf (phi Fs (m + 1)) none) (evE (phi Fs (m + 1)) e_law_is_ratio_0) [1] [a, b] [] [.dat (.tup [a, b]), .none] = .ok [.bl (!isInt a), .bl (!isInt b)] [.dat (.tup [a, b]), .none] := by
      rw [compL_pure (fun x => some (.bl (!isInt x))) (ρw := [.dat (.tup [a, b]), .none]) (small_line (by simp)) rfl rfl fun x hx => ?_]
      · rfl
      · cases x <;> simp [turnC, e_law_is_ratio_0, noOwn, wipeE, isInt]
    have e0 : ∀ x y : Bool, anyD (.lst [.bl x, .bl y]) = some (.bl (x || y)) := fun x y => by cases x <;> cases y <;> rfl
    cases a with
    | int n =>
      cases b with
      | int u =>
        obtain ⟨h1, h2⟩ := num_rt hn
        by_cases hu : u < 1
        · have hu' : ¬ (1 ≤ u) := by omega
          simp [b_law_is_ratio, k1, backE, e0, isInt, isRt, hu, hu']
        · have hu' : 1 ≤ u := by omega
          have hb : u.natAbs < 2 ^ 4000 := by
            have : (10 : Nat) ^ 20 < 2 ^ 4000 := by decide +kernel
            omega
          have q : decide (redR n u = (n, u)) = decide (Nat.gcd n.natAbs u.natAbs = 1) := by
            rw [Bool.eq_iff_iff]
            simp [red_same hu']
          have e3 := eq_rt (redR n u) (n, u)
          rw [q] at e3
          have e4 : eqD (rtD (redR n u)) (.tup [.int n, .int u]) = _ := e3
          simp [b_law_is_ratio, k1, backE, e0, isInt, isRt, hu, hu', law_made_ m (n := n) (d := u) (by omega) hb, e4]
      | _ => simp [b_law_is_ratio, k1, backE, e0, isInt, isRt]
    | _ => simp [b_law_is_ratio, k1, backE, e0, isInt, isRt]
  · cases d with
    | tup xs =>
      have hl : ¬ ((xs.length : Int) = 2) := fun h => by
        obtain ⟨a, b, e⟩ := of_len2 (xs := xs) (by omega)
        exact hr ⟨a, b, by rw [e]⟩
      simp [b_law_is_ratio, isRt_no hr, hl]
    | _ => simp [b_law_is_ratio, isRt_no hr]
theorem is_risingT_ (m : Nat) (l : List Int) (hl : l.length ≤ line) : phi Fs (m + 1) "is_rising" [.dat (.tup (l.map D.int))] = .ok (.bl (risingI l)) [] := by
  rw [run_is_rising]
  simp [b_is_rising, cutL_lo1, -List.map_drop, -List.drop_one]
  rw [zip_next]
  rw [compL_pure (fun x => match x with | .tup [.int a, .int b] => some (.bl (decide (a < b))) | _ => none) (ρw := [.dat (.tup (l.map D.int)), .none, .none])
    (by rw [List.length_map, List.length_zip]; omega) rfl rfl fun x hx => ?_]
  · rw [List.filterMap_map]
    have e : (l.zip (l.drop 1)).filterMap ((fun x => match x with | D.tup [.int a, .int b] => some (D.bl (decide (a < b))) | _ => none) ∘ fun p => D.tup [.int p.1, .int p.2]) = (l.zip (l.drop 1)).map fun p => D.bl (decide (p.1 < p.2)) := filterMap_all _ _
    rw [e]
    have ea : allD (.lst ((l.zip (l.drop 1)).map fun p => D.bl (decide (p.1 < p.2)))) = some (.bl (risingI l)) := allD_map _ _
    simp [-List.drop_one, backE, ea]
  · obtain ⟨p, hp, rfl⟩ := List.mem_map.mp hx
    simp [turnC, e_is_rising_0, noOwn, wipeE]
theorem are_places_of_ (m : Nat) (d : D) (k : Int) (hl : ∀ xs, d = .tup xs → xs.length ≤ line) : phi Fs (m + 3) "are_places_of" [.dat d, .dat (.int k)] = .ok (.bl (areOpen d k)) [] := by
  rw [run_are_places_of]
  cases d with
  | tup xs =>
    have hl := hl xs rfl
    simp [b_are_places_of]
    rw [compL_pure (fun x => some (.bl (within x 0 (k - 1)))) (ρw := [.dat (.tup xs), .dat (.int k), .none]) hl rfl rfl fun x hx => ?_]
    · rw [filterMap_all]
      obtain ⟨b, hb⟩ : ∃ b, (xs.all fun x => within x 0 (k - 1)) = b := ⟨_, rfl⟩
      have ea : allD (.lst (xs.map fun x => D.bl (within x 0 (k - 1)))) = some (.bl b) := by rw [allD_map, hb]
      have eo : areOpen (.tup xs) k = (b && risingI (xs.map itI)) := by rw [areOpen, hb]
      simp [ea, backE, eo]
      cases b with
      | false => simp
      | true =>
        have e := ints_of hb
        have := is_risingT_ (m + 1) (xs.map itI) (by rw [List.length_map]; exact hl)
        rw [← e] at this
        simp [this]
    · simp [turnC, e_are_places_of_0, is_within_, noOwn, wipeE]
  | _ => simp [b_are_places_of, areOpen]
theorem law_is_open_ (m : Nat) (w : Wd) (d : D) (hl : ∀ xs, d = .tup xs → xs.length ≤ line) : phi Fs (m + 1) "_law_is_open" [.dat (woodD w), .dat d] = .ok (.bl (areOpen d w.ss.length)) [] := by
  rw [run_law_is_open]
  cases d with
  | tup xs =>
    have hl := hl xs rfl
    simp [b_law_is_open]
    rw [compL_pure (fun x => some (.bl (!isInt x))) (ρw := [.dat (woodD w), .dat (.tup xs), .none, .none, .none]) hl rfl rfl fun x hx => ?_]
    · rw [filterMap_all]
      obtain ⟨b, hb⟩ : ∃ b, (xs.any fun x => !isInt x) = b := ⟨_, rfl⟩
      have ea : anyD (.lst (xs.map fun x => D.bl (!isInt x))) = some (.bl b) := by rw [anyD_map, hb]
      simp [ea, backE]
      cases b with
      | true =>
        obtain ⟨x, hx, h⟩ := List.any_eq_true.mp hb
        have : areOpen (.tup xs) w.ss.length = false := by
          have : (xs.all fun x => within x 0 ((w.ss.length : Int) - 1)) = false := by
            rw [List.all_eq_false]
            refine ⟨x, hx, ?_⟩
            cases x <;> simp [isInt] at h <;> simp [within]
          rw [areOpen, this]
          rfl
        simp [this]
      | false =>
        have hint : ∀ x ∈ xs, ∃ i, x = .int i := fun x hx => by
          have := List.any_eq_false.mp hb x hx
          cases x <;> simp [isInt] at this <;> exact ⟨_, rfl⟩
        simp [wood3]
        rw [compL_pure (fun x => some (.bl (within x 0 ((w.ss.length : Int) - 1)))) (ρw := [.dat (woodD w), .dat (.tup xs), .none, .none, .none]) hl rfl rfl fun x hx => ?_]
        · rw [filterMap_all]
          obtain ⟨c, hc⟩ : ∃ c, (xs.all fun x => within x 0 ((w.ss.length : Int) - 1)) = c := ⟨_, rfl⟩
          have ea : allD (.lst (xs.map fun x => D.bl (within x 0 ((w.ss.length : Int) - 1)))) = some (.bl c) := by rw [allD_map, hc]
          have eo : areOpen (.tup xs) w.ss.length = (c && risingI (xs.map itI)) := by rw [areOpen, hc]
          simp [ea, backE, eo]
          cases c with
          | false => simp
          | true =>
            have e := ints_of hc
            generalize xs.map itI = l at e ⊢
            subst e
            simp [cutL_lo1, -List.map_drop, -List.drop_one]
            rw [zip_next]
            rw [compL_pure (fun x => match x with | .tup [.int a, .int b] => some (.bl (decide (b ≤ a))) | _ => none) (ρw := [.dat (woodD w), .dat (.tup (l.map D.int)), .none, .none, .none])
              (by rw [List.length_map, List.length_zip]; rw [List.length_map] at hl; omega) rfl rfl fun x hx => ?_]
            · rw [List.filterMap_map]
              have e : (l.zip (l.drop 1)).filterMap ((fun x => match x with | D.tup [.int a, .int b] => some (D.bl (decide (b ≤ a))) | _ => none) ∘ fun p => D.tup [.int p.1, .int p.2]) = (l.zip (l.drop 1)).map fun p => D.bl (decide (p.2 ≤ p.1)) := filterMap_all _ _
              rw [e]
              obtain ⟨v, hv⟩ : ∃ v, ((l.zip (l.drop 1)).any fun p => decide (p.2 ≤ p.1)) = v := ⟨_, rfl⟩
              have e2 : risingI l = !v := by
                rw [← hv, falls_not]
                rfl
              have ea : anyD (.lst ((l.zip (l.drop 1)).map fun p => D.bl (decide (p.2 ≤ p.1)))) = some (.bl v) := by rw [anyD_map, hv]
              simp [-List.drop_one, backE, ea, e2]
            · obtain ⟨p, hp, rfl⟩ := List.mem_map.mp hx
              simp [turnC, e_law_is_open_2, noOwn, wipeE]
        · obtain ⟨i, rfl⟩ := hint x hx
          have e : (decide (0 ≤ i) && decide (i < (w.ss.length : Int))) = within (.int i) 0 ((w.ss.length : Int) - 1) := by
            rw [Bool.eq_iff_iff]
            simp [within]
            omega
          rw [← e]
          by_cases h : 0 ≤ i
          · simp [turnC, e_law_is_open_1, noOwn, wipeE, wood3, h]
          · simp [turnC, e_law_is_open_1, noOwn, wipeE, wood3, h]
    · cases x <;> simp [turnC, e_law_is_open_0, noOwn, wipeE, isInt]
  | _ => simp [b_law_is_open, areOpen]
theorem is_open_of_ (m : Nat) (w : Wd) (d : D) (hl : ∀ xs, d = .tup xs → xs.length ≤ line) : phi Fs (m + 4) "is_open_of" [.dat (woodD w), .dat d] = .ok (.bl (areOpen d w.ss.length)) [] := by
  rw [run_is_open_of]
  simp [b_is_open_of, wood3, are_places_of_ m d _ hl]
theorem is_prices_of_ (m : Nat) (w : Wd) (d : D) (hn : d.num = true) (hl : ∀ xs, d = .tup xs → xs.length ≤ line) : phi Fs (m + 3) "is_prices_of" [.dat (woodD w), .dat d] = .ok (.bl (arePr d w.cs.length)) [] := by
  rw [run_is_prices_of]
  simp [b_is_prices_of, wood2, is_row_]
  cases d with
  | tup xs =>
    have hl := hl xs rfl
    have hn : D.numL xs = true := by simpa [D.num] using hn
    by_cases h : xs.length = w.cs.length
    · have e : isRow (.tup xs) (w.cs.length : Int) = true := by simp [isRow, h]
      simp [e]
      rw [compL_pure (fun x => some (.bl (isRt x))) (ρw := [.dat (woodD w), .dat (.tup xs), .none]) hl rfl rfl fun x hx => ?_]
      · rw [filterMap_all]
        have ea : allD (.lst (xs.map fun x => D.bl (isRt x))) = some (.bl (xs.all isRt)) := allD_map _ _
        simp [ea, backE, arePr, h]
      · simp [turnC, e_is_prices_of_0, is_ratio_ m x (numL_mem hn x hx), noOwn, wipeE]
    · have e : isRow (.tup xs) (w.cs.length : Int) = false := by
        simp [isRow]
        omega
      simp [e, arePr, h]
  | _ => simp [isRow, arePr]
theorem law_are_prices_ (m : Nat) (w : Wd) (d : D) (hn : d.num = true) (hl : ∀ xs, d = .tup xs → xs.length ≤ line) : phi Fs (m + 3) "_law_are_prices" [.dat (woodD w), .dat d] = .ok (.bl (arePr d w.cs.length)) [] := by
  rw [run_law_are_prices]
  simp [b_law_are_prices, wood2]
  cases d with
  | tup xs =>
    have hl := hl xs rfl
    have hn : D.numL xs = true := by simpa [D.num] using hn
    by_cases h : xs.length = w.cs.length
    · simp [h, wood2]
      rw [compL_pure (fun x => some (.bl (isRt x))) (ρw := [.dat (woodD w), .dat (.tup xs), .none]) hl rfl rfl fun x hx => ?_]
      · rw [filterMap_all]
        have ea : allD (.lst (xs.map fun x => D.bl (isRt x))) = some (.bl (xs.all isRt)) := allD_map _ _
        simp [ea, backE, arePr, h]
      · simp [turnC, e_law_are_prices_0, law_is_ratio_ m x (numL_mem hn x hx), noOwn, wipeE]
    · have h' : ¬ ((xs.length : Int) = (w.cs.length : Int)) := by omega
      simp [h', arePr, h, wood2]
  | _ => simp [arePr]
section
variable {w : Wd} (g : GoodW w)
include g
theorem reach_in_ (m : Nat) {x : D} {ch : List Nat} (hx : itemsI x = some (ch.map natD)) (hc : ∀ s ∈ ch, s < w.ss.length) : phi Fs (m + 8) "reach_in" [.dat (woodD w), .dat x] = .ok (.lst ((reachS w ch).map natD)) [] := by
  rw [run_reach_in]
  have hn := g.nc
  obtain ⟨acc, h1, h2, h3⟩ := soutL_sat (g := evT (phi Fs (m + 7)) (.nm 2)) (i := evI (phi Fs (m + 7)) i_reach_in_1) (b := sinL (evT (phi Fs (m + 7)) (.nm 3)) (evE (phi Fs (m + 7)) e_reach_in_2) [3]) (ow := [2, 3]) (n := w.cs.length) (ρw := [.dat (woodD w), .dat x, .none, .none])
    (fun d k => ∃ s c : Nat, d = natD s ∧ k = (c : Int) ∧ c < w.cs.length ∧ reachB w (siteP w s) c = true) (xs := ch.map natD) (acc := []) (ρ := [.dat (woodD w), .dat x, .none, .none]) rfl rfl ⟨List.nodup_nil, fun k h => nomatch h⟩ (fun d hd => by
      obtain ⟨s, hs, rfl⟩ := List.mem_map.mp hd
      have hs' := site_at g (hc s hs)
      have hr := reached_by_ g m hs'
      refine ⟨[.dat (woodD w), .dat x, .dat (natD s), .none], ((reachL w (siteP w s)).map natD), [.dat (woodD w), .dat x, .dat (natD s), .none], [.dat (woodD w), .dat x, .dat (natD s), .none], by simp, ?_, rfl, rfl, fun acc hm => ?_⟩
      · simp [i_reach_in_1, hr]
        rfl
      · obtain ⟨acc', q1, q2, q3⟩ := sinL_sat (g := evT (phi Fs (m + 7)) (.nm 3)) (e := evE (phi Fs (m + 7)) e_reach_in_2) (vs1 := [3]) (n := w.cs.length) (by omega) (ρw := [.dat (woodD w), .dat x, .dat (natD s), .none]) itI
          (xs := (reachL w (siteP w s)).map natD) (acc := acc) (ρ := [.dat (woodD w), .dat x, .dat (natD s), .none]) rfl rfl hm (fun y hy => by
            obtain ⟨c, hc', rfl⟩ := List.mem_map.mp hy
            have := List.mem_range.mp (List.mem_filter.mp hc').1
            simp only [itI]
            omega) (fun y hy => by
            obtain ⟨c, hc', rfl⟩ := List.mem_map.mp hy
            exact ⟨[.dat (woodD w), .dat x, .dat (natD s), .dat (natD c)], [.dat (woodD w), .dat x, .dat (natD s), .dat (natD c)], by simp, by simp [e_reach_in_2, itI], rfl, rfl⟩)
        refine ⟨acc', q1, q2, fun k => ?_⟩
        rw [q3]
        constructor
        · rintro (h | ⟨y, hy, rfl⟩)
          · exact .inl h
          · obtain ⟨c, hc', rfl⟩ := List.mem_map.mp hy
            obtain ⟨c1, c2⟩ := List.mem_filter.mp hc'
            exact .inr ⟨s, c, rfl, rfl, List.mem_range.mp c1, c2⟩
        · rintro (h | ⟨s', c, hs', rfl, h4, h5⟩)
          · exact .inl h
          · have : s' = s := by
              have : (s : Int) = s' := by injection hs'
              omega
            subst this
            exact .inr ⟨natD c, List.mem_map.mpr ⟨c, List.mem_filter.mpr ⟨List.mem_range.mpr h4, h5⟩, rfl⟩, rfl⟩)
  have e : (srtI acc).map D.int = (reachS w ch).map natD := by
    refine srt_filter h2 fun k hk => ?_
    rw [h3]
    constructor
    · rintro (h | ⟨d, hd, s, c, rfl, hk', _, h5⟩)
      · cases h
      · obtain ⟨s', hs, e⟩ := List.mem_map.mp hd
        have e1 : s' = s := by
          have : (s' : Int) = s := by injection e
          omega
        have e2 : k = c := by omega
        subst e1 e2
        exact List.any_eq_true.mpr ⟨s', hs, h5⟩
    · intro h
      obtain ⟨s, hs, h5⟩ := List.any_eq_true.mp h
      exact .inr ⟨natD s, List.mem_map.mpr ⟨s, hs, rfl⟩, s, k, rfl, rfl, hk, h5⟩
  simp [b_reach_in, i_reach_in_0, hx, h1, e, backE]
theorem left_in_ (m : Nat) {x : D} {ch : List Nat} (hx : itemsI x = some (ch.map natD)) (hc : ∀ s ∈ ch, s < w.ss.length) : phi Fs (m + 9) "left_in" [.dat (woodD w), .dat x] = .ok (.lst ((leftS w ch).map natD)) [] := by
  rw [run_left_in]
  have hn := g.nc
  have e0 : evE (phi Fs (m + 8)) (.prim .len [.ex (.prim .idx [.ex (.var 0), .ex (.cst (.int 2))])]) [.dat (woodD w), .dat x, .dat (.lst ((reachS w ch).map natD)), .none] = .ok (.int (w.cs.length : Int)) [.dat (woodD w), .dat x, .dat (.lst ((reachS w ch).map natD)), .none] := by
    simp [wood2]
  have e1 := rng_go e0 (rng_okn (n := w.cs.length) (by omega))
  have hr := reach_in_ g m hx hc
  simp [b_left_in, hr, -evI_rng, e1, rng_n]
  rw [compL_pure (natF fun i => if (!decide (i ∈ reachS w ch)) = true then some (natD i) else none) (ρw := [.dat (woodD w), .dat x, .dat (.lst ((reachS w ch).map natD)), .none])
    (by rw [List.length_map, List.length_range]; exact small_line (by omega)) rfl rfl fun y hy => ?_]
  · rw [natF_map, filterMap_if]
    have e : (List.range w.cs.length).filter (fun i => !decide (i ∈ reachS w ch)) = leftS w ch := by
      unfold leftS
      exact List.filter_congr fun c hc => not_reach g ch (List.mem_range.mp hc)
    rw [e]
    simp [backE]
  · obtain ⟨n, rfl, hn⟩ := mem_nats hy
    simp [turnC, q_left_in_0, e_left_in_1]
    rw [show D.lst ((reachS w ch).map fun (n : Nat) => D.int (n : Int)) = .lst ((reachS w ch).map natD) from rfl, in_nats]
    by_cases h : n ∈ reachS w ch
    · simp [h, noOwn, wipeE]
    · simp [h, noOwn, wipeE]
end
section
variable {w : Wd} (g : GoodW w)
include g
theorem law_left_ (m : Nat) {x : D} {ch : List Nat} (hx : itemsI x = some (ch.map natD)) (hc : ∀ s ∈ ch, s < w.ss.length) (hl : ch.length ≤ 1000) : phi Fs (m + 4) "_law_left" [.dat (woodD w), .dat x] = .ok (.lst ((leftS w ch).map natD)) [] := by
  rw [run_law_left]
  have hn := g.nc
  simp [b_law_left, hx]
  obtain ⟨ρ', k1, l, x3, rfl, hm, hlen⟩ := forL_nx (g := evT (phi Fs (m + 3)) (.nm 3)) (b := evS.go (phi Fs (m + 3)) l_law_left_0) (xs := ch.map natD) (ρ := [.dat (woodD w), .dat x, .own [], .none, .none])
    (fun i ρ => ∃ (l : List Nat) (x3 : Iv.Slot), ρ = [.dat (woodD w), .dat x, .own (l.map natD), x3, .none] ∧ (∀ c, c ∈ l ↔ c < w.cs.length ∧ reachedS w (ch.take i) c = true) ∧ l.length ≤ 12 * i) ⟨[], .none, rfl, fun c => by simp [reachedS], Nat.le_refl _⟩ (fun i y ρ hy ⟨l, x3, hρ, hm, hlen⟩ => by
      subst hρ
      rw [List.getElem?_map] at hy
      cases hs : ch[i]? with
      | none =>
        rw [hs] at hy
        cases hy
      | some s =>
        rw [hs] at hy
        cases hy
        have hs' := site_at g (hc s (List.mem_of_getElem? hs))
        have hr := law_reached_ g m hs'
        have hi := getElem?_lt hs
        have hrl : (reachL w (siteP w s)).length ≤ 12 := by
          refine Nat.le_trans (List.length_filter_le _ _) ?_
          rw [List.length_range]
          omega
        have hline : l.length + (reachL w (siteP w s)).length ≤ line := by
          rw [line]
          omega
        have hr' : phi Fs (m + 3) "_law_reached" [.dat (woodD w), .dat (natD s)] = .ok (.lst ((reachL w (siteP w s)).map natD)) [] := hr
        simp [l_law_left_0, hr', hline]
        refine ⟨l ++ reachL w (siteP w s), by simp, fun c => ?_, by rw [List.length_append]; omega⟩
        rw [List.mem_append, hm, List.take_add_one, hs]
        simp only [reachedS, Option.toList_some, List.any_append, List.any_cons, List.any_nil, Bool.or_false, Bool.or_eq_true, reachL, List.mem_filter, List.mem_range]
        constructor
        · rintro (⟨h1, h2⟩ | ⟨h1, h2⟩)
          · exact ⟨h1, .inl h2⟩
          · exact ⟨h1, .inr h2⟩
        · rintro ⟨h1, h2 | h2⟩
          · exact .inl ⟨h1, h2⟩
          · exact .inr ⟨h1, h2⟩)
  rw [k1]
  rw [List.take_of_length_le (by simp)] at hm
  have e0 : evE (phi Fs (m + 3)) (.prim .len [.ex (.prim .idx [.ex (.var 0), .ex (.cst (.int 2))])]) [.dat (woodD w), .dat x, .own (l.map natD), x3, .none] = .ok (.int (w.cs.length : Int)) [.dat (woodD w), .dat x, .own (l.map natD), x3, .none] := by
    simp [wood2]
  have e1 := rng_go e0 (rng_okn (n := w.cs.length) (by omega))
  simp [-evI_rng, e1, rng_n]
  rw [compL_pure (natF fun i => if (!decide (i ∈ l)) = true then some (natD i) else none) (ρw := [.dat (woodD w), .dat x, .own (l.map natD), x3, .none])
    (by rw [List.length_map, List.length_range]; exact small_line (by omega)) rfl rfl fun y hy => ?_]
  · rw [natF_map, filterMap_if]
    have e : (List.range w.cs.length).filter (fun i => !decide (i ∈ l)) = leftS w ch := by
      unfold leftS
      refine List.filter_congr fun c hc => ?_
      congr 1
      rw [Bool.eq_iff_iff]
      simp [hm, List.mem_range.mp hc]
    rw [e]
    simp [backE]
  · obtain ⟨n, rfl, hn⟩ := mem_nats hy
    have hin := in_nats n l
    simp only [natD] at hin
    simp [turnC, q_law_left_1, e_law_left_2, hin]
    by_cases h : n ∈ l
    · simp [h, noOwn, wipeE]
    · simp [h, noOwn, wipeE]
theorem cost_in_ (m : Nat) {x : D} {ch : List Nat} (hx : itemsI x = some (ch.map natD)) (hc : ∀ s ∈ ch, s < w.ss.length) (hl : ch.length ≤ 1000) : phi Fs (m + 10) "cost_in" [.dat (woodD w), .dat x] = .ok (.int (costS w ch)) [] := by
  rw [run_cost_in]
  have hn := g.nc
  simp [b_cost_in, left_in_ g m hx hc]
  rw [compL_pure (natF fun i => some (.int (feeC w i))) (ρw := [.dat (woodD w), .dat x, .none, .none, .none])
    (by rw [List.length_map]; refine small_line (Nat.le_trans (List.length_filter_le _ _) ?_); rw [List.length_range]; omega) rfl rfl fun y hy => ?_]
  · rw [natF_map, filterMap_all]
    simp [backE, hx]
    rw [compL_pure (natF fun i => some (.int (siteC w i))) (ρw := [.dat (woodD w), .dat x, .dat (.lst ((leftS w ch).map fun i => D.int (feeC w i))), .none, .none])
      (by rw [List.length_map]; exact small_line hl) rfl rfl fun y hy => ?_]
    · rw [natF_map, filterMap_all]
      have s1 := sumD_map g (siteC w) ch
      have s2 := sumD_map g (feeC w) (leftS w ch)
      simp [backE, s1, s2, costS]
    · obtain ⟨s, hs, rfl⟩ := List.mem_map.mp hy
      have e2 := at_map tieD w.ss (site_at g (hc s hs))
      simp [turnC, e_cost_in_1, wood3, e2, noOwn, wipeE, siteC, tieD]
  · obtain ⟨c, hc', rfl⟩ := List.mem_map.mp hy
    obtain ⟨cu, h1, h2⟩ := left_mem g hc'
    have e1 := at_map cuD w.cs h1
    simp [turnC, e_cost_in_0, wood2, e1, noOwn, wipeE, h2, cuD]
theorem law_cost_ (m : Nat) {x : D} {ch : List Nat} (hx : itemsI x = some (ch.map natD)) (hc : ∀ s ∈ ch, s < w.ss.length) (hl : ch.length ≤ 1000) : phi Fs (m + 5) "_law_cost" [.dat (woodD w), .dat x] = .ok (.int (costS w ch)) [] := by
  rw [run_law_cost]
  have hn := g.nc
  simp [b_law_cost, hx]
  rw [compL_pure (natF fun i => some (.int (siteC w i))) (ρw := [.dat (woodD w), .dat x, .none, .none])
    (by rw [List.length_map]; exact small_line hl) rfl rfl fun y hy => ?_]
  · rw [natF_map, filterMap_all]
    have s1 := sumD_map g (siteC w) ch
    simp [backE, s1, law_left_ g m hx hc hl]
    rw [compL_pure (natF fun i => some (.int (feeC w i))) (ρw := [.dat (woodD w), .dat x, .none, .none])
      (by rw [List.length_map]; refine small_line (Nat.le_trans (List.length_filter_le _ _) ?_); rw [List.length_range]; omega) rfl rfl fun y hy => ?_]
    · rw [natF_map, filterMap_all]
      have s2 := sumD_map g (feeC w) (leftS w ch)
      simp [backE, s2, costS]
    · obtain ⟨c, hc', rfl⟩ := List.mem_map.mp hy
      obtain ⟨cu, h1, h2⟩ := left_mem g hc'
      have e1 := at_map cuD w.cs h1
      simp [turnC, e_law_cost_1, wood2, e1, noOwn, wipeE, h2, cuD]
  · obtain ⟨s, hs, rfl⟩ := List.mem_map.mp hy
    have e2 := at_map tieD w.ss (site_at g (hc s hs))
    simp [turnC, e_law_cost_0, wood3, e2, noOwn, wipeE, siteC, tieD]
end
section
variable {w : Wd} (g : GoodW w) {ls : List (Int × Int)} (hs : SmallR ls) (hn : ls.length = w.cs.length)
include g
include hs hn
theorem earned_in_ (m : Nat) {s : Nat} (h : s < w.ss.length) : phi Fs (m + 8) "earned_in" [.dat (woodD w), .dat (natD s), .dat (.tup (ls.map rtD))] = .ok (rtD (earnS w ls s)) [] := by
  rw [run_earned_in]
  have hr := reached_by_ g m (site_at g h)
  have hr' : phi Fs (m + 7) "reached_by" [.dat (woodD w), .dat (natD s)] = .ok (.lst ((reachL w (siteP w s)).map natD)) [] := hr
  obtain ⟨h1, h2⟩ := earn_small g hs hn s
  simp [b_earned_in, hr']
  rw [compL_pure (natF fun c => some (rtD (getR ls c))) (ρw := [.dat (woodD w), .dat (natD s), .dat (.tup (ls.map rtD)), .none])
    (by rw [List.length_map]; refine small_line (Nat.le_trans (List.length_filter_le _ _) ?_); rw [List.length_range]; have := g.nc; omega) rfl rfl fun y hy => ?_]
  · rw [natF_map, filterMap_all]
    have e : ((reachL w (siteP w s)).map fun c => rtD (getR ls c)) = (earnL w ls s).map rtD := by
      unfold earnL
      rw [List.map_map]
      rfl
    rw [e]
    simp [backE, total_ (m + 4) (x := .lst ((earnL w ls s).map rtD)) rfl h1 h2, earnS]
  · obtain ⟨c, hc, rfl⟩ := List.mem_map.mp hy
    have e1 := at_map rtD ls (get_at g hs hn hc)
    simp [turnC, e_earned_in_0, e1, noOwn, wipeE]
theorem law_earn (m : Nat) {s : Nat} (h : s < w.ss.length) : phi Fs (m + 3) "_law_sum" [.dat (.lst ((earnL w ls s).map rtD))] = .ok (rtD (earnS w ls s)) [] := by
  obtain ⟨h1, h2⟩ := earn_small g hs hn s
  exact law_sum_ m rfl h1 h2
theorem is_sound_in_ (m : Nat) : phi Fs (m + 9) "is_sound_in" [.dat (woodD w), .dat (.tup (ls.map rtD))] = .ok (.bl (soundS w ls)) [] := by
  rw [run_is_sound_in]
  simp [b_is_sound_in, wood2, zip_cu g hs hn]
  have nc := g.nc
  have ns := g.ns
  rcases forL_sat (g := evT (phi Fs (m + 8)) (.tup [.nm 2, .nm 3])) (b := evS.go (phi Fs (m + 8)) l_is_sound_in_0) (xs := (w.cs.zip ls).map fun p => D.tup [cuD p.1, rtD p.2]) (ρ := [.dat (woodD w), .dat (.tup (ls.map rtD)), .none, .none, .none, .none])
    (fun i ρ => ∃ x2 x3, ρ = [.dat (woodD w), .dat (.tup (ls.map rtD)), x2, x3, .none, .none] ∧ ((w.cs.zip ls).take i).all okC = true) (fun d ρ => d = .bl false ∧ (w.cs.zip ls).all okC = false) ⟨_, _, rfl, rfl⟩ (fun i y ρ hy ⟨x2, x3, hρ, ha⟩ => by
      subst hρ
      rw [List.getElem?_map] at hy
      cases hp : (w.cs.zip ls)[i]? with
      | none =>
        rw [hp] at hy
        cases hy
      | some p =>
        rw [hp] at hy
        cases hy
        have hm := List.mem_of_getElem? hp
        obtain ⟨q1, q2⟩ := cu_pr g hs hn hm
        have e1 := is_less_ (m + 7) q1 q2
        have e2 := whole_ (m + 7) (p.1.fe : Int)
        have c3 : idxD (cuD p.1) (.int 3) = some (.int (p.1.fe : Int)) := rfl
        have nxt : okC p = true → ((w.cs.zip ls).take (i + 1)).all okC = true := fun h => by
          rw [List.take_add_one, hp, List.all_append, ha]
          simp [h]
        have bad : okC p = false → (w.cs.zip ls).all okC = false := fun h => List.all_eq_false.mpr ⟨p, hm, by simp [h]⟩
        by_cases h1 : p.2.1 < 0
        · have : okC p = false := by simp [okC, h1]
          simp [l_is_sound_in_0, rt0, h1, bad this]
        · by_cases h2 : lessR ((p.1.fe : Int), 1) p.2 = true
          · have : okC p = false := by simp [okC, h2]
            simp [l_is_sound_in_0, rt0, h1, c3, e2, e1, h2, bad this]
          · have h2 : lessR ((p.1.fe : Int), 1) p.2 = false := by simpa using h2
            have : okC p = true := by simp [okC, h1, h2]
            simp [l_is_sound_in_0, rt0, h1, c3, e2, e1, h2, -List.all_eq_true]
            exact nxt this) with ⟨ρ', k1, x2, x3, rfl, ha⟩ | ⟨d, ρ', k1, rfl, ha⟩
  · rw [k1]
    rw [List.take_of_length_le (by simp)] at ha
    simp [wood3]
    rw [compL_pure (enumF fun d i => some (.bl (!okSi w ls i))) (ρw := [.dat (woodD w), .dat (.tup (ls.map rtD)), x2, x3, .none, .none])
      (by rw [enumD_len, List.length_map]; exact small_line (by omega)) rfl rfl fun y hy => ?_]
    · have z := zipIdx_range (fun (_ : D) i => some (D.bl (!okSi w ls i))) (w.ss.map tieD)
      rw [enumD_filterMap, z, List.length_map]
      have e : (List.range w.ss.length).filterMap (fun i => ((w.ss.map tieD)[i]?).bind fun _ => some (D.bl (!okSi w ls i))) = (List.range w.ss.length).map fun i => D.bl (!okSi w ls i) := by
        rw [← filterMap_all (fun i => D.bl (!okSi w ls i)) (List.range w.ss.length)]
        refine filterMap_eq fun i hi => ?_
        rw [List.getElem?_map, List.getElem?_eq_getElem (List.mem_range.mp hi)]
        rfl
      rw [e]
      have ea : anyD (.lst ((List.range w.ss.length).map fun i => D.bl (!okSi w ls i))) = some (.bl ((List.range w.ss.length).any fun i => !okSi w ls i)) := anyD_map _ _
      have eb : soundS w ls = !((List.range w.ss.length).any fun i => !okSi w ls i) := by
        unfold soundS
        rw [ha, Bool.true_and, List.all_eq_not_any_not]
      simp [backE, ea, eb, -List.any_eq_true]
    · obtain ⟨d, i, rfl, hi⟩ := enumD_mem hy
      rw [List.getElem?_map] at hi
      cases hq : w.ss[i]? with
      | none =>
        rw [hq] at hi
        cases hi
      | some q =>
        rw [hq] at hi
        cases hi
        have hlt := getElem?_lt hq
        have hc : siteC w i = (q.2 : Int) := by
          unfold siteC
          rw [List.getD_eq_getElem?_getD, hq]
          rfl
        have e1 := earned_in_ g hs hn m hlt
        have e2 := is_less_ (m + 7) (pr_int (site_fee g hlt)) (RB.pr (earn_rb g hs hn i) (Nat.le_refl _))
        have e3 := whole_ (m + 7) (siteC w i)
        have t1 : idxD (tieD q) (.int 1) = some (.int (siteC w i)) := by
          rw [hc]
          rfl
        simp [turnC, e_is_sound_in_1, t1, e3, e1, e2, noOwn, wipeE, okSi]
  · rw [k1]
    simp [soundS, ha]
end
section
variable {w : Wd} (g : GoodW w)
include g
theorem are_sound_in_ (m : Nat) (d : D) (hn : d.num = true) (hl : ∀ xs, d = .tup xs → xs.length ≤ line) : phi Fs (m + 10) "are_sound_in" [.dat (woodD w), .dat d] = .ok (.bl (areSound w d)) [] := by
  rw [run_are_sound_in]
  have e := is_prices_of_ (m + 6) w d hn hl
  by_cases h : arePr d w.cs.length = true
  · obtain ⟨ls, rfl, h1, h2⟩ := pr_back h hn
    simp [b_are_sound_in, e, h, is_sound_in_ g h2 h1 m, areSound, -List.map_map, rt_map]
  · have h : arePr d w.cs.length = false := by simpa using h
    simp [b_are_sound_in, e, h, areSound]
theorem law_are_sound_ (m : Nat) (d : D) (hn : d.num = true) (hl : ∀ xs, d = .tup xs → xs.length ≤ line) : phi Fs (m + 4) "_law_are_sound" [.dat (woodD w), .dat d] = .ok (.bl (areSound w d)) [] := by
  rw [run_law_are_sound]
  have e := law_are_prices_ m w d hn hl
  by_cases h : arePr d w.cs.length = true
  · obtain ⟨ls, rfl, h1, h2⟩ := pr_back h hn
    have nc := g.nc
    have ns := g.ns
    simp [b_law_are_sound, e, h, wood2, zip_cu g h2 h1]
    rw [compL_pure (fun x => match x with | .tup [.tup [_, _, _, .int f], .tup [.int a, .int b]] => some (.bl (decide (a < 0) || lessR (f, 1) (a, b))) | _ => none) (ρw := [.dat (woodD w), .dat (.tup (ls.map rtD)), .none, .none, .none, .none, .none, .none])
      (by rw [List.length_map, List.length_zip]; exact small_line (by omega)) rfl rfl fun x hx => ?_]
    · rw [List.filterMap_map]
      have ez : (w.cs.zip ls).filterMap ((fun x => match x with | D.tup [.tup [_, _, _, .int f], .tup [.int a, .int b]] => some (D.bl (decide (a < 0) || lessR (f, 1) (a, b))) | _ => none) ∘ fun p => D.tup [cuD p.1, rtD p.2]) = (w.cs.zip ls).map fun p => D.bl (!okC p) := by
        rw [← filterMap_all (fun p => D.bl (!okC p)) (w.cs.zip ls)]
        refine filterMap_eq fun p _ => ?_
        simp [okC, cuD, rtD]
      rw [ez]
      obtain ⟨v, hv⟩ : ∃ v, ((w.cs.zip ls).any fun p => !okC p) = v := ⟨_, rfl⟩
      have ea : anyD (.lst ((w.cs.zip ls).map fun p => D.bl (!okC p))) = some (.bl v) := by rw [anyD_map, hv]
      have eo : (w.cs.zip ls).all okC = !v := by rw [← hv, List.all_eq_not_any_not]
      simp [backE, ea]
      cases v with
      | true =>
        have : soundS w ls = false := by
          unfold soundS
          rw [eo]
          rfl
        simp [areSound, -List.map_map, rt_map, this]
      | false =>
        simp [wood3]
        rcases forL_sat (g := evT (phi Fs (m + 3)) (.tup [.nm 2, .tup [.nm 3, .nm 4]])) (b := evS.go (phi Fs (m + 3)) l_law_are_sound_2) (xs := enumD (w.ss.map tieD)) (ρ := [.dat (woodD w), .dat (.tup (ls.map rtD)), .none, .none, .none, .none, .none, .none])
          (fun i ρ => ∃ x2 x3 x4, ρ = [.dat (woodD w), .dat (.tup (ls.map rtD)), x2, x3, x4, .none, .none, .none] ∧ (List.range i).all (okSi w ls) = true) (fun d ρ => d = .bl false ∧ (List.range w.ss.length).all (okSi w ls) = false) ⟨_, _, _, rfl, rfl⟩ (fun i y ρ hy ⟨x2, x3, x4, hρ, ha⟩ => by
            subst hρ
            rw [enumD_get, List.getElem?_map] at hy
            cases hq : w.ss[i]? with
            | none =>
              rw [hq] at hy
              cases hy
            | some q =>
              rw [hq] at hy
              cases hy
              have hlt := getElem?_lt hq
              have hc : siteC w i = (q.2 : Int) := by
                unfold siteC
                rw [List.getD_eq_getElem?_getD, hq]
                rfl
              have hr := law_reached_ g m (site_at g hlt)
              have hr' : phi Fs (m + 3) "_law_reached" [.dat (woodD w), .dat (natD i)] = .ok (.lst ((reachL w (siteP w i)).map natD)) [] := hr
              have e1 := law_earn g h2 h1 m hlt
              have e2 := law_is_less_ (m + 2) (pr_int (site_fee g hlt)) (RB.pr (earn_rb g h2 h1 i) (Nat.le_refl _))
              have k1 : compL (evT (phi Fs (m + 3)) (.nm 7)) (evIf (phi Fs (m + 3)) none) (evE (phi Fs (m + 3)) e_law_are_sound_1) [7] ((reachL w (siteP w i)).map natD) [] [.dat (woodD w), .dat (.tup (ls.map rtD)), .dat (natD i), .dat (natD q.1), .dat (natD q.2), .none, .none, .none] = .ok ((earnL w ls i).map rtD) [.dat (woodD w), .dat (.tup (ls.map rtD)), .dat (natD i), .dat (natD q.1), .dat (natD q.2), .none, .none, .none] := by
                rw [compL_pure (natF fun c => some (rtD (getR ls c))) (ρw := [.dat (woodD w), .dat (.tup (ls.map rtD)), .dat (natD i), .dat (natD q.1), .dat (natD q.2), .none, .none, .none])
                  (by rw [List.length_map]; refine small_line (Nat.le_trans (List.length_filter_le _ _) ?_); rw [List.length_range]; omega) rfl rfl fun y hy => ?_]
                · rw [natF_map, filterMap_all]
                  unfold earnL
                  rw [List.map_map]
                  rfl
                · obtain ⟨c, hc, rfl⟩ := List.mem_map.mp hy
                  have e1 := at_map rtD ls (get_at g h2 h1 hc)
                  simp [turnC, e_law_are_sound_1, e1, noOwn, wipeE]
              have e2' : phi Fs (m + 3) "_law_is_less" [.dat (.tup [.int (q.2 : Int), .int 1]), .dat (rtD (earnS w ls i))] = .ok (.bl (lessR (siteC w i, 1) (earnS w ls i))) [] := by
                rw [← hc]
                exact e2
              simp only [natD] at k1 hr'
              by_cases h3 : lessR (siteC w i, 1) (earnS w ls i) = true
              · have bad : (List.range w.ss.length).all (okSi w ls) = false := List.all_eq_false.mpr ⟨i, List.mem_range.mpr hlt, by simp [okSi, h3]⟩
                simp [l_law_are_sound_2, tieD, hr', k1, backE, e1, e2', h3, bad]
              · have h3 : lessR (siteC w i, 1) (earnS w ls i) = false := by simpa using h3
                have nxt : (List.range (i + 1)).all (okSi w ls) = true := by
                  rw [List.range_succ, List.all_append, ha]
                  simp [okSi, h3]
                simp [l_law_are_sound_2, tieD, hr', k1, backE, e1, e2', h3, -List.all_eq_true, nxt]) with ⟨ρ', k1, x2, x3, x4, rfl, ha⟩ | ⟨d, ρ', k1, rfl, ha⟩
        · rw [k1]
          rw [enumD_len, List.length_map] at ha
          simp [areSound, -List.map_map, rt_map, soundS, eo, ha, h]
        · rw [k1]
          simp [areSound, -List.map_map, rt_map, soundS, ha]
    · obtain ⟨p, hp, rfl⟩ := List.mem_map.mp hx
      obtain ⟨q1, q2⟩ := cu_pr g h2 h1 hp
      have e1 := law_is_less_ (m + 2) q1 q2
      have e1' : phi Fs (m + 3) "_law_is_less" [.dat (.tup [.int (p.1.fe : Int), .int 1]), .dat (rtD p.2)] = .ok (.bl (lessR ((p.1.fe : Int), 1) p.2)) [] := e1
      by_cases h3 : p.2.1 < 0
      · simp [turnC, e_law_are_sound_0, rt0, h3, noOwn, wipeE, cuD, rtD]
      · simp [turnC, e_law_are_sound_0, rt0, h3, cu3, e1', noOwn, wipeE]
        simp [cuD, rtD, h3]
  · have h : arePr d w.cs.length = false := by simpa using h
    simp [b_law_are_sound, e, h, areSound]
end
end K41
set_option Elab.async false
set_option linter.all false
set_option maxRecDepth 100000
set_option maxHeartbeats 1000000
namespace K41
open PySem PySem.Spec L2 Iv Tr Kp Gd
def keyF (f : Nat → D) (x : D) : D := match x with
  | .int i => f i.toNat
  | _ => .non
theorem keyF_map (f : Nat → D) (l : List Nat) : (l.map natD).map (keyF f) = l.map f := by
  rw [List.map_map]
  refine List.map_congr_left fun i _ => ?_
  simp [keyF, natD]
theorem columns_of_ {w : Wd} (g : GoodW w) : ∃ ord : List Nat, (∀ m, phi Fs (m + 1) "columns_of" [.dat (.lst ((depthsT w.ts).map natD)), .dat (.tup (w.ss.map tieD))] = .ok (.lst (ord.map natD)) []) ∧
    ord.Perm (List.range w.ss.length) ∧ ord.Pairwise fun a b => depS w b ≤ depS w a := by
  obtain ⟨ord, h1, h2, h3⟩ := ord_cols w w.ss.length
  refine ⟨ord, fun m => ?_, h2, h3⟩
  rw [run_columns_of]
  have hl : w.ss.length ≤ line := small_line (by have := g.ns; omega)
  have ns := g.ns
  have nl : (w.ss.length : Int) ≤ 1000000 := by omega
  simp [b_columns_of, nl, rng_okn (show w.ss.length ≤ 1000 by omega), rng_n]
  rw [keyL_pure (keyF (colKey w)) rfl _ fun x hx => ?_]
  · have q : sortOk ((List.range w.ss.length).map (colKey w)) = true := sort_cols _ hl
    rw [keyF_map]
    simp only [bind_ok_]
    rw [h1, q]
    simp
  · obtain ⟨s, hs, rfl⟩ := List.mem_map.mp hx
    have hs := List.mem_range.mp hs
    have e1 : atI (w.ss.map tieD) ((s : Nat) : Int) = some (tieD (w.ss.getD s (0, 0))) := at_map tieD w.ss (site_at g hs)
    have e2 : atI ((depthsT w.ts).map natD) (((w.ss.getD s (0, 0)).1 : Nat) : Int) = some (natD (depS w s)) := dep_at ((PlW.of g).place s)
    obtain ⟨qq, hqq⟩ : ∃ qq, w.ss.getD s (0, 0) = qq := ⟨_, rfl⟩
    rw [hqq] at e1 e2
    simp [k_columns_of_0, natD, e1, tieD, e2, keyF, colKey]
theorem row_key_ (m : Nat) (rows : Rw) {mm : Nat} (hm : mm ≤ 1000) (r : Nat) : phi Fs (m + 1) "row_key" [.dat (.lst ((rows r).1.map natD)), .dat (natD mm)] = .ok (.tup ((bitsOf rows mm r).map D.int)) [] := by
  rw [run_row_key]
  have e := rngd_rev mm
  have k : rngOk ((mm : Int) - 1) (-1) = true := by simp [rngOk]; omega
  simp [b_row_key, natD, k, e, -List.map_reverse]
  rw [compL_pure (natF fun c => some (.int (if held rows c r = true then 1 else 0))) (ρw := [.dat (.lst ((rows r).1.map natD)), .dat (natD mm), .none])
    (by simp; exact small_line hm) rfl rfl fun x hx => ?_]
  · rw [natF_map, filterMap_all]
    have : ((List.range mm).reverse.map fun c => D.int (if held rows c r = true then 1 else 0)) = (bitsOf rows mm r).map D.int := by
      unfold bitsOf
      rw [List.map_map]
      rfl
    rw [this]
    simp [backE]
  · obtain ⟨c, hc, rfl⟩ := List.mem_map.mp hx
    have e1 := in_nats c (rows r).1
    by_cases h : c ∈ (rows r).1 <;> simp [turnC, e_row_key_0, e1, h, held, noOwn, wipeE]
structure RowsOk (rows : Rw) (n mm : Nat) : Prop where
  lt : ∀ r, r < n → ∀ c ∈ (rows r).1, c < mm
  nd : ∀ r, r < n → (rows r).1.Nodup
  ln : ∀ r, r < n → (rows r).1.length ≤ 900
theorem raised_ {rows : Rw} {costs : Nat → Nat} {n mm : Nat} (hn : n ≤ 1000) (hm : mm ≤ 1000) (H : RowsOk rows n mm) :
    ∃ ro : List Nat, ro.Perm (List.range n) ∧ (ro.Pairwise fun a b => ¬ Before rows b a) ∧
      ∀ m, phi Fs (m + 2) "raised" [.dat (.lst (rowsD rows n)), .dat (.lst (natsD costs mm))] = .ok (.tup [.lst (natsD (runR rows costs ro).2 n), .lst (natsD (runR rows costs ro).1 mm)]) [] := by
  obtain ⟨ro, h1, h2, h3⟩ := ord_rows rows mm n H.lt
  refine ⟨ro, h2, h3, fun m => ?_⟩
  rw [run_raised]
  have nl : (n : Int) ≤ 1000000 := by omega
  have listE : prim .list [.lst (natsD costs mm)] = some (.lst (natsD costs mm)) := rfl
  simp [b_raised, listE]
  rw [compL_pure (fun _ => some (.int 0)) (ρw := [.dat (.lst (rowsD rows n)), .dat (.lst (natsD costs mm)), .none, .none, .none, .none, .none, .none, .none, .none]) (by rw [rowsD_len]; exact small_line hn) rfl rfl fun x hx => ?_]
  · have ez : (rowsD rows n).filterMap (fun _ => some (D.int 0)) = natsD (fun _ => 0) n := by
      rw [filterMap_all]
      unfold rowsD natsD
      rw [List.map_map]
      rfl
    rw [ez]
    simp [backE, rng_n, nl, putA]
    rw [keyL_pure (keyF (rowKey rows mm)) rfl _ fun x hx => ?_]
    · have q := sort_rows rows mm (small_line hn)
      rw [keyF_map]
      simp only [bind_ok_]
      rw [h1, q]
      simp
      obtain ⟨ρ', k1, x2, x5, x6, x7, rfl, _⟩ := forL_nx (g := evT (phi Fs (m + 1)) (.nm 2)) (b := evS.go (phi Fs (m + 1)) l_raised_4) (xs := ro.map natD) (ρ := [.dat (.lst (rowsD rows n)), .dat (.lst (natsD costs mm)), .none, .own (natsD costs mm), .own (natsD (fun _ => 0) n), .none, .none, .none, .none, .none])
        (fun i ρ => ∃ x2 x5 x6 x7, ρ = [.dat (.lst (rowsD rows n)), .dat (.lst (natsD costs mm)), x2, .own (natsD (runR rows costs (ro.take i)).1 mm), .own (natsD (runR rows costs (ro.take i)).2 n), x5, x6, x7, .none, .none] ∧ (x5 = .none ∨ ∃ d, x5 = .dat d))
        ⟨_, _, _, _, rfl, .inl rfl⟩ (fun i y ρ hy ⟨x2, x5, x6, x7, hρ, h5⟩ => by
          subst hρ
          rw [List.getElem?_map] at hy
          cases hp : ro[i]? with
          | none =>
            rw [hp] at hy
            cases hy
          | some r =>
            rw [hp] at hy
            cases hy
            have hr : r < n := List.mem_range.mp (h2.mem_iff.mp (List.mem_of_getElem? hp))
            have st : runR rows costs (ro.take (i + 1)) = stepR rows (runR rows costs (ro.take i)) r := by
              unfold runR
              rw [take_snoc hp, List.foldl_append]
              rfl
            rw [st]
            generalize runR rows costs (ro.take i) = LP
            obtain ⟨L, P⟩ := LP
            have e1 := rows_at (f := rows) hr
            have c1 : ∀ z5 : Slot, (z5 = .none ∨ ∃ d, z5 = .dat d) → compL (evT (phi Fs (m + 1)) (.nm 5)) (evIf (phi Fs (m + 1)) none) (evE (phi Fs (m + 1)) e_raised_2) [5] ((rows r).1.map natD) [] [.dat (.lst (rowsD rows n)), .dat (.lst (natsD costs mm)), .dat (natD r), .own (natsD L mm), .own (natsD P n), z5, .dat (.lst ((rows r).1.map natD)), .dat (natD (rows r).2), .none, .none] = .ok ((rows r).1.map fun c => natD (L c)) [.dat (.lst (rowsD rows n)), .dat (.lst (natsD costs mm)), .dat (natD r), .own (natsD L mm), .own (natsD P n), .none, .dat (.lst ((rows r).1.map natD)), .dat (natD (rows r).2), .none, .none] := fun z5 hz => by
              rw [compL_pure (natF fun c => some (natD (L c))) (ρw := [.dat (.lst (rowsD rows n)), .dat (.lst (natsD costs mm)), .dat (natD r), .own (natsD L mm), .own (natsD P n), .none, .dat (.lst ((rows r).1.map natD)), .dat (natD (rows r).2), .none, .none])
                (by rw [List.length_map]; exact small_line (by have := H.ln r hr; omega)) (by rcases hz with rfl | ⟨d, rfl⟩ <;> rfl) rfl fun x hx => ?_]
              · rw [natF_map, filterMap_all]
              · obtain ⟨c, hc, rfl⟩ := List.mem_map.mp hx
                have e2 := nats_at (f := L) (H.lt r hr c hc)
                simp only [natD, idxD] at e2
                simp [turnC, e_raised_2, e2, noOwn, wipeE]
            have mn := min_row L (rows r).1 (rows r).2
            have hs := nats_set (f := P) hr (minP L (rows r).1 (rows r).2)
            have us : Gd.upF P r (minP L (rows r).1 (rows r).2) r = minP L (rows r).1 (rows r).2 := by simp [Gd.upF]
            have hg := nats_at (f := upF P r (minP L (rows r).1 (rows r).2)) hr
            have inner : ∀ z5 : Slot, ∃ ρ', forL (evT (phi Fs (m + 1)) (.nm 5)) (evS.go (phi Fs (m + 1)) l_raised_3) ((rows r).1.map natD) [.dat (.lst (rowsD rows n)), .dat (.lst (natsD costs mm)), .dat (natD r), .own (natsD L mm), .own (natsD (upF P r (minP L (rows r).1 (rows r).2)) n), z5, .dat (.lst ((rows r).1.map natD)), .dat (natD (rows r).2), .none, .none] = .nx ρ' ∧
                ∃ y5, ρ' = [.dat (.lst (rowsD rows n)), .dat (.lst (natsD costs mm)), .dat (natD r), .own (natsD (lessL L (rows r).1 (minP L (rows r).1 (rows r).2)) mm), .own (natsD (upF P r (minP L (rows r).1 (rows r).2)) n), y5, .dat (.lst ((rows r).1.map natD)), .dat (natD (rows r).2), .none, .none] ∧ (y5 = z5 ∨ ∃ d, y5 = .dat d) := fun z5 => by
              obtain ⟨ρ', q1, y5, q2, q3⟩ := forL_nx (g := evT (phi Fs (m + 1)) (.nm 5)) (b := evS.go (phi Fs (m + 1)) l_raised_3) (xs := (rows r).1.map natD) (ρ := [.dat (.lst (rowsD rows n)), .dat (.lst (natsD costs mm)), .dat (natD r), .own (natsD L mm), .own (natsD (upF P r (minP L (rows r).1 (rows r).2)) n), z5, .dat (.lst ((rows r).1.map natD)), .dat (natD (rows r).2), .none, .none])
                (fun j ρ => ∃ y5, ρ = [.dat (.lst (rowsD rows n)), .dat (.lst (natsD costs mm)), .dat (natD r), .own (natsD (lessL L ((rows r).1.take j) (minP L (rows r).1 (rows r).2)) mm), .own (natsD (upF P r (minP L (rows r).1 (rows r).2)) n), y5, .dat (.lst ((rows r).1.map natD)), .dat (natD (rows r).2), .none, .none] ∧ (y5 = z5 ∨ ∃ d, y5 = .dat d))
                ⟨z5, by rw [List.take_zero, less_nil], .inl rfl⟩ (fun j y ρ hy ⟨y5, hρ, _⟩ => by
                  subst hρ
                  rw [List.getElem?_map] at hy
                  cases hq : (rows r).1[j]? with
                  | none =>
                    rw [hq] at hy
                    cases hy
                  | some c =>
                    rw [hq] at hy
                    cases hy
                    have hcm := List.mem_of_getElem? hq
                    have hc := H.lt r hr c hcm
                    have hni : c ∉ (rows r).1.take j := fun hin => by
                      obtain ⟨hj, ej⟩ := List.getElem?_eq_some_iff.mp hq
                      obtain ⟨k, hk, ek⟩ := List.getElem_of_mem hin
                      rw [List.getElem_take] at ek
                      rw [List.length_take] at hk
                      have := (List.getElem_inj (H.nd r hr)).mp (ek.trans ej.symm)
                      omega
                    have ev : lessL L ((rows r).1.take j) (minP L (rows r).1 (rows r).2) c = L c := by simp [lessL, hni]
                    have f1 := nats_at (f := lessL L ((rows r).1.take j) (minP L (rows r).1 (rows r).2)) hc
                    have f2 := nats_set (f := lessL L ((rows r).1.take j) (minP L (rows r).1 (rows r).2)) hc (lessL L ((rows r).1.take j) (minP L (rows r).1 (rows r).2) c - minP L (rows r).1 (rows r).2)
                    have le : minP L (rows r).1 (rows r).2 ≤ L c := (minP_le (rows r).1 L (rows r).2).2.1 c hcm
                    have f3 : ((lessL L ((rows r).1.take j) (minP L (rows r).1 (rows r).2) c : Nat) : Int) - ((minP L (rows r).1 (rows r).2 : Nat) : Int) = ((lessL L ((rows r).1.take j) (minP L (rows r).1 (rows r).2) c - minP L (rows r).1 (rows r).2 : Nat) : Int) := by
                      rw [ev]
                      omega
                    rw [less_snoc hni] at f2
                    simp only [natD, idxD] at f1 f2 hg
                    simp [l_raised_3, f1, hg, us, f3, f2, take_snoc hq]) 
              rw [List.length_map, List.take_length] at q2
              exact ⟨ρ', q1, y5, q2, q3⟩
            simp only [natD, idxD] at e1 hs
            have mn' : minI (((rows r).2 : Nat) : Int) ((rows r).1.map fun c => ((L c : Nat) : Int)) = ((minP L (rows r).1 (rows r).2 : Nat) : Int) := min_cast L _ _
            have in1 : ∀ z5 : Slot, evI (phi Fs (m + 1)) (.seq (.var 6)) [.dat (.lst (rowsD rows n)), .dat (.lst (natsD costs mm)), .dat (natD r), .own (natsD L mm), .own (natsD P n), z5, .dat (.lst ((rows r).1.map natD)), .dat (natD (rows r).2), .none, .none] = .ok ((rows r).1.map natD) [.dat (.lst (rowsD rows n)), .dat (.lst (natsD costs mm)), .dat (natD r), .own (natsD L mm), .own (natsD P n), z5, .dat (.lst ((rows r).1.map natD)), .dat (natD (rows r).2), .none, .none] := fun z5 => by simp
            obtain ⟨ρ', q1, y5, rfl, q3⟩ := inner x5
            have hl : 1 + (rows r).1.length ≤ line := small_line (by have := H.ln r hr; omega)
            simp [l_raised_4, e1, rowD, c1 x5 h5, backE, hl]
            simp [mn, hs, q1, stepR]
            rcases q3 with rfl | ⟨d, rfl⟩
            · exact ⟨_, _, ⟨rfl, rfl⟩, h5⟩
            · exact ⟨_, _, ⟨rfl, rfl⟩, .inr ⟨d, rfl⟩⟩)
      rw [List.length_map, List.take_length] at k1 
      rw [k1]
      simp [frzE]
    · obtain ⟨r, hr, rfl⟩ := List.mem_map.mp hx
      have hr := List.mem_range.mp hr
      have e1 := rows_at (f := rows) hr
      have e2 := row_key_ m rows hm r
      simp only [natD, idxD] at e1 e2
      simp [k_raised_1, e1, row_0, e2, keyF, rowKey]
  · simp [turnC, e_raised_0, noOwn, wipeE]
theorem rows_enum (rows : Rw) (n : Nat) (P : Nat → Bool) : (enumD (rowsD rows n)).filterMap (enumF fun _ r => if P r = true then some (natD r) else none) = ((List.range n).filter P).map natD := by
  rw [enumD_filterMap, zipIdx_range (fun (_ : D) r => if P r = true then some (natD r) else none), rowsD_len, ← filterMap_if P natD]
  refine filterMap_eq fun i hi => ?_
  have : (rowsD rows n)[i]? = some (rowD (rows i)) := by
    unfold rowsD
    simp [List.mem_range.mp hi]
  rw [this]
  rfl
theorem opened_ {rows : Rw} {P L : Nat → Nat} {n mm : Nat} (hn : n ≤ 900) (hm : mm ≤ 900) (H : RowsOk rows n mm) :
    ∃ F : List Nat, (∀ m, phi Fs (m + 1) "opened" [.dat (.lst (rowsD rows n)), .dat (.lst (natsD P n)), .dat (.lst (natsD L mm))] = .ok (.lst (F.map natD)) []) ∧ F.Perm (runO rows L P n mm).1 := by
  have key : ∀ j, j ≤ mm → ((List.range mm).reverse.take j).length = j := fun j hj => by simp; omega
  have hlen : ∀ l : List Nat, (l.foldl (stepO rows L P n) ([], fun _ => false)).1.length ≤ l.length := fun l => by
    suffices q : ∀ (l : List Nat) st, (l.foldl (stepO rows L P n) st).1.length ≤ st.1.length + l.length by simpa using q l ([], fun _ => false)
    intro l
    induction l with
    | nil => intro st; simp
    | cons c l ih =>
      intro st
      have h1 := ih (stepO rows L P n st c)
      have h2 : (stepO rows L P n st c).1.length ≤ st.1.length + 1 := by
        unfold stepO
        split <;> simp
      rw [List.foldl_cons, List.length_cons]
      omega
  obtain ⟨F, f1, f2, _⟩ := sorted_nats (l := (runO rows L P n mm).1) (small_line (by have q : (runO rows L P n mm).1.length ≤ (List.range mm).reverse.length := hlen _; rw [List.length_reverse, List.length_range] at q; omega))
  refine ⟨F, fun m => ?_, f2⟩
  rw [run_opened]
  have e := rngd_rev mm
  have k : rngOk ((mm : Int) - 1) (-1) = true := by simp [rngOk]; omega
  simp [b_opened]
  rw [compL_pure (fun _ => some (.bl false)) (ρw := [.dat (.lst (rowsD rows n)), .dat (.lst (natsD P n)), .dat (.lst (natsD L mm)), .none, .none, .none, .none, .none, .none]) (by rw [rowsD_len]; exact small_line (by omega)) rfl rfl fun x hx => ?_]
  · have ez : (rowsD rows n).filterMap (fun _ => some (D.bl false)) = boolsD (fun _ => false) n := by
      rw [filterMap_all]
      unfold rowsD boolsD
      rw [List.map_map]
      rfl
    rw [ez]
    simp [backE, putA, k, e, -List.map_reverse]
    obtain ⟨ρ', k1, x3, x6, x7, rfl, _⟩ := forL_nx (g := evT (phi Fs m) (.nm 3)) (b := evS.go (phi Fs m) l_opened_5) (xs := (List.range mm).reverse.map natD) (ρ := [.dat (.lst (rowsD rows n)), .dat (.lst (natsD P n)), .dat (.lst (natsD L mm)), .none, .own [], .own (boolsD (fun _ => false) n), .none, .none, .none])
      (fun i ρ => ∃ x3 x6 x7, ρ = [.dat (.lst (rowsD rows n)), .dat (.lst (natsD P n)), .dat (.lst (natsD L mm)), x3, .own ((((List.range mm).reverse.take i).foldl (stepO rows L P n) ([], fun _ => false)).1.map natD), .own (boolsD (((List.range mm).reverse.take i).foldl (stepO rows L P n) ([], fun _ => false)).2 n), x6, x7, .none] ∧ (x7 = .none ∨ ∃ d, x7 = .dat d))
      ⟨_, _, _, rfl, .inl rfl⟩ (fun i y ρ hy ⟨x3, x6, x7, hρ, h7⟩ => by
        subst hρ
        rw [List.getElem?_map] at hy
        cases hp : (List.range mm).reverse[i]? with
        | none =>
          rw [hp] at hy
          cases hy
        | some c =>
          rw [hp] at hy
          cases hy
          have hc : c < mm := by
            have := List.mem_of_getElem? hp
            simpa using this
          have hi : i < mm := by
            have := (List.getElem?_eq_some_iff.mp hp).1
            simpa using this
          have st : ((List.range mm).reverse.take (i + 1)).foldl (stepO rows L P n) ([], fun _ => false) = stepO rows L P n (((List.range mm).reverse.take i).foldl (stepO rows L P n) ([], fun _ => false)) c := by
            rw [take_snoc hp, List.foldl_append]
            rfl
          have hl := hlen ((List.range mm).reverse.take i)
          rw [key i (by omega)] at hl
          rw [st]
          generalize ((List.range mm).reverse.take i).foldl (stepO rows L P n) ([], fun _ => false) = ft at hl
          obtain ⟨found, taken⟩ := ft
          have c1 : ∀ x6 z7 : Slot, (z7 = .none ∨ ∃ d, z7 = .dat d) → compL (evT (phi Fs m) (.tup [.nm 7, .nm 8])) (evIf (phi Fs m) (some q_opened_1)) (evE (phi Fs m) e_opened_2) [7, 8] (enumD (rowsD rows n)) [] [.dat (.lst (rowsD rows n)), .dat (.lst (natsD P n)), .dat (.lst (natsD L mm)), .dat (natD c), .own (found.map natD), .own (boolsD taken n), x6, z7, .none] = .ok ((someL rows P n c).map natD) [.dat (.lst (rowsD rows n)), .dat (.lst (natsD P n)), .dat (.lst (natsD L mm)), .dat (natD c), .own (found.map natD), .own (boolsD taken n), x6, .none, .none] := fun x6 z7 hz => by
            rw [compL_pure (enumF fun _ r => if (decide (0 < P r) && decide (c ∈ (rows r).1)) = true then some (natD r) else none) (ρw := [.dat (.lst (rowsD rows n)), .dat (.lst (natsD P n)), .dat (.lst (natsD L mm)), .dat (natD c), .own (found.map natD), .own (boolsD taken n), x6, .none, .none])
              (by rw [enumD_len, rowsD_len]; exact small_line (by omega)) (by rcases hz with rfl | ⟨d, rfl⟩ <;> rfl) rfl fun x hx => ?_]
            · rw [rows_enum]
              rfl
            · obtain ⟨d, r, rfl, hr⟩ := enumD_mem hx
              have hrn : r < n := by
                have := (List.getElem?_eq_some_iff.mp hr).1
                simpa using this
              have hd : d = rowD (rows r) := by
                unfold rowsD at hr
                simp [hrn] at hr
                exact hr.symm
              have e1 := nats_at (f := P) hrn
              have e2 := in_nats c (rows r).1
              simp only [natD, idxD] at e1
              rw [hd]
              by_cases h1 : 0 < P r
              · by_cases h2 : c ∈ (rows r).1 <;> simp [turnC, q_opened_1, e_opened_2, e1, row_0, e2, h1, h2, noOwn, wipeE]
              · simp [turnC, q_opened_1, e_opened_2, e1, h1, noOwn, wipeE]
          have c2 : ∀ z7 : Slot, (z7 = .none ∨ ∃ d, z7 = .dat d) → compL (evT (phi Fs m) (.nm 7)) (evIf (phi Fs m) none) (evE (phi Fs m) e_opened_3) [7] ((someL rows P n c).map natD) [] [.dat (.lst (rowsD rows n)), .dat (.lst (natsD P n)), .dat (.lst (natsD L mm)), .dat (natD c), .own (found.map natD), .own (boolsD taken n), .dat (.lst ((someL rows P n c).map natD)), z7, .none] = .ok ((someL rows P n c).map fun r => .bl (taken r)) [.dat (.lst (rowsD rows n)), .dat (.lst (natsD P n)), .dat (.lst (natsD L mm)), .dat (natD c), .own (found.map natD), .own (boolsD taken n), .dat (.lst ((someL rows P n c).map natD)), .none, .none] := fun z7 hz => by
            rw [compL_pure (natF fun r => some (.bl (taken r))) (ρw := [.dat (.lst (rowsD rows n)), .dat (.lst (natsD P n)), .dat (.lst (natsD L mm)), .dat (natD c), .own (found.map natD), .own (boolsD taken n), .dat (.lst ((someL rows P n c).map natD)), .none, .none])
              (by rw [List.length_map]; refine small_line (Nat.le_trans (List.length_filter_le _ _) ?_); rw [List.length_range]; omega) (by rcases hz with rfl | ⟨d, rfl⟩ <;> rfl) rfl fun x hx => ?_]
            · rw [natF_map, filterMap_all]
            · obtain ⟨r, hr, rfl⟩ := List.mem_map.mp hx
              have e1 := bools_at (f := taken) (mem_some.mp hr).1
              simp only [natD, idxD] at e1
              simp [turnC, e_opened_3, e1, noOwn, wipeE]
          have inner : ∀ (F0 : List D) (z7 : Slot), ∃ ρ', forL (evT (phi Fs m) (.nm 7)) (evS.go (phi Fs m) l_opened_4) ((someL rows P n c).map natD) [.dat (.lst (rowsD rows n)), .dat (.lst (natsD P n)), .dat (.lst (natsD L mm)), .dat (natD c), .own F0, .own (boolsD taken n), .dat (.lst ((someL rows P n c).map natD)), z7, .none] = .nx ρ' ∧
              ∃ y7, ρ' = [.dat (.lst (rowsD rows n)), .dat (.lst (natsD P n)), .dat (.lst (natsD L mm)), .dat (natD c), .own F0, .own (boolsD (fun r => taken r || decide (r ∈ someL rows P n c)) n), .dat (.lst ((someL rows P n c).map natD)), y7, .none] ∧ (y7 = z7 ∨ ∃ d, y7 = .dat d) := fun F0 z7 => by
            obtain ⟨ρ', q1, y7, q2, q3⟩ := forL_nx (g := evT (phi Fs m) (.nm 7)) (b := evS.go (phi Fs m) l_opened_4) (xs := (someL rows P n c).map natD) (ρ := [.dat (.lst (rowsD rows n)), .dat (.lst (natsD P n)), .dat (.lst (natsD L mm)), .dat (natD c), .own F0, .own (boolsD taken n), .dat (.lst ((someL rows P n c).map natD)), z7, .none])
              (fun j ρ => ∃ y7, ρ = [.dat (.lst (rowsD rows n)), .dat (.lst (natsD P n)), .dat (.lst (natsD L mm)), .dat (natD c), .own F0, .own (boolsD (fun r => taken r || decide (r ∈ (someL rows P n c).take j)) n), .dat (.lst ((someL rows P n c).map natD)), y7, .none] ∧ (y7 = z7 ∨ ∃ d, y7 = .dat d))
              ⟨z7, by simp, .inl rfl⟩ (fun j y ρ hy ⟨y7, hρ, _⟩ => by
                subst hρ
                rw [List.getElem?_map] at hy
                cases hq : (someL rows P n c)[j]? with
                | none =>
                  rw [hq] at hy
                  cases hy
                | some r =>
                  rw [hq] at hy
                  cases hy
                  have hrn := (mem_some.mp (List.mem_of_getElem? hq)).1
                  have f2 := bools_set (f := fun r => taken r || decide (r ∈ (someL rows P n c).take j)) hrn
                  have f3 : (fun x => (fun r => taken r || decide (r ∈ (someL rows P n c).take j)) x || decide (x = r)) = fun x => taken x || decide (x ∈ (someL rows P n c).take (j + 1)) := by
                    funext x
                    rw [take_snoc hq]
                    simp [Bool.or_assoc]
                  rw [f3] at f2
                  simp [l_opened_4, f2])
            rw [List.length_map, List.take_length] at q2
            exact ⟨ρ', q1, y7, q2, q3⟩
          have e1 := nats_at (f := L) hc
          have an := anyD_map taken (someL rows P n c)
          simp only [natD, idxD] at e1
          have hx7 : ∀ z7 : Slot, z7 = x7 ∨ (∃ d, z7 = .dat d) → (z7 = .none ∨ ∃ d, z7 = .dat d) := fun z7 hz => by
            rcases hz with rfl | h
            · exact h7
            · exact .inr h
          have hl2 : found.length ≤ i := hl
          have ll : found.length < line := by
            exact Nat.lt_of_lt_of_le (show found.length < 1000 by omega) (small_line (Nat.le_refl _))
          by_cases h0 : L c = 0
          · obtain ⟨b, hb⟩ : ∃ b, (someL rows P n c).any taken = b := ⟨_, rfl⟩
            rw [hb] at an
            cases b with
            | true =>
              have sO : stepO rows L P n (found, taken) c = (found, taken) := by simp [stepO, hb]
              rw [sO]
              simp [l_opened_5, c1 x6 x7 h7, c2 x7 h7, backE, e1, h0, an]
              exact ⟨_, _, _, ⟨rfl, rfl, rfl⟩, h7⟩
            | false =>
              have sO : stepO rows L P n (found, taken) c = (found ++ [c], fun r => taken r || decide (r ∈ someL rows P n c)) := by simp [stepO, hb, h0]
              rw [sO]
              obtain ⟨ρ', q1, y7, rfl, q3⟩ := inner (found.map natD ++ [natD c]) x7
              simp [l_opened_5, c1 x6 x7 h7, c2 x7 h7, backE, e1, h0, an, mtD, ll, q1]
              exact ⟨_, _, _, ⟨rfl, rfl, rfl⟩, hx7 y7 q3⟩
          · have sO : stepO rows L P n (found, taken) c = (found, taken) := by simp [stepO, h0]
            rw [sO]
            simp [l_opened_5, c1 x6 x7 h7, backE, e1, h0]
            exact ⟨_, _, _, ⟨rfl, rfl, rfl⟩, h7⟩)
    rw [List.length_map, List.take_of_length_le (by simp)] at k1
    rw [k1]
    have e9 : (List.range mm).reverse.foldl (stepO rows L P n) ([], fun _ => false) = runO rows L P n mm := rfl
    rw [e9]
    simp [f1]
  · simp [turnC, e_opened_0, noOwn, wipeE]
end K41
set_option Elab.async false
set_option linter.all false
set_option maxRecDepth 100000
set_option maxHeartbeats 1000000
namespace K41
open PySem PySem.Spec L2 Iv Tr Kp Gd
theorem best_of_rows_ {rows : Rw} {costs : Nat → Nat} {n mm : Nat} (hn : n ≤ 900) (hm : mm ≤ 900) (H : RowsOk rows n mm) :
    ∃ (ro F : List Nat) (L P : Nat → Nat), ro.Perm (List.range n) ∧ (ro.Pairwise fun a b => ¬ Before rows b a) ∧ runR rows costs ro = (L, P) ∧ F.Perm (runO rows L P n mm).1 ∧
      ∀ m, phi Fs (m + 3) "best_of_rows" [.dat (.lst (rowsD rows n)), .dat (.lst (natsD costs mm))] = .ok (.tup [.lst (F.map natD), .lst (natsD P n)]) [] := by
  obtain ⟨ro, h1, h2, h3⟩ := raised_ (costs := costs) (show n ≤ 1000 by omega) (show mm ≤ 1000 by omega) H
  obtain ⟨⟨L, P⟩, hLP⟩ : ∃ LP, runR rows costs ro = LP := ⟨_, rfl⟩
  simp only [hLP] at h3
  obtain ⟨F, h4, h5⟩ := opened_ (P := P) (L := L) hn hm H
  refine ⟨ro, F, L, P, h1, h2, hLP, h5, fun m => ?_⟩
  rw [run_best_of_rows]
  simp [b_best_of_rows, h3, h4 (m + 1)]
section
variable {w : Wd} (g : GoodW w)
include g
theorem rows_ok {ord : List Nat} (h : ord.length = w.ss.length) : RowsOk (rowsW w ord) w.cs.length w.ss.length where
  lt := fun r _ c hc => by
    have := (List.mem_filter.mp hc).1
    rw [← h]
    simpa using this
  nd := fun r _ => List.Nodup.sublist List.filter_sublist List.nodup_range
  ln := fun r _ => by
    have h1 := List.length_filter_le (fun k => reachB w (siteP w (ord.getD k 0)) r) (List.range ord.length)
    rw [List.length_range] at h1
    have := g.ns
    show (List.filter _ _).length ≤ _
    omega
theorem best_in_ : ∃ (F : List Nat) (P : Nat → Nat), BestW w F P ∧ ∀ m, phi Fs (m + 11) "best_in" [.dat (woodD w)] = .ok (.tup [.int (costS w F), .tup (F.map natD), .tup (pricesD P w.cs.length)]) [] := by
  obtain ⟨ord, k1, k2, k3⟩ := columns_of_ g
  obtain ⟨ol, ond, olt⟩ := perm_getD k2
  have H := rows_ok g ol
  have nc := g.nc
  have ns := g.ns
  obtain ⟨ro, F0, L, P, r1, r2, r3, r4, r5⟩ := best_of_rows_ (costs := fun k => siteN w (ord.getD k 0)) (show w.cs.length ≤ 900 by omega) (show w.ss.length ≤ 900 by omega) H
  have f0 : ∀ k ∈ F0, k < w.ss.length := fun k hk => by
    have := r4.mem_iff.mp hk
    exact (no_gap (by have N := nest_w (PlW.of g) k3; rw [ol] at N; exact N) r1 r2 r3 rfl).2.2.2.2 k this
  have fl : F0.length ≤ w.ss.length := by
    have nd : F0.Nodup := r4.nodup_iff.mpr (no_gap (by have N := nest_w (PlW.of g) k3; rw [ol] at N; exact N) r1 r2 r3 rfl).2.2.2.1
    have := nodup_len (l := F0.map fun (k : Nat) => (k : Int)) (n := w.ss.length) (List.pairwise_map.mpr (nd.imp fun h => by omega)) (fun k hk => by
      obtain ⟨j, hj, rfl⟩ := List.mem_map.mp hk
      have := f0 j hj
      omega)
    simpa using this
  obtain ⟨F, s1, s2, s3⟩ := sorted_nats (l := F0.map fun k => ord.getD k 0) (small_line (by rw [List.length_map]; omega))
  have B := best_of (PlW.of g) k2 k3 r1 r2 r3 rfl (s2.trans (r4.map _)) s3
  refine ⟨F, P, B, fun m => ?_⟩
  rw [run_best_in]
  have d1 := depths_in_ (m + 9) g.t
  have d1' : phi Fs (m + 10) "depths_in" [.dat (treeD w.ts)] = .ok (.lst ((depthsT w.ts).map natD)) [] := d1
  have k1' := k1 (m + 9)
  have ordlt : ∀ s ∈ ord, s < w.ss.length := fun s hs => List.mem_range.mp (k2.mem_iff.mp hs)
  simp [b_best_in, wood1, wood3, d1', k1']
  rw [compL_pure (natF fun s => some (.lst ((reachL w (siteP w s)).map natD))) (ρw := [.dat (woodD w), .dat (.lst (ord.map natD)), .none, .none, .none, .none, .none, .none, .none, .none, .none, .none, .none]) (by rw [List.length_map]; exact small_line (by omega)) rfl rfl fun x hx => ?_]
  · rw [natF_map, filterMap_all]
    obtain ⟨cols, hcols⟩ : ∃ cols, (ord.map fun s => D.lst ((reachL w (siteP w s)).map natD)) = cols := ⟨_, rfl⟩
    rw [hcols]
    simp [backE, wood2]
    obtain ⟨ρ', q1, x5, x6, rfl⟩ := forL_nx (g := evT (phi Fs (m + 10)) (.tup [.nm 5, .nm 6])) (b := evS.go (phi Fs (m + 10)) l_best_in_3) (xs := enumD (w.cs.map cuD)) (ρ := [.dat (woodD w), .dat (.lst (ord.map natD)), .dat (.lst cols), .own [], .none, .none, .none, .none, .none, .none, .none, .none, .none])
      (fun i ρ => ∃ x5 x6, ρ = [.dat (woodD w), .dat (.lst (ord.map natD)), .dat (.lst cols), .own (rowsD (rowsW w ord) i), .none, x5, x6, .none, .none, .none, .none, .none, .none])
      ⟨_, _, rfl⟩ (fun i y ρ hy ⟨x5, x6, hρ⟩ => by
        subst hρ
        rw [enumD_get, List.getElem?_map] at hy
        cases hq : w.cs[i]? with
        | none =>
          rw [hq] at hy
          cases hy
        | some cu =>
          rw [hq] at hy
          cases hy
          have hi := getElem?_lt hq
          have c1 : compL (evT (phi Fs (m + 10)) (.tup [.nm 10, .nm 12])) (evIf (phi Fs (m + 10)) (some q_best_in_1)) (evE (phi Fs (m + 10)) e_best_in_2) [10, 12] (enumD cols) [] [.dat (woodD w), .dat (.lst (ord.map natD)), .dat (.lst cols), .own (rowsD (rowsW w ord) i), .none, .dat (natD i), .dat (cuD cu), .none, .none, .none, .none, .none, .none] = .ok ((rowsW w ord i).1.map natD) [.dat (woodD w), .dat (.lst (ord.map natD)), .dat (.lst cols), .own (rowsD (rowsW w ord) i), .none, .dat (natD i), .dat (cuD cu), .none, .none, .none, .none, .none, .none] := by
            rw [compL_pure (enumF fun _ k => if reachB w (siteP w (ord.getD k 0)) i = true then some (natD k) else none) (ρw := [.dat (woodD w), .dat (.lst (ord.map natD)), .dat (.lst cols), .own (rowsD (rowsW w ord) i), .none, .dat (natD i), .dat (cuD cu), .none, .none, .none, .none, .none, .none])
              (by rw [enumD_len, ← hcols, List.length_map]; exact small_line (by omega)) rfl rfl fun x hx => ?_]
            · rw [enumD_filterMap, zipIdx_range (fun (_ : D) k => if reachB w (siteP w (ord.getD k 0)) i = true then some (natD k) else none)]
              have e : (rowsW w ord i).1.map natD = (List.range ord.length).filterMap fun k => if reachB w (siteP w (ord.getD k 0)) i = true then some (natD k) else none := by
                rw [filterMap_if]
                rfl
              rw [e]
              have el : cols.length = ord.length := by rw [← hcols, List.length_map]
              rw [el]
              congr 1
              refine filterMap_eq fun k hk => ?_
              have : k < cols.length := by rw [el]; exact List.mem_range.mp hk
              rw [List.getElem?_eq_getElem this]
              rfl
            · obtain ⟨d, k, rfl, hk⟩ := enumD_mem hx
              rw [← hcols, List.getElem?_map] at hk
              cases ho : ord[k]? with
              | none =>
                rw [ho] at hk
                cases hk
              | some s =>
                rw [ho] at hk
                cases hk
                have eg : ord.getD k 0 = s := by rw [List.getD_eq_getElem?_getD, ho]; rfl
                have e2 := in_nats i (reachL w (siteP w s))
                have e3 : decide (i ∈ reachL w (siteP w s)) = reachB w (siteP w s) i := by
                  unfold reachL
                  simp [List.mem_filter, hi]
                rw [e3] at e2
                by_cases h : reachB w (siteP w s) i = true
                · rw [h] at e2
                  simp [turnC, q_best_in_1, e_best_in_2, e2, eg, h, noOwn, wipeE, -List.getD_eq_getElem?_getD]
                · have h : reachB w (siteP w s) i = false := by simpa using h
                  rw [h] at e2
                  simp [turnC, q_best_in_1, e_best_in_2, e2, eg, h, noOwn, wipeE, -List.getD_eq_getElem?_getD]
          have rs : rowsD (rowsW w ord) (i + 1) = rowsD (rowsW w ord) i ++ [.tup [.lst ((rowsW w ord i).1.map natD), natD cu.fe]] := by
            unfold rowsD
            rw [List.range_succ, List.map_append]
            have : rowD (rowsW w ord i) = .tup [.lst ((rowsW w ord i).1.map natD), natD cu.fe] := by
              unfold rowD rowsW feeN
              rw [hq]
            simp [this]
          have hl : i < line := Nat.lt_of_lt_of_le (show i < 1000 by omega) (small_line (Nat.le_refl _))
          simp [l_best_in_3, c1, backE, cu3, mtD, rs, hl])
    rw [enumD_len, List.length_map] at q1
    rw [q1]
    have costsE : compL (evT (phi Fs (m + 10)) (.nm 9)) (evIf (phi Fs (m + 10)) none) (evE (phi Fs (m + 10)) e_best_in_4) [9] (ord.map natD) [] [.dat (woodD w), .dat (.lst (ord.map natD)), .dat (.lst cols), .dat (.lst (rowsD (rowsW w ord) w.cs.length)), .none, x5, x6, .none, .none, .none, .none, .none, .none] = .ok (natsD (fun k => siteN w (ord.getD k 0)) w.ss.length) [.dat (woodD w), .dat (.lst (ord.map natD)), .dat (.lst cols), .dat (.lst (rowsD (rowsW w ord) w.cs.length)), .none, x5, x6, .none, .none, .none, .none, .none, .none] := by
      rw [compL_pure (natF fun s => some (natD (siteN w s))) (ρw := [.dat (woodD w), .dat (.lst (ord.map natD)), .dat (.lst cols), .dat (.lst (rowsD (rowsW w ord) w.cs.length)), .none, x5, x6, .none, .none, .none, .none, .none, .none]) (by rw [List.length_map]; exact small_line (by omega)) rfl rfl fun x hx => ?_]
      · rw [natF_map, filterMap_all]
        have : (ord.map fun s => natD (siteN w s)) = natsD (fun k => siteN w (ord.getD k 0)) w.ss.length := by
          have h := list_getD ord
          unfold natsD
          conv => lhs; rw [← h]
          rw [List.map_map, ol]
          rfl
        rw [this]
      · obtain ⟨s, hs, rfl⟩ := List.mem_map.mp hx
        have e2 := at_map tieD w.ss (site_at g (ordlt s hs))
        simp [turnC, e_best_in_4, wood3, e2, noOwn, wipeE, siteN, tieD]
    have r5' := r5 (m + 7)
    generalize natsD (fun k => siteN w (ord.getD k 0)) w.ss.length = cf at costsE r5'
    simp [frzE, costsE, backE, r5']
    rw [compL_pure (natF fun k => some (natD (ord.getD k 0))) (ρw := [.dat (woodD w), .dat (.lst (ord.map natD)), .dat (.lst cols), .dat (.lst (rowsD (rowsW w ord) w.cs.length)), .none, x5, x6, .dat (.lst (F0.map natD)), .dat (.lst (natsD P w.cs.length)), .none, .none, .none, .none]) (by rw [List.length_map]; exact small_line (by omega)) rfl rfl fun x hx => ?_]
    · rw [natF_map, filterMap_all]
      have e1 : (F0.map fun k => natD (ord.getD k 0)) = (F0.map fun k => ord.getD k 0).map natD := by rw [List.map_map]; rfl
      rw [e1]
      have tp : prim .tuple [.lst (F.map natD)] = some (.tup (F.map natD)) := rfl
      have flen : F.length ≤ 10 := by
        have := s2.length_eq
        rw [List.length_map] at this
        omega
      have ci := cost_in_ g (m := m) (x := .tup (F.map natD)) rfl B.lt (show F.length ≤ 1000 by omega)
      generalize (F0.map fun k => ord.getD k 0) = gs at s1
      simp [backE, s1, -List.map_map, ci]
      rw [compL_pure (natF fun p => some (rtD ((p : Int), 1))) (ρw := [.dat (woodD w), .dat (.lst (ord.map natD)), .dat (.lst cols), .dat (.lst (rowsD (rowsW w ord) w.cs.length)), .dat (.tup (F.map natD)), x5, x6, .dat (.lst (F0.map natD)), .dat (.lst (natsD P w.cs.length)), .none, .none, .none, .none]) (by rw [natsD_len]; exact small_line (by omega)) rfl rfl fun x hx => ?_]
      · have e2 : (natsD P w.cs.length).filterMap (natF fun p => some (rtD ((p : Int), 1))) = pricesD P w.cs.length := by
          rw [natsD_map, natF_map, filterMap_all, List.map_map]
          rfl
        rw [e2]
        simp [backE]
      · unfold natsD at hx
        obtain ⟨r, hr, rfl⟩ := List.mem_map.mp hx
        have e1 := whole_ (m + 9) ((P r : Nat) : Int)
        have e1' : phi Fs (m + 10) "whole" [.dat (.int ((P r : Nat) : Int))] = .ok (rtD ((P r : Int), 1)) [] := e1
        simp [turnC, e_best_in_6, e1', noOwn, wipeE]
    · obtain ⟨k, hk, rfl⟩ := List.mem_map.mp hx
      have e1 := nat_at (l := ord) (i := k) (by rw [ol]; exact f0 k hk)
      simp [turnC, e_best_in_5, e1, noOwn, wipeE, -List.getD_eq_getElem?_getD]
  · obtain ⟨s, hs, rfl⟩ := List.mem_map.mp hx
    have hr : phi Fs (m + 10) "reached_by" [.dat (woodD w), .dat (natD s)] = .ok (.lst ((reachL w (siteP w s)).map natD)) [] := reached_by_ g (m + 3) (site_at g (ordlt s hs))
    simp [turnC, e_best_in_0, hr, noOwn, wipeE]
end
end K41
set_option Elab.async false
set_option linter.all false
set_option maxRecDepth 100000
set_option maxHeartbeats 1000000
namespace K41
open PySem PySem.Spec L2 Iv Tr Kp Gd
theorem want_budget_ (m : Nat) {r : Int × Int} (h1 : isRt (rtD r) = true) (h2 : (rtD r).num = true) : phi Fs (m + 3) "want_budget" [.dat (rtD r)] = .ok (rtD r) [] := by
  rw [run_want_budget]
  simp [b_want_budget, is_ratio_ m _ h2, h1]
theorem PR_of {r : Int × Int} (h1 : isRt (rtD r) = true) (h2 : (rtD r).num = true) : PR r := by
  obtain ⟨_, hp⟩ := isRt_of h1
  obtain ⟨a, b⟩ := num_rt h2
  have k : (10 : Nat) ^ 20 < 2 ^ 1000 := by decide +kernel
  exact ⟨hp, Nat.lt_of_le_of_lt a k, Nat.lt_of_le_of_lt b k⟩
theorem fit_P {P : Nat → Nat} (h : ∀ r, P r ≤ 9999) {n : Nat} (hn : n ≤ 12) : Fit (.tup (pricesD P n)) 2 700 := by
  have h1 : FitL (pricesD P n) 1 ((51 + 2) * (pricesD P n).length) := FitL.all fun x hx => by
    obtain ⟨r, hr, rfl⟩ := List.mem_map.mp hx
    have := h r
    exact ((FitL.cons (Fit.int (i := ((P r : Nat) : Int)) (by omega)) (FitL.cons (Fit.int (i := 1) (by omega)) FitL.nil)).tup).wide (by decide) (by decide)
  have h2 : (pricesD P n).length = n := by simp [pricesD]
  rw [h2] at h1
  exact h1.tup.wide (by omega) (by omega)
theorem shs_open : shOk (.str ("open" : Str)) = true := by decide +kernel
theorem shs_prices : shOk (.str ("prices" : Str)) = true := by decide +kernel
theorem str_po : ¬ (Str.ofString "prices" = Str.ofString "open") := by decide +kernel
section
variable {w : Wd} (g : GoodW w) {k v : Nat} (hf : Fit (woodD w) k v) {F : List Nat} {P : Nat → Nat} (B : BestW w F P)
  (hb : ∀ m, phi Fs (m + 11) "best_in" [.dat (woodD w)] = .ok (.tup [.int (costS w F), .tup (F.map natD), .tup (pricesD P w.cs.length)]) [])
include g hf B hb
theorem F_line : ∀ xs, D.tup (F.map natD) = .tup xs → xs.length ≤ line := fun xs e => by
  cases e
  rw [List.length_map]
  have := F_len g B
  exact small_line (by omega)
theorem P_line : ∀ xs, D.tup (pricesD P w.cs.length) = .tup xs → xs.length ≤ line := fun xs e => by
  cases e
  have := g.nc
  have h2 : (pricesD P w.cs.length).length = w.cs.length := by simp [pricesD]
  rw [h2]
  exact small_line (by omega)
theorem P_num : (D.tup (pricesD P w.cs.length)).num = true := (fit_P (fee_le g B) g.nc).num
theorem least_in_ (m : Nat) : phi Fs (m + 12) "least_in" [.dat (woodD w)] = .ok (.int (costS w F)) [] := by
  rw [run_least_in]
  simp [b_least_in, hb]
theorem least_cost_ (m : Nat) : phi Fs (m + 13) "least_cost" [.dat (woodD w)] = .ok (.int (costS w F)) [] := by
  rw [run_least_cost]
  simp [b_least_cost, want_wood_ g (m + 6) hf, least_in_ g hf B hb m]
theorem best_paper_ (m : Nat) : phi Fs (m + 12) "best_paper" [.dat (woodD w)] = .ok (.tup [.tup (F.map natD), .tup (pricesD P w.cs.length)]) [] := by
  rw [run_best_paper]
  simp [b_best_paper, want_wood_ g (m + 5) hf, hb, cutL_lo1]
theorem F_cost (m : Nat) : phi Fs (m + 10) "cost_in" [.dat (woodD w), .dat (.tup (F.map natD))] = .ok (.int (costS w F)) [] := by
  have := F_len g B
  exact cost_in_ g m (x := .tup (F.map natD)) rfl B.lt (by omega)
theorem F_law_cost (m : Nat) : phi Fs (m + 5) "_law_cost" [.dat (woodD w), .dat (.tup (F.map natD))] = .ok (.int (costS w F)) [] := by
  have := F_len g B
  exact law_cost_ g m (x := .tup (F.map natD)) rfl B.lt (by omega)
theorem P_total (m : Nat) : phi Fs (m + 3) "total" [.dat (.tup (pricesD P w.cs.length))] = .ok (rtD (costS w F, 1)) [] := by
  have := g.nc
  rw [total_ m (l := listP P w.cs.length) (by rw [prices_map]; rfl) (small_P g B) (by rw [listP_len]; omega), cost_eq B]
theorem P_law_sum (m : Nat) : phi Fs (m + 3) "_law_sum" [.dat (.lst (pricesD P w.cs.length))] = .ok (rtD (costS w F, 1)) [] := by
  have := g.nc
  rw [law_sum_ m (l := listP P w.cs.length) (by rw [prices_map]; rfl) (small_P g B) (by rw [listP_len]; omega), cost_eq B]
theorem is_best_in_ (m : Nat) : phi Fs (m + 11) "is_best_in" [.dat (woodD w), .dat (.tup [.tup (F.map natD), .tup (pricesD P w.cs.length)])] = .ok (.bl true) [] := by
  rw [run_is_best_in]
  have e1 := is_open_of_ (m + 6) w (.tup (F.map natD)) (F_line g hf B hb)
  rw [areOpen_F g B] at e1
  have e2 := are_sound_in_ g m _ (P_num g hf B hb) (P_line g hf B hb)
  rw [areSound_P g B] at e2
  have e3 := F_cost g hf B hb m
  have e4 := whole_ (m + 9) (costS w F)
  have e5 := P_total g hf B hb (m + 7)
  simp [b_is_best_in, is_row_, isRow, e1, e2, e3, e4, e5, eq_rt]
theorem is_best_paper_ (m : Nat) : phi Fs (m + 12) "is_best_paper" [.dat (woodD w), .dat (.tup [.tup (F.map natD), .tup (pricesD P w.cs.length)])] = .ok (.bl true) [] := by
  rw [run_is_best_paper]
  simp [b_is_best_paper, want_wood_ g (m + 5) hf, is_best_in_ g hf B hb m]
def paperD (w : Wd) (F : List Nat) (P : Nat → Nat) (r : Int × Int) : D := if lessR r (costS w F, 1) = true then .tup [.str ("prices" : Str), .tup (pricesD P w.cs.length)] else .tup [.str ("open" : Str), .tup (F.map natD)]
omit g hf B hb in
theorem int_pr (h : -(10 ^ 20) < costS w F ∧ costS w F < 10 ^ 20) : PR (costS w F, 1) := pr_int h
theorem F_pr : PR (costS w F, 1) := by
  have := F_len g B
  exact pr_int (cost_bound g B.lt (by omega))
variable {r : Int × Int} (h1 : isRt (rtD r) = true) (h2 : (rtD r).num = true)
include h1 h2
theorem budget_paper_ (m : Nat) : phi Fs (m + 12) "budget_paper" [.dat (woodD w), .dat (rtD r)] = .ok (paperD w F P r) [] := by
  rw [run_budget_paper]
  have e1 := is_less_ (m + 10) (PR_of h1 h2) (F_pr g hf B hb)
  have e4 := whole_ (m + 10) (costS w F)
  simp [b_budget_paper, want_wood_ g (m + 5) hf, hb, want_budget_ (m + 8) h1 h2, e1, e4]
  cases hl : lessR r (costS w F, 1) <;> simp [paperD, hl]
theorem is_budget_paper_ (m : Nat) : phi Fs (m + 11) "is_budget_paper" [.dat (woodD w), .dat (rtD r), .dat (paperD w F P r)] = .ok (.bl true) [] := by
  rw [run_is_budget_paper]
  have e0 := is_less_ (m + 9) (PR_of h1 h2) (F_pr g hf B hb)
  have e1 := is_open_of_ (m + 6) w (.tup (F.map natD)) (F_line g hf B hb)
  rw [areOpen_F g B] at e1
  have e2 := are_sound_in_ g m _ (P_num g hf B hb) (P_line g hf B hb)
  rw [areSound_P g B] at e2
  have e3 := F_cost g hf B hb m
  have e4 := whole_ (m + 9) (costS w F)
  have e5 := P_total g hf B hb (m + 7)
  unfold paperD
  cases hl : lessR r (costS w F, 1) with
  | true =>
    simp [b_is_budget_paper, want_wood_ g (m + 4) hf, want_budget_ (m + 7) h1 h2, is_row_, isRow, eqD_str shs_prices shs_open, str_po, eqD_str shs_prices shs_prices, e2, e5, e0, hl]
  | false =>
    simp [b_is_budget_paper, want_wood_ g (m + 4) hf, want_budget_ (m + 7) h1 h2, is_row_, isRow, eqD_str shs_open shs_open, e1, e3, e4, e0, hl]
theorem law_is_budget_paper_ (m : Nat) : phi Fs (m + 6) "_law_is_budget_paper" [.dat (woodD w), .dat (rtD r), .dat (paperD w F P r)] = .ok (.bl true) [] := by
  rw [run_law_is_budget_paper]
  have e0 := law_is_less_ (m + 4) (PR_of h1 h2) (F_pr g hf B hb)
  have e1 := law_is_open_ (m + 4) w (.tup (F.map natD)) (F_line g hf B hb)
  rw [areOpen_F g B] at e1
  have e2 := law_are_sound_ g (m + 1) _ (P_num g hf B hb) (P_line g hf B hb)
  rw [areSound_P g B] at e2
  have e3 := F_law_cost g hf B hb m
  have e5 := P_law_sum g hf B hb (m + 2)
  have e0' : phi Fs (m + 5) "_law_is_less" [.dat (rtD r), .dat (.tup [.int (costS w F), .int 1])] = .ok (.bl (lessR r (costS w F, 1))) [] := e0
  have lp : prim .list [.tup (pricesD P w.cs.length)] = some (.lst (pricesD P w.cs.length)) := rfl
  unfold paperD
  cases hl : lessR r (costS w F, 1) with
  | true =>
    simp [b_law_is_budget_paper, eqD_str shs_prices shs_open, str_po, eqD_str shs_prices shs_prices, e2, e5, e0, lp, hl]
  | false =>
    simp [b_law_is_budget_paper, eqD_str shs_open shs_open, e1, e3, e0', hl]
end
end K41
set_option Elab.async false
set_option linter.all false
set_option maxRecDepth 100000
set_option maxHeartbeats 1000000
namespace K41
open PySem PySem.Spec L2 Iv Tr Kp Gd
theorem small2_line {n : Nat} (h : n ≤ 5000) : n ≤ line := Nat.le_trans h (by decide +kernel)
def setD (ch : List Nat) : D := .tup (ch.map natD)
theorem law_subsets_ (m : Nat) {n : Nat} (hn : n ≤ 10) : phi Fs (m + 1) "_law_subsets" [.dat (natD n)] = .ok (.lst ((subsN n).map setD)) [] := by
  rw [run_law_subsets]
  have e0 : evE (phi Fs m) (.var 0) [.dat (natD n), .dat (.lst [.tup []]), .none, .none] = .ok (.int (n : Int)) [.dat (natD n), .dat (.lst [.tup []]), .none, .none] := by simp
  have e1 := rng_go e0 (rng_okn (show n ≤ 1000 by omega))
  simp [b_law_subsets, -evI_rng, e1, rng_n]
  obtain ⟨ρ', k1, x2, rfl⟩ := forL_nx (g := evT (phi Fs m) (.nm 2)) (b := evS.go (phi Fs m) l_law_subsets_1) (xs := (List.range n).map natD) (ρ := [.dat (natD n), .dat (.lst [.tup []]), .none, .none])
    (fun i ρ => ∃ x2, ρ = [.dat (natD n), .dat (.lst ((subsN i).map setD)), x2, .none]) ⟨_, rfl⟩ (fun i y ρ hy ⟨x2, hρ⟩ => by
      subst hρ
      have hi := getElem?_lt hy
      rw [List.length_map, List.length_range] at hi
      have hy' : y = natD i := by
        simp [hi] at hy
        exact hy.symm
      subst hy'
      have hl := subs_len i
      have hp : 2 ^ i ≤ 2 ^ 10 := Nat.pow_le_pow_right (by omega) (by omega)
      have hp2 : (2 : Nat) ^ 10 = 1024 := by decide +kernel
      have c1 : compL (evT (phi Fs m) (.nm 3)) (evIf (phi Fs m) none) (evE (phi Fs m) e_law_subsets_0) [3] ((subsN i).map setD) [] [.dat (natD n), .dat (.lst ((subsN i).map setD)), .dat (natD i), .none] = .ok (((subsN i).map (· ++ [i])).map setD) [.dat (natD n), .dat (.lst ((subsN i).map setD)), .dat (natD i), .none] := by
        rw [compL_pure (fun x => match x with | .tup xs => some (.tup (xs ++ [natD i])) | _ => none) (ρw := [.dat (natD n), .dat (.lst ((subsN i).map setD)), .dat (natD i), .none])
          (by rw [List.length_map, hl]; exact small2_line (by omega)) rfl rfl fun x hx => ?_]
        · rw [List.filterMap_map, List.map_map, ← filterMap_all (setD ∘ fun x => x ++ [i])]
          congr 1
          refine filterMap_eq fun ch _ => ?_
          simp [setD]
        · obtain ⟨ch, hc, rfl⟩ := List.mem_map.mp hx
          have := (subs_lt i ch hc).2
          have hle : ch.length + 1 ≤ line := small_line (by omega)
          simp [turnC, e_law_subsets_0, setD, noOwn, wipeE, hle, addD]
      have hle : (subsN i).length + (subsN i).length ≤ line := by
        rw [hl]
        exact small2_line (by omega)
      simp [l_law_subsets_1, c1, backE, addD, -List.map_map, hle]
      rw [subsN, List.map_append])
  rw [List.length_map, List.length_range] at k1
  rw [k1]
  simp
section
variable {w : Wd} (g : GoodW w) {k v : Nat} (hf : Fit (woodD w) k v) {F : List Nat} {P : Nat → Nat} (B : BestW w F P)
  (hb : ∀ m, phi Fs (m + 11) "best_in" [.dat (woodD w)] = .ok (.tup [.int (costS w F), .tup (F.map natD), .tup (pricesD P w.cs.length)]) [])
include g B
theorem law_least_ (m : Nat) : phi Fs (m + 6) "_law_least" [.dat (woodD w)] = .ok (.int (costS w F)) [] := by
  rw [run_law_least]
  have e1 := law_subsets_ (m + 4) g.ns
  have e1' : phi Fs (m + 5) "_law_subsets" [.dat (.int (w.ss.length : Int))] = .ok (.lst ((subsN w.ss.length).map setD)) [] := e1
  have hl := subs_len w.ss.length
  have hp : 2 ^ w.ss.length ≤ 2 ^ 10 := Nat.pow_le_pow_right (by omega) g.ns
  have hp2 : (2 : Nat) ^ 10 = 1024 := by decide
  have ns := g.ns
  have c1 : compL (evT (phi Fs (m + 5)) (.nm 1)) (evIf (phi Fs (m + 5)) none) (evE (phi Fs (m + 5)) e_law_least_0) [1] ((subsN w.ss.length).map setD) [] [.dat (woodD w), .none] = .ok ((subsN w.ss.length).map fun ch => D.int (costS w ch)) [.dat (woodD w), .none] := by
    rw [compL_pure (fun x => match x with | .tup xs => some (.int (costS w (xs.map fun d => (itI d).toNat))) | _ => none) (ρw := [.dat (woodD w), .none])
      (by rw [List.length_map, hl]; exact small2_line (by omega)) rfl rfl fun x hx => ?_]
    · rw [List.filterMap_map, ← filterMap_all]
      congr 1
      refine filterMap_eq fun ch _ => ?_
      have : (ch.map natD).map (fun d => (itI d).toNat) = ch := by
        rw [List.map_map]
        have : ((fun d => (itI d).toNat) ∘ natD) = id := by
          funext n
          simp [itI]
        rw [this, List.map_id]
      simp only [Function.comp_def, setD, this]
    · obtain ⟨ch, hc, rfl⟩ := List.mem_map.mp hx
      obtain ⟨h1, h2⟩ := subs_lt _ ch hc
      have : (ch.map natD).map (fun d => (itI d).toNat) = ch := by
        rw [List.map_map]
        have : ((fun d => (itI d).toNat) ∘ natD) = id := by
          funext n
          simp [itI]
        rw [this, List.map_id]
      have e := law_cost_ g m (x := setD ch) rfl h1 (by omega)
      simp [turnC, e_law_least_0, e, noOwn, wipeE]
      simp [setD, -List.map_map, this]
  have mn := least_is g B
  simp [b_law_least, wood3, e1', c1, backE, mn]
end
theorem law_minus_ (m : Nat) {a : Int} (ha : PR (a, 1)) {d : Int} (h1 : 0 < d) (h2 : d ≤ 999) : phi Fs (m + 3) "_law_minus" [.dat (.tup [.int a, .int 1]), .dat (.tup [.int 1, .int d])] = .ok (rtD (plusR (a, 1) (-1, d))) [] := by
  rw [run_law_minus]
  have e := law_plus_ m ha (b := (-1, d)) (pr_small (by omega) (by omega) (by omega))
  have e' : phi Fs (m + 2) "_law_plus" [.dat (.tup [.int a, .int 1]), .dat (.tup [.int (-1), .int d])] = .ok (rtD (plusR (a, 1) (-1, d))) [] := e
  simp [b_law_minus, e']
theorem law_ratio_ (m : Nat) {p : List D} (hp : Pot p) : ∃ r p', phi Fs (m + 2) "_law_ratio" [.own p, .dat (.int 40)] = .ok (rtD r) [p'] ∧ Pot p' ∧ isRt (rtD r) = true ∧ (rtD r).num = true := by
  rw [run_law_ratio]
  obtain ⟨a, p1, e1, hp1, a0, a1⟩ := draw_ m hp (k := 81) (by omega) (by omega)
  obtain ⟨b, p2, e2, hp2, b0, b1⟩ := draw_ m hp1 (k := 5) (by omega) (by omega)
  have hbig : (1 + b).natAbs < 2 ^ 4000 := by
    have : (100 : Nat) < 2 ^ 4000 := by decide +kernel
    omega
  have em := law_made_ m (n := a - 40) (d := 1 + b) (by omega) hbig
  obtain ⟨r1, r2, r3⟩ := red_bound (n := a - 40) (d := 1 + b) (by omega)
  refine ⟨redR (a - 40) (1 + b), p2, ?_, hp2, isRt_red (by omega), num_r (by omega) (by omega)⟩
  have mk : mulOk 2 40 = true := by decide +kernel
  simp [b_law_ratio, mk, e1, e2, em]
end K41
set_option Elab.async false
set_option linter.all false
set_option maxRecDepth 100000
set_option maxHeartbeats 1000000
namespace K41
open PySem PySem.Spec L2 Iv Tr Kp Gd
theorem shown_tt : (D.lst [.bl true, .bl true]).p.shown = ("[True, True]" : Str) := by decide +kernel
theorem fit_tt : Fit (.lst [.bl true, .bl true]) 1 20 := ((FitL.cons (Fit.bl true) (FitL.cons (Fit.bl true) FitL.nil)).lst).wide (by decide) (by decide)
theorem repr_tt : reprD (.lst [.bl true, .bl true]) = some (.str ("[True, True]" : Str)) := by
  rw [fit_tt.repr (by decide) (by decide), shown_tt]
theorem eq_tt : eqD (.str ("[True, True]" : Str)) (.str ("[True, True]" : Str)) = some (.bl true) := by
  have := fit_tt.eq
  rwa [shown_tt] at this
theorem ne_tt : neD (.str ("[True, True]" : Str)) (.str ("[True, True]" : Str)) = some (.bl false) := by
  have := fit_tt.ne
  rwa [shown_tt] at this
section
variable {w : Wd} (g : GoodW w) {k v : Nat} (hf : Fit (woodD w) k v) {F : List Nat} {P : Nat → Nat} (B : BestW w F P)
  (hb : ∀ m, phi Fs (m + 11) "best_in" [.dat (woodD w)] = .ok (.tup [.int (costS w F), .tup (F.map natD), .tup (pricesD P w.cs.length)]) [])
include g hf B hb
theorem law_budget_right_ (m : Nat) {r : Int × Int} (h1 : isRt (rtD r) = true) (h2 : (rtD r).num = true) : phi Fs (m + 13) "_law_budget_right" [.dat (woodD w), .dat (.int (costS w F)), .dat (rtD r)] = .ok (.bl true) [] := by
  rw [run_law_budget_right]
  have e1 := budget_paper_ g hf B hb h1 h2 m
  have e2 := is_budget_paper_ g hf B hb h1 h2 (m + 1)
  have e3 := law_is_budget_paper_ g hf B hb h1 h2 (m + 6)
  have e0 := law_is_less_ (m + 11) (PR_of h1 h2) (F_pr g hf B hb)
  have e0' : phi Fs (m + 12) "_law_is_less" [.dat (rtD r), .dat (.tup [.int (costS w F), .int 1])] = .ok (.bl (lessR r (costS w F, 1))) [] := e0
  cases hl : lessR r (costS w F, 1) with
  | true =>
    have i0 : idxD (paperD w F P r) (.int 0) = some (.str ("prices" : Str)) := by simp [paperD, hl]
    simp [b_law_budget_right, e1, e0', hl, e3, i0, neD_str shs_prices shs_prices, e2, repr_tt, eq_tt]
  | false =>
    have i0 : idxD (paperD w F P r) (.int 0) = some (.str ("open" : Str)) := by simp [paperD, hl]
    simp [b_law_budget_right, e1, e0', hl, e3, i0, neD_str shs_open shs_open, e2, repr_tt, eq_tt]
end
theorem law_right_ (m : Nat) {p : List D} (hp : Pot p) : ∃ p', phi Fs (m + 14) "_law_right" [.own p] = .ok (.bl true) [p'] := by
  rw [run_law_right]
  obtain ⟨w, p1, e1, hp1, pre, hr, h6, hfe, _⟩ := law_wood_ (m + 10) hp (room := 9) (customers := 6) (sites := 5) (by omega) (by omega) (by omega) (by omega)
  have g := good_of pre hr
  have hf := pre.fit
  have e1' : phi Fs (m + 13) "_law_wood" [.own p, .dat (.int 9), .dat (.int 6), .dat (.int 5)] = .ok (woodD w) [p1] := e1
  obtain ⟨F, P, B, hb⟩ := best_in_ g
  obtain ⟨c0, c1⟩ := cost_small g B
  have e2 := law_least_ g B (m + 7)
  have rp := hf.repr (by decide) (by decide)
  have fl : Fit (.lst [.int (costS w F), .int (costS w F)]) 1 60 := ((FitL.cons (Fit.int (by omega)) (FitL.cons (Fit.int (by omega)) FitL.nil)).lst).wide (by decide) (by decide)
  have rl := fl.repr (by decide) (by decide)
  have nl := fl.ne
  have e3 := least_cost_ g hf B hb m
  have e4 := best_paper_ g hf B hb (m + 1)
  have e5 := law_is_open_ (m + 12) w (.tup (F.map natD)) (F_line g hf B hb)
  rw [areOpen_F g B] at e5
  have e6 := law_are_sound_ g (m + 9) _ (P_num g hf B hb) (P_line g hf B hb)
  rw [areSound_P g B] at e6
  have e7 := F_law_cost g hf B hb (m + 8)
  have e8 := P_law_sum g hf B hb (m + 10)
  have e9 := is_best_paper_ g hf B hb (m + 1)
  have lp : prim .list [.tup (pricesD P w.cs.length)] = some (.lst (pricesD P w.cs.length)) := rfl
  obtain ⟨d, p2, ed, hp2, d0, d1⟩ := draw_ (m + 12) hp1 (k := 999) (by omega) (by omega)
  have pc : PR (costS w F, 1) := F_pr g hf B hb
  have em := law_minus_ (m + 10) pc (d := 1 + d) (by omega) (by omega)
  have ep := law_plus_ (m + 11) pc (b := (1, 1 + d)) (pr_small (by omega) (by omega) (by omega))
  have ep' : phi Fs (m + 13) "_law_plus" [.dat (.tup [.int (costS w F), .int 1]), .dat (.tup [.int 1, .int (1 + d)])] = .ok (rtD (plusR (costS w F, 1) (1, 1 + d))) [] := ep
  obtain ⟨r, p3, er, hp3, r1, r2⟩ := law_ratio_ (m + 11) hp2
  refine ⟨p3, ?_⟩
  have en : neD (rtD (costS w F, 1)) (.tup [.int (costS w F), .int 1]) = some (.bl false) := by
    have := ne_rt (costS w F, 1) (costS w F, 1)
    rw [decide_eq_true rfl] at this
    exact this
  have bud : ∀ b ∈ [(costS w F, 1), plusR (costS w F, 1) (-1, 1 + d), plusR (costS w F, 1) (1, 1 + d), r], isRt (rtD b) = true ∧ (rtD b).num = true := fun b hbm => by
    simp only [List.mem_cons, List.not_mem_nil, or_false] at hbm
    rcases hbm with rfl | rfl | rfl | rfl
    · exact ⟨isRt_1 _, num_r (by simp only; omega) (show (1 : Int).natAbs < 10 ^ 19 by decide +kernel)⟩
    · exact near_ok c0 c1 (by omega) (by omega) (.inr rfl)
    · exact near_ok c0 c1 (by omega) (by omega) (.inl rfl)
    · exact ⟨r1, r2⟩
  obtain ⟨bs, hbs⟩ : ∃ bs, [(costS w F, 1), plusR (costS w F, 1) (-1, 1 + d), plusR (costS w F, 1) (1, 1 + d), r] = bs := ⟨_, rfl⟩
  have hbd : [.tup [.int (costS w F), .int 1], rtD (plusR (costS w F, 1) (-1, 1 + d)), rtD (plusR (costS w F, 1) (1, 1 + d)), rtD r] = bs.map rtD := by rw [← hbs]; rfl
  have hlen : bs.length = 4 := by rw [← hbs]; rfl
  rw [hbs] at bud
  have c1 : ∀ x3 : Iv.Slot, compL (evT (phi Fs (m + 13)) (.nm 7)) (evIf (phi Fs (m + 13)) none) (evE (phi Fs (m + 13)) e_law_right_0) [7] (bs.map rtD) [] [.own p3, .dat (woodD w), .dat (.tup [.tup (F.map natD), .tup (pricesD P w.cs.length)]), x3, .dat (.lst (bs.map rtD)), .dat (.int (costS w F)), .dat (.str (woodD w).p.shown), .none] = .ok (bs.map fun _ => .bl true) [.own p3, .dat (woodD w), .dat (.tup [.tup (F.map natD), .tup (pricesD P w.cs.length)]), x3, .dat (.lst (bs.map rtD)), .dat (.int (costS w F)), .dat (.str (woodD w).p.shown), .none] := fun x3 => by
    rw [compL_pure (fun _ => some (.bl true)) (ρw := [.own p3, .dat (woodD w), .dat (.tup [.tup (F.map natD), .tup (pricesD P w.cs.length)]), x3, .dat (.lst (bs.map rtD)), .dat (.int (costS w F)), .dat (.str (woodD w).p.shown), .none])
      (by rw [List.length_map, hlen]; exact small_line (by omega)) rfl rfl fun x hx => ?_]
    · rw [filterMap_all, List.map_map]
      rfl
    · obtain ⟨b, hb', rfl⟩ := List.mem_map.mp hx
      obtain ⟨q1, q2⟩ := bud b hb'
      have := law_budget_right_ g hf B hb m q1 q2
      simp [turnC, e_law_right_0, this, noOwn, wipeE]
  have al : allD (.lst (bs.map fun _ => D.bl true)) = some (.bl true) := by
    rw [allD_map (fun _ => true) bs]
    simp
  have eqw := hf.eq
  simp [b_law_right, e1', e2, rp, e3, rl, nl, e4, e5, e6, e7, lp, e8, en, e9, repr_tt, ne_tt, ed, em, ep', er]
  rw [hbd, c1]
  simp [backE, al, rp, eqw, -List.map_map]
theorem plain (ns : List Int) (h : ns.length ≤ 63) : phi Fs 40 "law" [.dat (.lst (ns.map D.int))] = .ok (.bl true) [] := by
  obtain ⟨p, e, hp⟩ := pot_ 38 ns
  obtain ⟨p', e2⟩ := law_right_ 25 hp
  rw [run_law]
  simp [b_law, e, e2]
end K41
set_option Elab.async false
set_option linter.all false
set_option maxRecDepth 100000
set_option maxHeartbeats 0
namespace K41
open PySem PySem.Spec PyProof.Rows L2 Iv
abbrev R : PySem.W.OpenRow := PySem.W.OpenLaw.row PySem.Challenge.rw_treeposts_k41_whole_least_costs_that_pro
def names : List Str := (["gcd", "WoodError", "InvalidWood", "InvalidBudget", "is_integer", "is_within", "is_row", "is_rising", "are_places_of", "columns_of", "row_key", "raised", "opened", "best_of_rows", "LIMIT", "NOUGHT", "fraction", "whole", "plus", "is_less", "total", "is_ratio", "MOST_PLACES", "MOST_LENGTH", "is_tie", "is_tree", "place_count", "father_of", "path_up", "depths_in"] : List Str) ++ (["path_in", "top_in", "way_in", "MOST_CUSTOMERS", "MOST_SITES", "MOST_REACH", "MOST_RATE", "MOST_FEE", "MOST_COST", "is_customer", "is_site", "are_sites", "is_wood", "want_wood", "does_reach", "reached_by", "is_open_of", "is_prices_of", "reach_in", "left_in", "cost_in", "earned_in", "is_sound_in", "are_sound_in", "OPEN", "PRICES", "best_in", "least_in", "is_best_in", "want_budget"] : List Str) ++ (["least_cost", "best_paper", "is_best_paper", "budget_paper", "is_budget_paper", "_law_pot", "_law_draw", "_law_pick", "_law_made", "_law_plus", "_law_minus", "_law_by", "_law_sum", "_law_is_less", "_law_tree", "_law_depths", "_law_up", "_law_way", "_law_sites", "_law_wood", "_law_reached", "_law_ratio", "_law_subsets", "_law_left", "_law_cost", "_law_least", "_law_is_ratio", "_law_are_prices", "_law_are_sound", "_law_is_open"] : List Str) ++ (["_law_is_budget_paper", "_law_budget_right", "_law_right"] : List Str)
abbrev hk : PySem.W.Hook := hookI Fs free csts mods
abbrev ob : PySem.W.SharedT → AlI := obsI Fs free csts mods
/-- the whole run: the boot, the imports, the top -/
noncomputable abbrev whole (w : World) := HandSHeadRun.wholeF (fun p => HandSHeadRun.stepQ (HandSHeadRun.denQ HandSHeadRun.tabQ) p w) HandSHeadRun.fenceQ 24000 R.prog
theorem run1 (w : World) : (whole w).map (fun x => HandSHeadRun.looksF R.prog x.1.heap x.2.abs) = some true := by
  kernel_rfl
theorem run2 (w : World) : (whole w).map (fun x => HandSHeadRun.seenQ (PySem.W.view R.prog [0, 102]) names (PySem.importedModules R.prog.main.body) (fun s => PySem.W.xlAt (PySem.W.view R.prog [0, 102]) [] s && PySem.W.recOk R.toRowW.records s) x.2.abs) = some (PySem.W.openGood (PySem.W.view R.prog [0, 102]) names) := by
  kernel_rfl
theorem run3 (w : World) : (whole w).map (fun x => ob x.2) = some (hk.val w) := by
  kernel_rfl
theorem map3 {α β γ δ : Type} {o : Option α} {f : α → β} {g : α → γ} {h : α → δ} {a : β} {b : γ} {c : δ} (h1 : o.map f = some a) (h2 : o.map g = some b) (h3 : o.map h = some c) : o.map (fun x => (f x, g x, h x)) = some (a, b, c) := by
  cases o with
  | none => cases h1
  | some x =>
    have e1 : f x = a := Option.some.inj h1
    have e2 : g x = b := Option.some.inj h2
    have e3 : h x = c := Option.some.inj h3
    show some (f x, g x, h x) = _
    rw [e1, e2, e3]
theorem run (w : World) : HandSHeadRun.RunEqI R (PySem.W.view R.prog [0, 102]) hk ob 24000 names w := map3 (run1 w) (run2 w) (run3 w)
end K41
open PySem PySem.W PySem.Calls PyProof.Rows
theorem PySem.Challenge.cw_treeposts_k41_whole_least_costs_that_pro_holds : PySem.Challenge.rw_treeposts_k41_whole_least_costs_that_pro.Holds := by
  w_on; o_law
  refine HandSHeadRun.head_imp (r := OpenLaw.row PySem.Challenge.rw_treeposts_k41_whole_least_costs_that_pro) (q := view (OpenLaw.row PySem.Challenge.rw_treeposts_k41_whole_least_costs_that_pro).prog [0, 102]) (H := K41.hk) (ob := K41.ob) (M := 24000) (loose := K41.names) (d := HandSHeadRun.topDef (OpenLaw.row PySem.Challenge.rw_treeposts_k41_whole_least_costs_that_pro).prog 102) (kwd := []) Iv.obsI_eq
    K41.run (by kernel_rfl) (by kernel_rfl) (by kernel_rfl) (by rfl) (by first | assumption | decide +kernel) (by decide +kernel) ⟨rfl, rfl, rfl, rfl, rfl, by decide +kernel⟩ ?hw ?hc
  case hw => w_witness2
  case hc =>
    exact Iv.law_g (m := 40) (F := K41.d_law) rfl (by decide) (by kernel_rfl) ⟨⟨rfl, by decide, by decide⟩, rfl⟩ K41.checked (by decide +kernel) (List.mem_of_getElem? (i := 75) rfl) (by kernel_rfl) rfl rfl K41.plain
