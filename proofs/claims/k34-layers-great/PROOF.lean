import PyProof.Rows.All
import Wide.All
import OpenK.AllK
import Wide.FinOn
import HandS.ForMost
import KE.SortData
import HandS.HeadHook1
import HandS.Wide
import HandS.Codes
import HandS.Defaults
import HandS.Exc
import HandS.Property
import HandS.IsInst
import HandS.Style
import HandS.RaiseMore
import HandS.Iter
import HandS.Comp
import HandS.Conv
import HandS.Ends
import HandS.HeadEnd
import HandS.HeadHook2
import HandS.Head2
import HandS.Words
import PyProof.ReprBulk
import PyProof.FitsInt
import HandS.Head0
import HandS.Head1
import PySem.Challenge.RW_bearsmisses_k34_layers_great
set_option Elab.async false
set_option linter.all false
set_option maxRecDepth 100000
/-! B1: a small language with values in place of a heap (its programs are read off the given Python), and what its programs do. -/
namespace Bm
open PySem

/-! ### data -/
inductive At where
  | non | bl (b : Bool) | int (i : Int) | str (x : Str)
  deriving DecidableEq
/-- kinds of nodes: a tuple; a list (true: its owner may change it; false: nobody does any more); the script; an instance -/
inductive Kd where
  | tup | lst (m : Bool) | scr | ins (m : Bool) (C : Str) (fs : List Str)
  deriving DecidableEq
inductive D where
  | dead | at (a : At) | nd (k : Kd) (xs : List D)
abbrev D.non : D := .at .non
abbrev D.bl (b : Bool) : D := .at (.bl b)
abbrev D.int (i : Int) : D := .at (.int i)
abbrev D.str (x : Str) : D := .at (.str x)
abbrev D.tup (xs : List D) : D := .nd .tup xs
abbrev D.lst (m : Bool) (xs : List D) : D := .nd (.lst m) xs
instance : Inhabited D := ⟨.dead⟩

mutual
/-- nothing in it can be changed by anyone -/
def D.pers : D → Bool
  | .dead => false
  | .at _ => true
  | .nd k xs => match k with
    | .tup => persL xs
    | .lst m => !m
    | .scr => false
    | .ins m _ _ => !m
def persL : List D → Bool
  | [] => true
  | x :: xs => x.pers && persL xs
end
mutual
/-- as data -/
def D.toP : D → PyData
  | .dead => .none
  | .at a => match a with
    | .non => .none
    | .bl b => .bool b
    | .int i => .int i
    | .str x => .str x
  | .nd k xs => match k with
    | .tup => .tuple (toPL xs)
    | .lst _ => .list (toPL xs)
    | .scr => .list (toPL xs)
    | .ins _ _ _ => .none
def toPL : List D → List PyData
  | [] => []
  | x :: xs => x.toP :: toPL xs
end
mutual
/-- it is data: no instance, nothing forgotten -/
def D.isP : D → Bool
  | .dead => false
  | .at _ => true
  | .nd k xs => match k with
    | .tup => isPL xs
    | .lst _ => isPL xs
    | .scr => false
    | .ins _ _ _ => false
def isPL : List D → Bool
  | [] => true
  | x :: xs => x.isP && isPL xs
end
mutual
/-- its owner gives up changing it -/
def D.frz : D → D
  | .dead => .dead
  | .at a => .at a
  | .nd k xs => .nd (match k with
    | .tup => .tup
    | .lst _ => .lst false
    | .scr => .scr
    | .ins _ C fs => .ins false C fs) (frzL xs)
def frzL : List D → List D
  | [] => []
  | x :: xs => x.frz :: frzL xs
end
def D.isDead : D → Bool
  | .dead => true
  | _ => false
theorem persL_eq (xs : List D) : persL xs = xs.all D.pers := by
  induction xs with
  | nil => rfl
  | cons x xs ih => simp [persL, ih]
theorem toPL_eq (xs : List D) : toPL xs = xs.map D.toP := by
  induction xs with
  | nil => rfl
  | cons x xs ih => simp [toPL, ih]
theorem isPL_eq (xs : List D) : isPL xs = xs.all D.isP := by
  induction xs with
  | nil => rfl
  | cons x xs ih => simp [isPL, ih]
theorem frzL_eq (xs : List D) : frzL xs = xs.map D.frz := by
  induction xs with
  | nil => rfl
  | cons x xs ih => simp [frzL, ih]

/-! ### results -/
/-- an exception: its class, its fields -/
structure Ex where
  cls : Str
  fs : List D
/-- a result with the names' values behind it; an exception; or no word -/
inductive R (α : Type) where
  | ok (a : α) (g : List D)
  | ex (e : Ex) (g : List D)
  | no
def R.bind {α β : Type} (r : R α) (f : α → List D → R β) : R β :=
  match r with
  | .ok a g => f a g
  | .ex e g => .ex e g
  | .no => .no
/-- what a call gives: the value, the arguments behind it -/
inductive CRes where
  | ok (d : D) (as : List D)
  | ex (e : Ex) (as : List D)
  | no
abbrev VD := D × Bool
/-- an argument: a value of its own, or a name's -/
inductive Arg where
  | v (d : D)
  | r (i : Nat)

/-! ### the syntax -/
inductive BOp where
  | add | sub | mul | fdiv | mod | pow
  deriving DecidableEq
inductive COp where
  | lt | le | gt | ge | eq | ne | is_ | isnot | in_ | notin
  deriving DecidableEq
/-- built-in functions and types that are called -/
inductive Blt where
  | len | abs | int | bool | min | max | sum | sorted | list | tuple | all | any | repr | str | range | enumerate | zip
  deriving DecidableEq
/-- methods of lists that change them -/
inductive Lm where
  | append | pop | popAt | insert | extend | clear | reverse
  deriving DecidableEq
/-- what isinstance asks for -/
inductive Ty where
  | int | bool | str | list | tuple | dict | own (C : Str)
  deriving DecidableEq
inductive E where
  | cst (a : At)
  | var (i : Nat)
  | mv (i : Nat)
  | glb (x : Str) (a : At)
  | bin (o : BOp) (a b : E)
  | cmp (o : COp) (a b : E)
  | cmp2 (o o' : COp) (a b c : E)
  | neg (a : E)
  | notE (a : E)
  | andE (a b : E)
  | orE (a b : E)
  | ife (c a b : E)
  | nil
  | cons (a b : E)
  | tupE (es : E)
  | lstE (es : E)
  | idx (a j : E)
  | slc (a lo hi : E)
  | rev (a : E)
  | call (f : Str) (es : E)
  | blt (b : Blt) (es : E)
  | lm (m : Lm) (a es : E)
  /-- list(range(a)) -/
  | lrg (a : E)
  /-- a.index(e) of ints -/
  | idxOf (a e : E)
  | comp (elt tg it tst : E) (own : List Nat)
  | comp2 (elt tg it tst tg1 it1 tst1 : E) (own own1 : List Nat)
  | frz (a : E)
  /-- a.f, an attribute of an instance of C -/
  | fld (C f : Str) (a : E)
  /-- a.f, a property of C: the def x -/
  | prop (x C f : Str) (a : E)
  /-- a.m(es), a method of C: the def x -/
  | meth (x C m : Str) (a es : E)
  /-- C(es): x is its __init__ -/
  | make (x C : Str) (es : E)
  /-- isinstance(a, t) -/
  | isi (t : Ty) (a : E)
  | never
inductive S where
  | skip
  | never
  | seq (a b : S)
  | expr (e : E)
  | asg (t e : E)
  | par (is : List Nat) (es : E)
  /-- the name i is read alone -/
  | peek (i : Nat) (b : S)
  /-- for x in a, for k, x in enumerate(a): x is the item itself, which may be changed -/
  | forR (ko : Option Nat) (x : Nat) (a : E) (b : S)
  | aug (i : Nat) (o : BOp) (e : E)
  | augI (a j : E) (o : BOp) (e : E)
  | ret (e : E)
  | retN
  | ifS (c : E) (a b : S)
  | forS (t it : E) (b : S)
  | brk
  | cont
  | kill (is : List Nat) (a : S)
  /-- behind it nobody changes what those names hold -/
  | gift (is : List Nat) (a : S)
  /-- i.f = e: a new attribute of an instance of C -/
  | setF (i : Nat) (C f : Str) (e : E)
  deriving Inhabited
/-- it changes nothing that stands: it may make new things alone -/
def quiet : E → Bool
  | .cst _ => true
  | .var _ => true
  | .mv _ => false
  | .glb _ _ => true
  | .bin _ a b => quiet a && quiet b
  | .cmp _ a b => quiet a && quiet b
  | .cmp2 _ _ a b c => quiet a && quiet b && quiet c
  | .neg a => quiet a
  | .notE a => quiet a
  | .andE a b => quiet a && quiet b
  | .orE a b => quiet a && quiet b
  | .ife c a b => quiet c && quiet a && quiet b
  | .nil => true
  | .cons a b => quiet a && quiet b
  | .tupE es => quiet es
  | .lstE es => quiet es
  | .idx a j => quiet a && quiet j
  | .slc a lo hi => quiet a && quiet lo && quiet hi
  | .rev a => quiet a
  | .call _ _ => false
  | .blt _ es => quiet es
  | .lm _ _ _ => false
  | .lrg a => quiet a
  | .idxOf a e => quiet a && quiet e
  | .comp _ _ _ _ _ => false
  | .comp2 _ _ _ _ _ _ _ _ _ => false
  | .frz _ => false
  | .fld _ _ a => quiet a
  | .prop _ _ _ _ => false
  | .meth _ _ _ _ _ => false
  | .make _ _ _ => false
  | .isi _ a => quiet a
  | .never => true

/-! ### paths -/
def getP : D → List Nat → Option D
  | d, [] => some d
  | .nd _ xs, n :: p => match xs[n]? with
    | some x => getP x p
    | none => none
  | _, _ :: _ => none
def setP : D → List Nat → D → D
  | _, [], y => y
  | .nd k xs, n :: p, y => match xs[n]? with
    | some x => .nd k (xs.set n (setP x p y))
    | none => .nd k xs
  | d, _ :: _, _ => d
/-- the value at a name's path -/
def getG (g : List D) (i : Nat) (p : List Nat) : Option D := match g[i]? with
  | some d => getP d p
  | none => none
def setG (g : List D) (i : Nat) (p : List Nat) (y : D) : List D := match g[i]? with
  | some d => g.set i (setP d p y)
  | none => g

/-! ### operators -/
def mulOk (i j : Int) : Bool := decide (-(2 ^ 64) < i ∧ i < 2 ^ 64) || decide (-(2 ^ 64) < j ∧ j < 2 ^ 64)
/-- items that may stand at two places -/
def shares (_ : Bool) (xs : List D) : Bool := persL xs
def binD : BOp → VD → VD → Option VD
  | .add, (.at (.int i), _), (.at (.int j), _) => some (.int (i + j), false)
  | .add, (.at (.str x), _), (.at (.str y), _) => if x.length + y.length ≤ sizeLine then some (.str (x ++ y), false) else none
  | .add, (.nd (.lst _) xs, l), (.nd (.lst _) ys, l') =>
    if xs.length + ys.length ≤ sizeLine ∧ shares l xs = true ∧ shares l' ys = true then some (.lst true (xs ++ ys), false) else none
  | .sub, (.at (.int i), _), (.at (.int j), _) => some (.int (i - j), false)
  | .mul, (.at (.int i), _), (.at (.int j), _) => if mulOk i j = true then some (.int (i * j), false) else none
  | .mul, (.nd (.lst _) xs, _), (.at (.int k), _) =>
    if -(2 ^ 63) ≤ k ∧ k < 2 ^ 63 ∧ xs.length * k.toNat ≤ sizeLine ∧ persL xs = true then some (.lst true (List.replicate k.toNat xs).flatten, false) else none
  | .fdiv, (.at (.int i), _), (.at (.int j), _) => if 0 < j ∧ j < 2 ^ 200 then some (.int (i / j), false) else none
  | .mod, (.at (.int i), _), (.at (.int j), _) => if 0 < j then some (.int (i % j), false) else none
  | .pow, (.at (.int i), _), (.at (.int j), _) => if 0 ≤ j ∧ j ≤ 1000000 ∧ i.natAbs < 2 ^ 64 then some (.int (i ^ j.toNat), false) else none
  | _, _, _ => none
def eqD : D → D → Option Bool
  | .at (.int i), .at (.int j) => some (i == j)
  | .at (.str x), .at (.str y) => some (x == y)
  | x, y => if x.isP = true ∧ y.isP = true ∧ SeqAt.shaped x.toP = true ∧ SeqAt.shaped y.toP = true then some (PyData.eqv x.toP y.toP) else none
def isNon : D → Option Bool
  | .dead => none
  | .at .non => some true
  | _ => some false
/-- flat items: no object -/
def D.flat : D → Bool
  | .at _ => true
  | _ => false
/-- x stands among the items -/
def inD (x : D) : List D → Bool
  | [] => false
  | y :: ys => PyData.eqv y.toP x.toP || inD x ys
def cmpD : COp → D → D → Option Bool
  | .lt, .at (.int i), .at (.int j) => some (decide (i < j))
  | .le, .at (.int i), .at (.int j) => some (decide (i ≤ j))
  | .gt, .at (.int i), .at (.int j) => some (decide (j < i))
  | .ge, .at (.int i), .at (.int j) => some (decide (j ≤ i))
  | .eq, x, y => eqD x y
  | .ne, x, y => (eqD x y).map (!·)
  | .is_, x, .at .non => isNon x
  | .isnot, x, .at .non => (isNon x).map (!·)
  | .in_, x, .nd (.lst _) ys => if x.flat = true ∧ ys.all D.flat = true then some (inD x ys) else none
  | .notin, x, .nd (.lst _) ys => if x.flat = true ∧ ys.all D.flat = true then some (!inD x ys) else none
  | .in_, x, .nd .tup ys => if x.flat = true ∧ ys.all D.flat = true then some (inD x ys) else none
  | .notin, x, .nd .tup ys => if x.flat = true ∧ ys.all D.flat = true then some (!inD x ys) else none
  | _, _, _ => none
def truD : D → Option Bool
  | .at .non => some false
  | .at (.bl b) => some b
  | .at (.int i) => some (i != 0)
  | .nd (.lst _) xs => some (!xs.isEmpty)
  | .nd .tup xs => some (!xs.isEmpty)
  | _ => none
/-- a part of a value that is read as it stands -/
def mkV (d : D) (l : Bool) : Option VD := if d.isDead = true then none else some (d, l && !d.pers)
def idxD : VD → D → Option VD
  | (.nd (.lst _) xs, l), .at (.int j) => match L2.atI xs j with
    | some d => mkV d l
    | none => none
  | (.nd .tup xs, l), .at (.int j) => match L2.atI xs j with
    | some d => mkV d l
    | none => none
  | _, _ => none
/-- a part of a slice: left out, or an int -/
def partI (m : E) (d : D) : Option (Option Int) := match m with
  | .cst .non => some none
  | _ => match d with
    | .at (.int i) => some (some i)
    | _ => none
def cutD (xs : List D) (lo hi : Option Int) : List D := (xs.drop (HT.sIx xs.length 0 lo)).take (HT.sIx xs.length xs.length hi - HT.sIx xs.length 0 lo)
def slcD : VD → Option Int → Option Int → Option VD
  | (.nd (.lst _) xs, l), lo, hi => if shares l xs = true then some (.lst true (cutD xs lo hi), false) else none
  | (.nd .scr xs, _), lo, hi => if persL xs = true then some (.lst true (cutD xs lo hi), false) else none
  | _, _, _ => none
def revD : VD → Option VD
  | (.nd (.lst _) xs, l) => if shares l xs = true then some (.lst true xs.reverse, false) else none
  | _ => none
def sumI : List D → Option Int
  | [] => some 0
  | .at (.int i) :: xs => (sumI xs).map (i + ·)
  | _ => none
def intsD : List D → Option (List Int)
  | [] => some []
  | .at (.int i) :: xs => (intsD xs).map (i :: ·)
  | _ => none
def blsD : List D → Option (List Bool)
  | [] => some []
  | .at (.bl i) :: xs => (blsD xs).map (i :: ·)
  | _ => none
def minL : List Int → Int
  | [] => 0
  | [x] => x
  | x :: xs => if minL xs < x then minL xs else x
def maxL : List Int → Int
  | [] => 0
  | [x] => x
  | x :: xs => if x < maxL xs then maxL xs else x
def alikeB (xs : List PyData) : Bool := xs.all fun x => xs.all fun y => PySem.W.alike x y
def tupleB : PyData → Bool
  | .tuple (_ :: _) => true
  | _ => false
def otherB : PyData → Bool
  | .none => false
  | .tuple _ => false
  | _ => true
def sortOk (xs : List D) : Bool := isPL xs && persL xs && alikeB (toPL xs) && ((toPL xs).all tupleB || (toPL xs).all otherB) && (toPL xs).all (fun p => decide (p.depth ≤ 64))
def sortD (xs : List D) : List D := xs.mergeSort (PySem.W.dataLe false D.toP)
def bltD : Blt → List VD → Option VD
  | .len, [(.nd (.lst _) xs, _)] => some (.int (xs.length : Int), false)
  | .len, [(.nd .tup xs, _)] => some (.int (xs.length : Int), false)
  | .len, [(.at (.str x), _)] => if x.length ≤ sizeLine then some (.int (x.length : Int), false) else none
  | .abs, [(.at (.int i), _)] => some (.int (if i < 0 then -i else i), false)
  | .int, [(.at (.int i), _)] => some (.int i, false)
  | .int, [(.at (.bl b), _)] => some (.int (if b then 1 else 0), false)
  | .bool, [(.at (.int i), _)] => some (.bl (i != 0), false)
  | .bool, [(.at (.bl b), _)] => some (.bl b, false)
  | .min, [(.at (.int i), _), (.at (.int j), _)] => some (.int (if j < i then j else i), false)
  | .max, [(.at (.int i), _), (.at (.int j), _)] => some (.int (if j > i then j else i), false)
  | .min, [(.nd (.lst _) xs, _)] => match intsD xs with
    | some ns => if ns = [] then none else some (.int (minL ns), false)
    | none => none
  | .max, [(.nd (.lst _) xs, _)] => match intsD xs with
    | some ns => if ns = [] then none else some (.int (maxL ns), false)
    | none => none
  | .sum, [(.nd (.lst _) xs, _)] => match intsD xs with
    | some ns => some (.int ns.sum, false)
    | none => none
  | .sorted, [(.nd (.lst _) xs, _)] => if sortOk xs = true then some (.lst true (sortD xs), false) else none
  | .list, [(.nd (.lst _) xs, l)] => if shares l xs = true then some (.lst true xs, false) else none
  | .list, [(.nd .tup xs, l)] => if shares l xs = true then some (.lst true xs, false) else none
  | .tuple, [(.nd (.lst _) xs, l)] => if shares l xs = true then some (.tup xs, false) else none
  | .all, [(.nd (.lst _) xs, _)] => match blsD xs with
    | some bs => some (.bl (bs.all id), false)
    | none => none
  | .any, [(.nd (.lst _) xs, _)] => match blsD xs with
    | some bs => some (.bl (bs.any id), false)
    | none => none
  | .repr, [(.at (.int i), _)] => if i.natAbs.log2 < 1920 then some (.str (toString i), false) else none
  | .repr, [(.nd k xs, _)] => let x := D.nd k xs; if x.isP = true ∧ x.toP.showable = true ∧ x.toP.depth ≤ 64 ∧ x.toP.shown.length ≤ sizeLine then some (.str x.toP.shown, false) else none
  | .str, [(.at (.int i), _)] => if i.natAbs.log2 < 1920 then some (.str (toString i), false) else none
  | _, _ => none
def rangeD (lo : Int) (n : Nat) : List D := (List.range n).map fun (i : Nat) => .int (lo + (i : Int))
def rangeC (lo c : Int) (n : Nat) : List D := (List.range n).map fun (i : Nat) => .int (lo + (i : Int) * c)
def smallI (i : Int) : Bool := decide (-(2 ^ 62) ≤ i ∧ i < 2 ^ 62)
/-- a list that a loop walks and that nobody changes meanwhile -/
def iterL : VD → Option (List D)
  | (.nd (.lst m) xs, l) => if l = false ∨ m = false then some xs else none
  | _ => none
/-- what a loop walks: fixed values; a name's list as it stands at each turn -/
inductive Src where
  | fix (xs : List D)
  | live (i : Nat)
  | enum (s : Src)
  | zip (s t : Src)
def Src.at (g : List D) (k : Nat) : Src → Option (Option D)
  | .fix xs => some xs[k]?
  | .live i => match g[i]? with
    | some (.nd (.lst true) xs) => (match xs[k]? with
      | some d => if d.pers = true then some (some d) else none
      | none => some none)
    | _ => none
  | .enum s => (s.at g k).map fun r => r.map fun d => .tup [.int (k : Int), d]
  | .zip s t => match s.at g k, t.at g k with
    | some (some a), some (some b) => some (some (.tup [a, b]))
    | some none, some _ => some none
    | some (some _), some none => some none
    | _, _ => none
def Src.names : Src → List Nat
  | .fix _ => []
  | .live i => [i]
  | .enum s => s.names
  | .zip s t => s.names ++ t.names
def Src.len (g : List D) : Src → Nat
  | .fix xs => xs.length
  | .live i => match g[i]? with
    | some (.nd _ xs) => xs.length
    | _ => 0
  | .enum s => s.len g
  | .zip s t => min (s.len g) (t.len g)
def rangeS : List VD → Option Src
  | [(.at (.int j), _)] => if smallI j = true then some (.fix (rangeD 0 j.toNat)) else none
  | [(.at (.int i), _), (.at (.int j), _)] => if smallI i = true ∧ smallI j = true then some (.fix (rangeD i (j - i).toNat)) else none
  | [(.at (.int i), _), (.at (.int j), _), (.at (.int c), _)] => if c = -1 ∧ smallI i = true ∧ smallI j = true then some (.fix (rangeC i (-1) (i - j).toNat)) else none
  | _ => none
/-- a list, a tuple that a loop walks -/
def iterV : VD → Option (List D)
  | (.nd .tup xs, l) => if l = false ∨ persL xs = true then some xs else none
  | x => iterL x

/-! ### what expressions do -/
structure Den where
  val : List D → R VD
  tst : List D → R Bool
  lst : List D → R (List VD)
  arg : List D → R (List Arg)
  one : List D → R Arg
  plc : List D → R (Nat × List Nat)
  itr : List D → R Src
  asg : D → List D → R Unit
  lsr : List D → R Src
  ls1 : List D → R Src
  ls2 : List D → R (Src × Src)
def ofO {α : Type} (o : Option α) (g : List D) : R α := match o with
  | some a => .ok a g
  | none => .no
def tstOf (f : List D → R VD) (g : List D) : R Bool := (f g).bind fun x g => ofO (truD x.1) g
def oneOf (f : List D → R VD) (g : List D) : R Arg := (f g).bind fun x g => if x.2 = false then .ok (.v x.1) g else .no
def itrOf (f : List D → R VD) (g : List D) : R Src := (f g).bind fun x g => ofO ((iterV x).map .fix) g
def lsrOf (f : List D → R VD) (g : List D) : R Src := (f g).bind fun x g => ofO ((iterL x).map .fix) g
def Den.none : Den := ⟨fun _ => .no, fun _ => .no, fun _ => .no, fun _ => .no, fun _ => .no, fun _ => .no, fun _ => .no, fun _ _ => .no, fun _ => .no, fun _ => .no, fun _ => .no⟩
/-- an expression that has a value -/
def Den.ofVal (f : List D → R VD) : Den := { Den.none with val := f, tst := tstOf f, one := oneOf f, itr := itrOf f, lsr := lsrOf f }
/-- the value of an expression behind later ones: a name's value is read then; what may be changed does not wait -/
def late (e later : E) (x : VD) (g : List D) : Option VD :=
  match e with
  | .var i => match g[i]? with
    | some d => mkV d true
    | none => none
  | _ => if x.2 && !quiet later then none else some x
def varD (i : Nat) (g : List D) : R VD := match g[i]? with
  | some d => ofO (mkV d true) g
  | none => .no
def mvD (i : Nat) (g : List D) : R VD := match g[i]? with
  | some d => if d.isDead = true then .no else if d.pers = true then .ok (d, false) g else .ok (d, false) (g.set i .dead)
  | none => .no
/-- a name whose list its owner may change -/
def isLive (g : List D) (i : Nat) : Bool := match g[i]? with
  | some (.nd (.lst true) _) => true
  | _ => false
def dVar (i : Nat) : Den := { Den.ofVal (varD i) with
  itr := fun g => if isLive g i = true then .ok (.live i) g else itrOf (varD i) g
  lsr := fun g => if isLive g i = true then .ok (.live i) g else lsrOf (varD i) g
  one := fun g => (varD i g).bind fun _ g => .ok (.r i) g
  plc := fun g => (varD i g).bind fun _ g => .ok (i, []) g
  asg := fun d g => if i < g.length then .ok () (g.set i d) else .no }
/-- two operands -/
def two (a b : E) (A B : Den) (g : List D) : R (VD × VD) := (A.val g).bind fun x g => (B.val g).bind fun y g => ofO ((late a b x g).map fun x => (x, y)) g
def dBin (o : BOp) (a b : E) (A B : Den) : Den := Den.ofVal fun g => (two a b A B g).bind fun p g => ofO (binD o p.1 p.2) g
def cmpV (o : COp) (a b : E) (A B : Den) (g : List D) : R Bool := (two a b A B g).bind fun p g => ofO (cmpD o p.1.1 p.2.1) g
/-- of a Bool -/
def Den.ofB (f : List D → R Bool) : Den := { Den.none with val := fun g => (f g).bind fun b g => .ok (.bl b, false) g, tst := f, one := fun g => (f g).bind fun b g => .ok (.v (.bl b)) g }
def dCmp2 (o o' : COp) (a b c : E) (A B C : Den) : Den := Den.ofB fun g =>
  (two a b A B g).bind fun p g => match cmpD o p.1.1 p.2.1 with
    | none => .no
    | some false => .ok false g
    | some true => (C.val g).bind fun z g => match late b c p.2 g with
      | some y => ofO (cmpD o' y.1 z.1) g
      | none => .no
def andT (A B : Den) (g : List D) : R Bool := (A.tst g).bind fun x g => if x = true then B.tst g else .ok false g
def orT (A B : Den) (g : List D) : R Bool := (A.tst g).bind fun x g => if x = true then .ok true g else B.tst g
/-- and, or as values: of Bools -/
def andV (A B : Den) (g : List D) : R VD := (A.val g).bind fun x g => match x.1 with
  | .at (.bl b) => if b = true then B.val g else .ok (.bl false, false) g
  | _ => .no
def orV (A B : Den) (g : List D) : R VD := (A.val g).bind fun x g => match x.1 with
  | .at (.bl b) => if b = true then .ok (.bl true, false) g else B.val g
  | _ => .no
def notV (A : Den) (g : List D) : R VD := (A.val g).bind fun x g => match x.1 with
  | .at (.bl b) => .ok (.bl (!b), false) g
  | _ => .no
def dAnd (A B : Den) : Den := { Den.ofVal (andV A B) with tst := andT A B }
def dOr (A B : Den) : Den := { Den.ofVal (orV A B) with tst := orT A B }
def dNot (A : Den) : Den := { Den.ofVal (notV A) with tst := fun g => (A.tst g).bind fun x g => .ok (!x) g }
def dIfe (C A B : Den) : Den := { Den.ofVal (fun g => (C.tst g).bind fun x g => if x = true then A.val g else B.val g) with tst := fun _ => .no }
def consL (a b : E) (A B : Den) (g : List D) : R (List VD) := (A.val g).bind fun x g => (B.lst g).bind fun ys g => match late a b x g with
  | some x => .ok (x :: ys) g
  | none => .no
def consA (A B : Den) (g : List D) : R (List Arg) := (A.one g).bind fun x g => (B.arg g).bind fun ys g => .ok (x :: ys) g
/-- all are values of their own -/
def allOwn : List VD → Option (List D)
  | [] => some []
  | (d, l) :: r => if l = false then (allOwn r).map (d :: ·) else none
/-- names a, (b, c), .. take the parts of a value -/
def asgCons (A B : Den) (d : D) (g : List D) : R Unit := match d with
  | .nd .tup (x :: xs) => (A.asg x g).bind fun _ g => B.asg (.nd .tup xs) g
  | _ => .no
def isNil : E → Bool
  | .nil => true
  | _ => false
def dCons (a b : E) (A B : Den) : Den := { Den.none with
  lst := consL a b A B
  arg := consA A B
  asg := asgCons A B
  ls1 := fun g => if isNil b = true then A.lsr g else .no
  ls2 := fun g => (A.lsr g).bind fun s g => (B.ls1 g).bind fun t g => if (s.at g 0).isSome = true then .ok (s, t) g else .no }
def asgNil (d : D) (g : List D) : R Unit := match d with
  | .nd .tup [] => .ok () g
  | _ => .no
def dNil : Den := { Den.none with lst := fun g => .ok [] g, arg := fun g => .ok [] g, tst := fun g => .ok true g, asg := asgNil }
def mkTup (xs : List VD) : Option VD := match allOwn xs with
  | some ds => if ds.length ≤ sizeLine then some (.tup ds, false) else none
  | none => none
def mkLst (xs : List VD) : Option VD := match allOwn xs with
  | some ds => if ds.length ≤ sizeLine then some (.lst true ds, false) else none
  | none => none
def cntE : E → Nat
  | .cons _ b => cntE b + 1
  | _ => 0
def asgTup (es : E) (B : Den) (d : D) (g : List D) : R Unit := match d with
  | .nd .tup xs => if xs.length = cntE es then B.asg (.nd .tup xs) g else .no
  | _ => .no
def dTup (es : E) (A : Den) : Den := { Den.ofVal (fun g => (A.lst g).bind fun xs g => ofO (mkTup xs) g) with asg := asgTup es A }
def dLst (A : Den) : Den := Den.ofVal fun g => (A.lst g).bind fun xs g => ofO (mkLst xs) g
def isVar : E → Bool
  | .var _ => true
  | _ => false
/-- the place a[j]: j changes nothing, or a is a name -/
def plcIdx (a j : E) (A J : Den) (g : List D) : R (Nat × List Nat) :=
  (A.plc g).bind fun q g => if quiet j = true ∨ isVar a = true then (J.val g).bind fun y g => match y.1, getG g q.1 q.2 with
      | .at (.int n), some (.nd (.lst true) xs) => match L2.ixN xs.length n with
        | some k => .ok (q.1, q.2 ++ [k]) g
        | none => .no
      | .at (.int n), some (.nd .tup xs) => match L2.ixN xs.length n with
        | some k => .ok (q.1, q.2 ++ [k]) g
        | none => .no
      | _, _ => .no
    else .no
/-- o[j] = d at a place -/
def asgIdx (a j : E) (A J : Den) (d : D) (g : List D) : R Unit :=
  (A.plc g).bind fun q g => if quiet j = true ∨ isVar a = true then (J.val g).bind fun y g => match y.1, getG g q.1 q.2 with
      | .at (.int n), some (.nd (.lst true) xs) => match L2.ixN xs.length n with
        | some k => .ok () (setG g q.1 q.2 (.lst true (xs.set k d)))
        | none => .no
      | _, _ => .no
    else .no
def dIdx (a j : E) (A J : Den) : Den := { Den.ofVal (fun g => (two a j A J g).bind fun p g => ofO (idxD p.1 p.2.1) g) with
  plc := plcIdx a j A J
  asg := asgIdx a j A J }
def prtD (m : E) (M : Den) (g : List D) : R (Option Int) := (M.val g).bind fun x g => ofO (partI m x.1) g
def dSlc (a lo hi : E) (A L H : Den) : Den := Den.ofVal fun g => (A.val g).bind fun x g => (prtD lo L g).bind fun l g => (prtD hi H g).bind fun h g =>
  match late a (.cons lo hi) x g with
  | some x => ofO (slcD x l h) g
  | none => .no
def dRev (A : Den) : Den := Den.ofVal fun g => (A.val g).bind fun x g => ofO (revD x) g
/-- the arguments' values: what a name lends is taken out of it -/
def takeA : List Arg → List D → Option (List D × List D)
  | [], g => some ([], g)
  | .v d :: r, g => (takeA r g).map fun p => (d :: p.1, p.2)
  | .r i :: r, g => match g[i]? with
    | some d => if d.isDead = true then none else if d.pers = true then (takeA r g).map fun q => (d :: q.1, q.2)
      else (takeA r (g.set i .dead)).map fun q => (d :: q.1, q.2)
    | none => none
/-- .. and comes back -/
def backA : List Arg → List D → List D → List D → Option (List D)
  | [], [], [], g => some g
  | .v _ :: r, _ :: ds, _ :: ds', g => backA r ds ds' g
  | .r i :: r, d :: ds, d' :: ds', g => if d.pers = true then backA r ds ds' g else backA r ds ds' (g.set i d')
  | _, _, _, _ => none
def callD (c : Str → List D → CRes) (f : Str) (as : List Arg) (g : List D) : R VD := match takeA as g with
  | some (ds, g) => (match c f ds with
    | .ok d ds' => (match backA as ds ds' g with
      | some g => .ok (d, false) g
      | none => .no)
    | .ex e ds' => (match backA as ds ds' g with
      | some g => .ex e g
      | none => .no)
    | .no => .no)
  | none => .no
def dCall (c : Str → List D → CRes) (f : Str) (A : Den) : Den := Den.ofVal fun g => (A.arg g).bind fun as g => callD c f as g
/-- the call that a loop walks -/
def itrB (b : Blt) (A : Den) (v : List D → R VD) (g : List D) : R Src := match b with
  | .range => (A.lst g).bind fun xs g => ofO (rangeS xs) g
  | .enumerate => (A.ls1 g).bind fun s g => .ok (.enum s) g
  | .zip => (A.ls2 g).bind fun p g => .ok (.zip p.1 p.2) g
  | _ => itrOf v g
def dBlt (b : Blt) (A : Den) : Den := { Den.ofVal (fun g => (A.lst g).bind fun xs g => ofO (bltD b xs) g) with
  itr := itrB b A (fun g => (A.lst g).bind fun xs g => ofO (bltD b xs) g) }
/-- a list's method that changes it: the value, the list behind it -/
def lmD : Lm → List D → List D → Option (D × List D)
  | .append, xs, [y] => if xs.length < sizeLine then some (.non, xs ++ [y]) else none
  | .pop, xs, [] => match xs[xs.length - 1]? with
    | some y => if y.isDead = true then none else some (y, xs.dropLast)
    | none => none
  | .popAt, xs, [.at (.int i)] => match seqIndex? i xs.length with
    | some k => match xs[k]? with
      | some y => if y.isDead = true then none else if -(2 ^ 63) ≤ i ∧ i < 2 ^ 63 then some (y, xs.eraseIdx k) else none
      | none => none
    | none => none
  | .clear, _, [] => some (.non, [])
  | .reverse, xs, [] => some (.non, xs.reverse)
  | _, _, _ => none
def isOwnL : Option D → Bool
  | some (.nd (.lst true) _) => true
  | _ => false
def dLm (m : Lm) (a es : E) (A B : Den) : Den := Den.ofVal fun g => (A.plc g).bind fun q g =>
  if (quiet es = true ∨ isVar a = true) ∧ isOwnL (getG g q.1 q.2) = true then (B.lst g).bind fun ys g =>
    match allOwn ys, getG g q.1 q.2 with
    | some ds, some (.nd (.lst true) xs) => (match lmD m xs ds with
      | some (d, xs') => .ok (d, false) (setG g q.1 q.2 (.lst true xs'))
      | none => .no)
    | _, _ => .no
  else .no
def wipe (g : List D) : List Nat → List D
  | [] => g
  | v :: vs => (wipe g vs).set v .dead
/-- the own names of a comprehension, as they stood -/
def rest (g0 g : List D) : List Nat → List D
  | [] => g
  | v :: vs => (rest g0 g vs).set v (match g0[v]? with
    | some d => if d.pers = true then d else .dead
    | none => .dead)
/-- no exception leaves it -/
def R.noex {α : Type} : R α → R α
  | .ok a g => .ok a g
  | _ => .no
def compGo (T C A : Den) (own : List Nat) (s : Src) : Nat → Nat → List D → R (List D)
  | n, k, g => match s.at g k with
    | none => .no
    | some none => .ok [] g
    | some (some x) => match n with
      | 0 => .no
      | n + 1 => (T.asg x g).bind fun _ g => (C.tst g).bind fun b g =>
        if b = true then (A.val g).bind fun y g => if y.2 = false then (compGo T C A own s n (k + 1) (wipe g own)).bind fun ys g => .ok (y.1 :: ys) g else .no
        else compGo T C A own s n (k + 1) (wipe g own)
def dComp (own : List Nat) (A T I C : Den) : Den := Den.ofVal fun g => (I.itr g).bind fun s g0 =>
  if (s.names.all fun i => !own.contains i) = true then (compGo T C A own s (s.len g0) 0 (wipe g0 own)).noex.bind fun ys g => if ys.length ≤ sizeLine then .ok (.lst true ys, false) (rest g0 g own) else .no
  else .no
def compGo2 (T C A T1 C1 : Den) (it1 : List D → R Src) (own own1 : List Nat) (s : Src) : Nat → Nat → List D → R (List D)
  | n, k, g => match s.at g k with
    | none => .no
    | some none => .ok [] g
    | some (some x) => match n with
      | 0 => .no
      | n + 1 => (T.asg x g).bind fun _ g => (C.tst g).bind fun b g =>
        if b = true then (it1 g).bind fun s1 g1 => if (s1.names.all fun i => !own1.contains i) = true then
            (compGo T1 C1 A own1 s1 (s1.len g1) 0 (wipe g1 own1)).bind fun ys g => (compGo2 T C A T1 C1 it1 own own1 s n (k + 1) (wipe g own)).bind fun zs g => .ok (ys ++ zs) g
          else .no
        else compGo2 T C A T1 C1 it1 own own1 s n (k + 1) (wipe g own)
def dComp2 (own own1 : List Nat) (A T I C T1 I1 C1 : Den) : Den := Den.ofVal fun g => (I.itr g).bind fun s g0 =>
  if (s.names.all fun i => !own.contains i) = true then (compGo2 T C A T1 C1 I1.itr own own1 s (s.len g0) 0 (wipe g0 own)).noex.bind fun ys g => if ys.length ≤ sizeLine then .ok (.lst true ys, false) (rest g0 g own) else .no
  else .no
def dLrg (A : Den) : Den := { Den.ofVal (fun g => (A.val g).bind fun x g => match x.1 with
  | .at (.int n) => if 0 ≤ n ∧ n ≤ 1000000 then .ok (.lst true (rangeD 0 n.toNat), false) g else .no
  | _ => .no) with tst := fun _ => .no }
def isLstD : D → Bool
  | .nd (.lst _) _ => true
  | _ => false
/-- the first place of an int among ints -/
def idxOfD : D → D → Option VD
  | .nd (.lst _) xs, .at (.int k) => match intsD xs with
    | some ns => (ns.findIdx? (· == k)).map fun (j : Nat) => ((D.int (j : Int), false) : VD)
    | none => none
  | _, _ => none
def dIdxOf (a e : E) (A B : Den) : Den := { Den.ofVal (fun g => (A.val g).bind fun x g => if isLstD x.1 = true then (B.val g).bind fun y g => ofO ((late a e x g).bind fun x => idxOfD x.1 y.1) g else .no) with tst := fun _ => .no }
/-- an attribute -/
def fldD (C f : Str) : VD → Option VD
  | (.nd (.ins _ C' fs) xs, l) => if C' = C then match (fs.zip xs).lookup f with
    | some d => mkV d l
    | none => none
    else none
  | _ => none
def dFld (C f : Str) (A : Den) : Den := Den.ofVal fun g => (A.val g).bind fun x g => ofO (fldD C f x) g
/-- an instance of C without such an attribute of its own -/
def insOf (C m : Str) : Option D → Bool
  | some (.nd (.ins _ C' fs) _) => decide (C' = C) && !fs.contains m
  | _ => false
def argD (g : List D) : Arg → Option D
  | .v d => some d
  | .r i => g[i]?
def dMeth (c : Str → List D → CRes) (x C m : Str) (A B : Den) : Den := { Den.ofVal (fun g => (A.one g).bind fun r g => if insOf C m (argD g r) = true then (B.arg g).bind fun as g => callD c x (r :: as) g else .no) with tst := fun _ => .no }
def dProp (c : Str → List D → CRes) (x C m : Str) (A : Den) : Den := { Den.ofVal (fun g => (A.one g).bind fun r g => if insOf C m (argD g r) = true then (callD c x [r] g).noex else .no) with tst := fun _ => .no }
/-- a new instance: __init__ fills it -/
def makeD (c : Str → List D → CRes) (x C : Str) (as : List Arg) (g : List D) : R VD := match takeA as g with
  | some (ds, g) => (match c x (.nd (.ins true C []) [] :: ds) with
    | .ok (.at .non) (d :: ds') => (match backA as ds ds' g with
      | some g => .ok (d, false) g
      | none => .no)
    | .ex e (_ :: ds') => (match backA as ds ds' g with
      | some g => .ex e g
      | none => .no)
    | _ => .no)
  | none => .no
def dMake (c : Str → List D → CRes) (x C : Str) (A : Den) : Den := { Den.ofVal (fun g => (A.arg g).bind fun as g => makeD c x C as g) with tst := fun _ => .no }
def isiD : Ty → D → Option Bool
  | _, .dead => none
  | .own C, .nd (.ins _ C' _) _ => if C' = C then some true else none
  | _, .nd (.ins _ _ _) _ => none
  | .own _, _ => some false
  | .int, .at (.int _) => some true
  | .int, .at (.bl _) => some true
  | .bool, .at (.bl _) => some true
  | .str, .at (.str _) => some true
  | .list, .nd (.lst _) _ => some true
  | .list, .nd .scr _ => some true
  | .tuple, .nd .tup _ => some true
  | _, _ => some false
def dIsi (t : Ty) (A : Den) : Den := { Den.ofVal (fun g => (A.val g).bind fun x g => ofO ((isiD t x.1).map fun b => ((D.bl b, false) : VD)) g) with tst := fun g => (A.val g).bind fun x g => ofO (isiD t x.1) g }
def dFrz (A : Den) : Den := { Den.ofVal (fun g => (A.val g).bind fun x g => if x.2 = false then .ok (x.1.frz, false) g else .no) with tst := fun _ => .no }
def den (c : Str → List D → CRes) : E → Den
  | .cst a => Den.ofVal fun g => .ok (.at a, false) g
  | .var i => dVar i
  | .mv i => Den.ofVal (mvD i)
  | .glb _ a => Den.ofVal fun g => .ok (.at a, false) g
  | .bin o a b => dBin o a b (den c a) (den c b)
  | .cmp o a b => Den.ofB (cmpV o a b (den c a) (den c b))
  | .cmp2 o o' a b d => dCmp2 o o' a b d (den c a) (den c b) (den c d)
  | .neg a => { Den.ofVal (fun g => ((den c a).val g).bind fun x g => match x.1 with
    | .at (.int i) => .ok (.int (-i), false) g
    | _ => .no) with tst := fun _ => .no }
  | .notE a => dNot (den c a)
  | .andE a b => dAnd (den c a) (den c b)
  | .orE a b => dOr (den c a) (den c b)
  | .ife t a b => dIfe (den c t) (den c a) (den c b)
  | .nil => dNil
  | .cons a b => dCons a b (den c a) (den c b)
  | .tupE es => dTup es (den c es)
  | .lstE es => dLst (den c es)
  | .idx a j => dIdx a j (den c a) (den c j)
  | .slc a lo hi => dSlc a lo hi (den c a) (den c lo) (den c hi)
  | .rev a => dRev (den c a)
  | .call f es => dCall c f (den c es)
  | .blt b es => dBlt b (den c es)
  | .lm m a es => dLm m a es (den c a) (den c es)
  | .comp elt tg it tst own => dComp own (den c elt) (den c tg) (den c it) (den c tst)
  | .lrg a => dLrg (den c a)
  | .idxOf a e => dIdxOf a e (den c a) (den c e)
  | .comp2 elt tg it tst tg1 it1 tst1 own own1 => dComp2 own own1 (den c elt) (den c tg) (den c it) (den c tst) (den c tg1) (den c it1) (den c tst1)
  | .frz a => dFrz (den c a)
  | .fld C f a => dFld C f (den c a)
  | .prop x C f a => dProp c x C f (den c a)
  | .meth x C m a es => dMeth c x C m (den c a) (den c es)
  | .make x C es => dMake c x C (den c es)
  | .isi t a => dIsi t (den c a)
  | .never => Den.none

/-! ### statements -/
inductive RS where
  | nx (g : List D)
  | rt (d : D) (g : List D)
  | bk (g : List D)
  | ct (g : List D)
  | ex (e : Ex) (g : List D)
  | no
def R.st {α : Type} (r : R α) (f : α → List D → RS) : RS :=
  match r with
  | .ok a g => f a g
  | .ex e g => .ex e g
  | .no => .no
def RS.bind (r : RS) (f : List D → RS) : RS :=
  match r with
  | .nx g => f g
  | r => r
/-- a loop's turns -/
def forGo (T : Den) (b : List D → RS) (s : Src) : Nat → Nat → List D → RS
  | n, k, g => match s.at g k with
    | none => .no
    | some none => .nx g
    | some (some x) => match n with
      | 0 => .no
      | n + 1 => (T.asg x g).st fun _ g => match b g with
        | .nx g => forGo T b s n (k + 1) g
        | .ct g => forGo T b s n (k + 1) g
        | .bk g => .nx g
        | r => r
/-- the names that a target, a statement stores -/
def asgE : E → List Nat
  | .var i => [i]
  | .tupE es => asgE es
  | .cons a b => asgE a ++ asgE b
  | _ => []
def asgS : S → List Nat
  | .seq a b => asgS a ++ asgS b
  | .asg t _ => asgE t
  | .par is _ => is
  | .peek _ b => asgS b
  | .forR ko x _ b => ko.toList ++ x :: asgS b
  | .aug i _ _ => [i]
  | .ifS _ a b => asgS a ++ asgS b
  | .forS t _ b => asgE t ++ asgS b
  | .kill _ a => asgS a
  | .gift _ a => asgS a
  | .setF _ _ _ _ => []
  | _ => []
def setAll : List D → List Nat → List D → List D
  | g, i :: is, d :: ds => setAll (g.set i d) is ds
  | g, _, _ => g
mutual
/-- no list in it that was given up: it may be anyone's -/
def D.clean : D → Bool
  | .dead => true
  | .at _ => true
  | .nd k xs => match k with
    | .tup => cleanL xs
    | .lst m => m && cleanL xs
    | .scr => cleanL xs
    | .ins _ _ _ => false
def cleanL : List D → Bool
  | [] => true
  | x :: xs => x.clean && cleanL xs
end
mutual
def D.same : D → D → Bool
  | .dead, .dead => true
  | .at a, .at b => decide (a = b)
  | .nd k xs, .nd k' ys => decide (k = k') && sameL xs ys
  | _, _ => false
def sameL : List D → List D → Bool
  | [], [] => true
  | x :: xs, y :: ys => x.same y && sameL xs ys
  | _, _ => false
end
def sameO : Option D → Option D → Bool
  | some x, some y => x.same y
  | _, _ => false
/-- the names but ex: what they hold is of their own, or it is what it was -/
def held (g0 g : List D) (as ex : List Nat) : Bool := (List.range g.length).all fun j => ex.contains j || (match g[j]? with
  | some d => d.clean || (!as.contains j && (match g0[j]? with
    | some e => e.pers && e.same d
    | none => false))
  | none => true)
/-- behind a part that read i alone -/
def unpeek (g : List D) (as : List Nat) (i : Nat) (t : D) (g1 : List D) : Option (List D) :=
  if !as.contains i && sameO g1[i]? (some t.frz) && held g g1 as [i] then some (g1.set i t) else none
def RS.back (f : List D → Option (List D)) : RS → RS
  | .nx g => match f g with
    | some g => .nx g
    | none => .no
  | .bk g => match f g with
    | some g => .bk g
    | none => .no
  | .ct g => match f g with
    | some g => .ct g
    | none => .no
  | .rt d g => if d.clean = true then match f g with
    | some g => .rt d g
    | none => .no
    else .no
  | .ex e g => if cleanL e.fs = true then match f g with
    | some g => .ex e g
    | none => .no
    else .no
  | .no => .no
def setO (g : List D) (o : Option Nat) (d : D) : List D := match o with
  | some i => g.set i d
  | none => g
/-- the item x goes back to its place -/
def unhole (g : List D) (as : List Nat) (i x : Nat) (p : List Nat) (t : D) (g1 : List D) : Option (List D) :=
  if !as.contains i && !as.contains x && sameO g1[i]? (some t.frz) && held g g1 as [i] then match g1[x]? with
    | some d => if d.isDead = true then none else some (setG ((g1.set i t).set x .dead) i p d)
    | none => none
  else none
/-- x takes the item at k of the list at the place i, p -/
def hole (g : List D) (ko : Option Nat) (i x : Nat) (p : List Nat) (k : Nat) : Option (D × List D) := match getG g i p with
  | some (.nd (.lst true) xs) => match xs[k]? with
    | some d => if d.isDead = true then none else match (setG g i (p ++ [k]) .dead)[i]? with
      | some t => some (t, ((setO (setG g i (p ++ [k]) .dead) ko (.int (k : Int))).set x d).set i t.frz)
      | none => none
    | none => none
  | _ => none
def lenR (g : List D) (i : Nat) (p : List Nat) : Nat := match getG g i p with
  | some (.nd (.lst true) xs) => xs.length
  | _ => 0
def forRGo (ko : Option Nat) (i x : Nat) (p : List Nat) (as : List Nat) (b : List D → RS) : Nat → Nat → List D → RS
  | 0, _, g => .nx g
  | n + 1, k, g => match hole g ko i x p k with
    | none => .no
    | some (t, g1) => match (b g1).back (unhole g1 as i x (p ++ [k]) t) with
      | .nx g => forRGo ko i x p as b n (k + 1) g
      | .ct g => forRGo ko i x p as b n (k + 1) g
      | .bk g => .nx g
      | r => r
def okR (ko : Option Nat) (i x : Nat) : Bool := decide (i ≠ x) && (match ko with
  | some k => decide (k ≠ i) && decide (k ≠ x)
  | none => true)
def own1 (x : VD) (g : List D) (f : D → List D → RS) : RS := if x.2 = false then f x.1 g else .no
def augV : BOp → Int → Int → Option Int
  | .add, u, w => some (u + w)
  | .sub, u, w => some (u - w)
  | _, _, _ => none
def giveUp (g : List D) : List Nat → List D
  | [] => g
  | i :: is => match g[i]? with
    | some d => giveUp (g.set i d.frz) is
    | none => giveUp g is
def sden (c : Str → List D → CRes) : S → List D → RS
  | .skip, g => .nx g
  | .never, _ => .no
  | .seq a b, g => (sden c a g).bind (sden c b)
  | .expr e, g => ((den c e).val g).st fun _ g => .nx g
  | .asg t e, g => ((den c e).val g).st fun x g => own1 x g fun d g => ((den c t).asg d g).st fun _ g => .nx g
  | .par is es, g => ((den c es).lst g).st fun xs g => (match allOwn xs with
    | some ds => if ds.length = is.length ∧ (is.all fun i => decide (i < g.length)) = true then .nx (setAll g is ds) else .no
    | none => .no)
  | .peek i b, g => (match g[i]? with
    | some t => (sden c b (g.set i t.frz)).back (unpeek (g.set i t.frz) (asgS b) i t)
    | none => .no)
  | .forR ko x a b, g => ((den c a).plc g).st fun q g => if (okR ko q.1 x && quiet a && decide (x < g.length) && (ko.toList.all fun i => decide (i < g.length))) = true ∧ isOwnL (getG g q.1 q.2) = true
      then forRGo ko q.1 x q.2 (asgS b) (sden c b) (lenR g q.1 q.2) 0 g else .no
  | .aug i o e, g => (match g[i]? with
    | some (.at (.int _)) => ((den c e).val g).st fun y g => (match g[i]?, y.1 with
      | some (.at (.int u)), .at (.int w) => (match augV o u w with
        | some z => .nx (g.set i (.int z))
        | none => .no)
      | _, _ => .no)
    | _ => .no)
  | .augI a j o e, g => ((den c a).plc g).st fun q g => ((den c j).val g).st fun n g => match n.1, getG g q.1 q.2 with
    | .at (.int n), some (.nd (.lst true) xs) => (match L2.ixN xs.length n with
      | some k => (match xs[k]? with
        | some (.at (.int u)) => if (quiet j = true ∨ isVar a = true) ∧ quiet e = true then ((den c e).val g).st fun y g => (match y.1 with
            | .at (.int w) => (match augV o u w with
              | some z => .nx (setG g q.1 q.2 (.lst true (xs.set k (.int z))))
              | none => .no)
            | _ => .no) else .no
        | _ => .no)
      | none => .no)
    | _, _ => .no
  | .ret e, g => ((den c e).val g).st fun x g => own1 x g fun d g => .rt d g
  | .retN, g => .rt .non g
  | .ifS t a b, g => ((den c t).tst g).st fun x g => if x = true then sden c a g else sden c b g
  | .forS t it b, g => ((den c it).itr g).st fun s g => if (s.names.all fun i => !(asgE t ++ asgS b).contains i) = true then forGo (den c t) (sden c b) s (s.len g) 0 g else .no
  | .brk, g => .bk g
  | .cont, g => .ct g
  | .gift is a, g => match sden c a g with
    | .nx g => .nx (giveUp g is)
    | r => r
  | .setF i C f e, g => ((den c e).val g).st fun x g => own1 x g fun d g => (match g[i]? with
    | some (.nd (.ins true C' fs) xs) => if C' = C ∧ fs.contains f = false ∧ fs.length < 900 then .nx (g.set i (.nd (.ins true C' (fs ++ [f])) (xs ++ [d]))) else .no
    | _ => .no)
  | .kill is a, g => match sden c a g with
    | .nx g => .nx (wipe g is)
    | .ct g => .ct (wipe g is)
    | r => r
/-- a def: its parameters' number, its names' number, its body -/
structure Def where
  np : Nat
  nn : Nat
  body : S
def Def.run (c : Str → List D → CRes) (f : Def) (as : List D) : CRes :=
  if as.length = f.np then (match sden c f.body (as ++ List.replicate (f.nn - f.np) .dead) with
    | .rt d g => .ok d ((wipe g (asgS f.body)).take f.np)
    | .nx g => .ok .non ((wipe g (asgS f.body)).take f.np)
    | .ex e g => .ex e ((wipe g (asgS f.body)).take f.np)
    | _ => .no)
  else .no
/-- the defs of a program, the latest first: each calls those behind it -/
def orc : List (Str × Def) → Str → List D → CRes
  | [], _, _ => .no
  | (n, d) :: r, m, as => if m = n then d.run (orc r) as else orc r m as
end Bm

/-! B2: what the small language's values stand for in the heap. -/
namespace Bm
open PySem L2

/-- the module's own objects -/
class TheK where
  K : PySem.W.Frag
variable [TheK]
abbrev AS := Addr → Prop
/-- a list of the module's own -/
def KL (a : Addr) (vs : List V) : Prop := ∃ (o : Obj) (its : Array Value) (n : Nat), TheK.K.lookup a = some o ∧ o.cls = .type "list" ∧ o.dict = none ∧ o.data = .seq its n ∧ its.size ≤ sizeLine ∧ Vals vs its.toList
def none_ : AS := fun _ => False
def At.v : At → V
  | .non => .non
  | .bl b => .bl b
  | .int i => .int i
  | .str x => .str x
/-- the object at a is such a node, with these parts; O: what the value owns, Z: what anyone owns -/
def Node (H : Hp) (Z : AS) (k : Kd) (a : Addr) (vs : List V) (O : AS) : Prop := match k with
  | .tup => H a = some (.tup vs)
  | .lst true => H a = some (.lst vs) ∧ O a
  | .lst false => H a = some (.lst vs) ∧ ¬ Z a
  | .scr => (∃ o, H a = some (.frz o (.lst vs))) ∨ KL a vs
  | .ins m C fs => (∃ dx, H a = some (.ins (He.ga TheK.K C) dx (fs.zip vs))) ∧ fs.length = vs.length ∧ (match m with
    | true => O a
    | false => ¬ Z a)
/-- what the parts own -/
def subO (k : Kd) (a : Addr) (O : AS) : AS := match k with
  | .tup => O
  | .lst true => fun b => O b ∧ b ≠ a
  | .ins true _ _ => fun b => O b ∧ b ≠ a
  | _ => none_
inductive Rep (H : Hp) (Z : AS) : D → V → AS → Prop
  | dead (v : V) (O : AS) : Rep H Z .dead v O
  | at (a : At) (O : AS) : Rep H Z (.at a) a.v O
  | nd (k : Kd) (xs : List D) (a : Addr) (vs : List V) (O : AS) (F : Nat → AS) : Node H Z k a vs O → xs.length = vs.length → (∀ i b, F i b → subO k a O b) →
      (∀ i j b, F i b → F j b → i = j) → (∀ i x v, xs[i]? = some x → vs[i]? = some v → Rep H Z x v (F i)) → Rep H Z (.nd k xs) (.ref a) O

def ZOk (H : Hp) (Z : AS) : Prop := ∀ a, Z a → ∃ o, H a = some o ∧ Mut (some o)
/-- from H to H': what stands outside W stands, what is owned outside W is owned; what is owned then was owned or is new -/
structure Ext (W : AS) (H : Hp) (Z : AS) (H' : Hp) (Z' : AS) : Prop where
  wz : ∀ a, W a → Z a
  same : ∀ a o, H a = some o → ¬ W a → H' a = some o
  zold : ∀ a, Z' a → Z a ∨ H a = none
  zkeep : ∀ a, Z a → ¬ W a → Z' a

theorem subO_sub {k : Kd} {a : Addr} {O : AS} {b : Addr} (h : subO k a O b) : O b := by
  unfold subO at h
  split at h
  · exact h
  · exact h.1
  · exact h.1
  · exact h.elim
theorem subO_mono {k : Kd} {a : Addr} {O O' : AS} (s : ∀ b, O b → O' b) {b : Addr} (h : subO k a O b) : subO k a O' b := by
  unfold subO at h ⊢
  split at h
  · exact s _ h
  · exact ⟨s _ h.1, h.2⟩
  · exact ⟨s _ h.1, h.2⟩
  · exact h
theorem Node.mono {H : Hp} {Z : AS} {k : Kd} {a : Addr} {vs : List V} {O O' : AS} (s : ∀ b, O b → O' b) (h : Node H Z k a vs O) : Node H Z k a vs O' := by
  unfold Node at h ⊢
  split at h
  · exact h
  · exact ⟨h.1, s _ h.2⟩
  · exact h
  · exact h
  · rename_i m C fs
    cases m with
    | true => exact ⟨h.1, h.2.1, s _ h.2.2⟩
    | false => exact h
theorem Rep.mono {H : Hp} {Z : AS} {d : D} {v : V} {O O' : AS} (h : Rep H Z d v O) (s : ∀ b, O b → O' b) : Rep H Z d v O' := by
  induction h generalizing O' with
  | dead v O => exact .dead v O'
  | «at» a O => exact .at a O'
  | nd k xs a vs O F n l f1 f2 r _ => exact .nd k xs a vs O' F (n.mono s) l (fun i b q => subO_mono s (f1 i b q)) f2 r
theorem persL_mem {xs : List D} (h : persL xs = true) {x : D} {i : Nat} (e : xs[i]? = some x) : x.pers = true := by
  rw [persL_eq] at h
  exact List.all_eq_true.mp h x (List.mem_of_getElem? e)
/-- what cannot be changed owns nothing -/
theorem Rep.pers {H : Hp} {Z : AS} {d : D} {v : V} {O : AS} (h : Rep H Z d v O) (p : d.pers = true) : Rep H Z d v none_ := by
  induction h with
  | dead v O => simp [D.pers] at p
  | «at» a O => exact .at a _
  | nd k xs a vs O F n l f1 f2 r ih =>
    cases k with
    | tup =>
      have p' : persL xs = true := by simpa [D.pers] using p
      exact .nd .tup xs a vs none_ (fun _ => none_) n l (fun _ _ q => q) (fun _ _ _ q => q.elim) fun i x v e e' => ih i x v e e' (persL_mem p' e)
    | lst m =>
      have pm : m = false := by simpa [D.pers] using p
      subst pm
      exact .nd (.lst false) xs a vs none_ F n l (fun i b q => f1 i b q) f2 r
    | scr => simp [D.pers] at p
    | ins m C fs =>
      have pm : m = false := by simpa [D.pers] using p
      subst pm
      exact .nd (.ins false C fs) xs a vs none_ F n l (fun i b q => f1 i b q) f2 r
theorem Rep.ext {W : AS} {H H' : Hp} {Z Z' : AS} {d : D} {v : V} {O : AS} (h : Rep H Z d v O) (zk : ZOk H Z) (e : Ext W H Z H' Z') (dj : ∀ b, O b → ¬ W b) : Rep H' Z' d v O := by
  induction h with
  | dead v O => exact .dead v O
  | «at» a O => exact .at a O
  | nd k xs a vs O F n l f1 f2 r ih =>
    refine .nd k xs a vs O F ?_ l f1 f2 fun i x v e1 e2 => ih i x v e1 e2 fun b q => dj b (subO_sub (f1 i b q))
    have nw : ∀ o, H a = some o → ¬ Mut (some o) → ¬ W a := fun o q m w => by
      obtain ⟨o', q', m'⟩ := zk a (e.wz a w)
      rw [q] at q'
      cases q'
      exact m m'
    cases k with
    | tup => exact e.same a _ n (nw _ n fun z => z)
    | lst m =>
      cases m with
      | true => exact ⟨e.same a _ n.1 (dj a n.2), n.2⟩
      | false =>
        refine ⟨e.same a _ n.1 fun w => n.2 (e.wz a w), fun z => ?_⟩
        rcases e.zold a z with q | q
        · exact n.2 q
        · rw [n.1] at q
          cases q
    | scr =>
      rcases n with ⟨o, n⟩ | n
      · exact .inl ⟨o, e.same a _ n (nw _ n fun z => z)⟩
      · exact .inr n
    | ins m C fs =>
      obtain ⟨⟨dx, n1⟩, n2, n3⟩ := n
      cases m with
      | true => exact ⟨⟨dx, e.same a _ n1 (dj a n3)⟩, n2, n3⟩
      | false =>
        refine ⟨⟨dx, e.same a _ n1 fun w => n3 (e.wz a w)⟩, n2, fun z => ?_⟩
        rcases e.zold a z with q | q
        · exact n3 q
        · rw [n1] at q
          cases q
theorem frzL_get (xs : List D) (i : Nat) : (frzL xs)[i]? = (xs[i]?).map D.frz := by rw [frzL_eq, List.getElem?_map]
/-- the owner gives up: nothing is owned any more -/
theorem Rep.frz {H : Hp} {Z : AS} {d : D} {v : V} {O : AS} (h : Rep H Z d v O) (Z' : AS) (hz : ∀ b, Z' b → Z b ∧ ¬ O b) : Rep H Z' d.frz v none_ := by
  induction h with
  | dead v O => exact .dead v _
  | «at» a O => exact .at a _
  | nd k xs a vs O F n l f1 f2 r ih =>
    have hl : (frzL xs).length = vs.length := by rw [frzL_eq, List.length_map]; exact l
    have hr : ∀ i x v, (frzL xs)[i]? = some x → vs[i]? = some v → Rep H Z' x v none_ := fun i x v e1 e2 => by
      rw [frzL_get] at e1
      obtain ⟨y, e3, e4⟩ := Option.map_eq_some_iff.mp e1
      subst e4
      exact ih i y v e3 e2 fun b q => ⟨(hz b q).1, fun z => (hz b q).2 (subO_sub (f1 i b z))⟩
    cases k with
    | tup => exact .nd .tup _ a vs none_ (fun _ => none_) n hl (fun _ _ q => q) (fun _ _ _ q => q.elim) hr
    | lst m =>
      refine .nd (.lst false) _ a vs none_ (fun _ => none_) ?_ hl (fun _ _ q => q) (fun _ _ _ q => q.elim) hr
      cases m with
      | true => exact ⟨n.1, fun z => (hz a z).2 n.2⟩
      | false => exact ⟨n.1, fun z => n.2 (hz a z).1⟩
    | scr => exact .nd .scr _ a vs none_ (fun _ => none_) n hl (fun _ _ q => q) (fun _ _ _ q => q.elim) hr
    | ins m C fs =>
      refine .nd (.ins false C fs) _ a vs none_ (fun _ => none_) ?_ hl (fun _ _ q => q) (fun _ _ _ q => q.elim) hr
      cases m with
      | true => exact ⟨n.1, n.2.1, fun z => (hz a z).2 n.2.2⟩
      | false => exact ⟨n.1, n.2.1, fun z => n.2.2 (hz a z).1⟩
/-- what the names hold -/
structure Sit (H : Hp) (Z : AS) (σ : St) (g : List D) (O : AS) : Prop where
  zok : ZOk H Z
  oz : ∀ b, O b → Z b
  len : σ.length = g.length
  rep : ∃ F : Nat → AS, (∀ i b, F i b → O b) ∧ (∀ i j b, F i b → F j b → i = j) ∧ ∀ i d, g[i]? = some d → d.isDead = true ∨ ∃ v, σ[i]? = some (some v) ∧ Rep H Z d v (F i)
structure Out (W : AS) (H : Hp) (Z O : AS) (σ : St) (g' : List D) (H' : Hp) (Z' O' : AS) : Prop where
  sit : Sit H' Z' σ g' O'
  ext : Ext W H Z H' Z'
  bnd : ∀ b, O' b → O b ∨ H b = none
theorem Ext.refl {H : Hp} {Z W : AS} (wz : ∀ a, W a → Z a) : Ext W H Z H Z := ⟨wz, fun _ _ q _ => q, fun _ q => .inl q, fun _ q _ => q⟩
theorem Ext.trans {W W1 W2 : AS} {H H1 H2 : Hp} {Z Z1 Z2 : AS} (zk : ZOk H Z) (a : Ext W1 H Z H1 Z1) (b : Ext W2 H1 Z1 H2 Z2) (w1 : ∀ x, W1 x → W x) (w2 : ∀ x, W2 x → W x ∨ H x = none) (wz : ∀ x, W x → Z x) : Ext W H Z H2 Z2 := by
  have nw2 : ∀ x, ¬ W x → H x ≠ none → ¬ W2 x := fun x n q z => by
    rcases w2 x z with r | r
    · exact n r
    · exact q r
  refine ⟨wz, fun x o q n => ?_, fun x z => ?_, fun x z n => ?_⟩
  · exact b.same x o (a.same x o q fun z => n (w1 x z)) (nw2 x n (by rw [q]; simp))
  · rcases b.zold x z with q | q
    · exact a.zold x q
    · cases e : H x with
      | none => exact .inr rfl
      | some o =>
        by_cases hw : W1 x
        · exact .inl (a.wz x hw)
        · rw [a.same x o e hw] at q
          cases q
  · have hne : H x ≠ none := by
      obtain ⟨o, q, _⟩ := zk x z
      rw [q]; simp
    exact b.zkeep x (a.zkeep x z fun q => n (w1 x q)) (nw2 x n hne)
theorem Out.refl {H : Hp} {Z O W : AS} {σ : St} {g : List D} (s : Sit H Z σ g O) (wz : ∀ a, W a → Z a) : Out W H Z O σ g H Z O := ⟨s, .refl wz, fun _ q => .inl q⟩
/-- what an expression that is quiet (q) or not may change -/
def Wq (q : Bool) (O : AS) : AS := fun b => q = false ∧ O b
theorem Out.trans {q q1 q2 : Bool} {H H1 H2 : Hp} {Z Z1 Z2 O O1 O2 : AS} {σ σ' : St} {g1 g2 : List D} (zk : ZOk H Z) (oz : ∀ b, O b → Z b) (a : Out (Wq q1 O) H Z O σ g1 H1 Z1 O1) (b : Out (Wq q2 O1) H1 Z1 O1 σ' g2 H2 Z2 O2)
    (h1 : q1 = false → q = false) (h2 : q2 = false → q = false) : Out (Wq q O) H Z O σ' g2 H2 Z2 O2 := by
  refine ⟨b.sit, a.ext.trans zk b.ext (fun x z => ⟨h1 z.1, z.2⟩) (fun x z => ?_) (fun x z => oz x z.2), fun x z => ?_⟩
  · rcases a.bnd x z.2 with q | q
    · exact .inl ⟨h2 z.1, q⟩
    · exact .inr q
  · rcases b.bnd x z with r | r
    · exact a.bnd x r
    · cases e : H x with
      | none => exact .inr rfl
      | some o =>
        by_cases hw : Wq q1 O x
        · exact .inl hw.2
        · rw [a.ext.same x o e hw] at r
          cases r
end Bm

/-! B3: whether a statement of the given Python is what a text of the small language says. -/
namespace Bm
open PySem L2
/-! ### parts of the syntax -/
def xName : Expr → Option Str
  | .Name x _ => some x
  | _ => none
def xConst : Expr → Option Const
  | .Constant k _ _ => some k
  | _ => none
def xBin : Expr → Option (Expr × Operator × Expr)
  | .BinOp a o b _ => some (a, o, b)
  | _ => none
def xUn : Expr → Option (UnaryOp × Expr)
  | .UnaryOp o a _ => some (o, a)
  | _ => none
def xBool : Expr → Option (BoolOp × List Expr)
  | .BoolOp o es _ => some (o, es)
  | _ => none
def xCmp : Expr → Option (Expr × List CmpOp × List Expr)
  | .Compare a os es _ => some (a, os, es)
  | _ => none
def xIf : Expr → Option (Expr × Expr × Expr)
  | .IfExp c a b _ => some (c, a, b)
  | _ => none
def xTup : Expr → Option (List Expr)
  | .Tuple es _ _ => some es
  | _ => none
def xLst : Expr → Option (List Expr)
  | .List es _ => some es
  | _ => none
def xSub : Expr → Option (Expr × Expr)
  | .Subscript a i _ => some (a, i)
  | _ => none
def xSlice : Expr → Option (Option Expr × Option Expr × Option Expr)
  | .Slice l u s _ => some (l, u, s)
  | _ => none
def xCall : Expr → Option (Expr × List Expr × List Keyword)
  | .Call f as ks _ => some (f, as, ks)
  | _ => none
def xAttr : Expr → Option (Expr × Str)
  | .Attribute o m _ => some (o, m)
  | _ => none
def xComp : Expr → Option (Expr × List Comprehension × Scope)
  | .ListComp e gs sc _ => some (e, gs, sc)
  | _ => none
theorem xName_eq {e : Expr} {x : Str} (h : xName e = some x) : ∃ p, e = .Name x p := by
  cases e <;> simp [xName] at h
  exact ⟨_, by rw [h]⟩
theorem xConst_eq {e : Expr} {x : Const} (h : xConst e = some x) : ∃ k p, e = .Constant x k p := by
  cases e <;> simp [xConst] at h
  exact ⟨_, _, by rw [h]⟩
theorem xBin_eq {e a b : Expr} {o : Operator} (h : xBin e = some (a, o, b)) : ∃ p, e = .BinOp a o b p := by
  cases e <;> simp [xBin] at h
  obtain ⟨rfl, rfl, rfl⟩ := h
  exact ⟨_, rfl⟩
theorem xUn_eq {e a : Expr} {o : UnaryOp} (h : xUn e = some (o, a)) : ∃ p, e = .UnaryOp o a p := by
  cases e <;> simp [xUn] at h
  obtain ⟨rfl, rfl⟩ := h
  exact ⟨_, rfl⟩
theorem xBool_eq {e : Expr} {es : List Expr} {o : BoolOp} (h : xBool e = some (o, es)) : ∃ p, e = .BoolOp o es p := by
  cases e <;> simp [xBool] at h
  obtain ⟨rfl, rfl⟩ := h
  exact ⟨_, rfl⟩
theorem xCmp_eq {e a : Expr} {os : List CmpOp} {es : List Expr} (h : xCmp e = some (a, os, es)) : ∃ p, e = .Compare a os es p := by
  cases e <;> simp [xCmp] at h
  obtain ⟨rfl, rfl, rfl⟩ := h
  exact ⟨_, rfl⟩
theorem xIf_eq {e c a b : Expr} (h : xIf e = some (c, a, b)) : ∃ p, e = .IfExp c a b p := by
  cases e <;> simp [xIf] at h
  obtain ⟨rfl, rfl, rfl⟩ := h
  exact ⟨_, rfl⟩
theorem xTup_eq {e : Expr} {es : List Expr} (h : xTup e = some es) : ∃ k p, e = .Tuple es k p := by
  cases e <;> simp [xTup] at h
  exact ⟨_, _, by rw [h]⟩
theorem xLst_eq {e : Expr} {es : List Expr} (h : xLst e = some es) : ∃ p, e = .List es p := by
  cases e <;> simp [xLst] at h
  exact ⟨_, by rw [h]⟩
theorem xSub_eq {e a i : Expr} (h : xSub e = some (a, i)) : ∃ p, e = .Subscript a i p := by
  cases e <;> simp [xSub] at h
  obtain ⟨rfl, rfl⟩ := h
  exact ⟨_, rfl⟩
theorem xSlice_eq {e : Expr} {l u s : Option Expr} (h : xSlice e = some (l, u, s)) : ∃ p, e = .Slice l u s p := by
  cases e <;> simp [xSlice] at h
  obtain ⟨rfl, rfl, rfl⟩ := h
  exact ⟨_, rfl⟩
theorem xCall_eq {e f : Expr} {as : List Expr} {ks : List Keyword} (h : xCall e = some (f, as, ks)) : ∃ p, e = .Call f as ks p := by
  cases e <;> simp [xCall] at h
  obtain ⟨rfl, rfl, rfl⟩ := h
  exact ⟨_, rfl⟩
theorem xAttr_eq {e o : Expr} {m : Str} (h : xAttr e = some (o, m)) : ∃ p, e = .Attribute o m p := by
  cases e <;> simp [xAttr] at h
  obtain ⟨rfl, rfl⟩ := h
  exact ⟨_, rfl⟩
theorem xComp_eq {e elt : Expr} {gs : List Comprehension} {sc : Scope} (h : xComp e = some (elt, gs, sc)) : ∃ p, e = .ListComp elt gs sc p := by
  cases e <;> simp [xComp] at h
  obtain ⟨rfl, rfl, rfl⟩ := h
  exact ⟨_, rfl⟩
/-- forms of expressions that stand where the small language has one -/
def plainE : Expr → Bool
  | .Name _ _ => true
  | .Constant _ _ _ => true
  | .BinOp _ _ _ _ => true
  | .UnaryOp _ _ _ => true
  | .BoolOp _ _ _ => true
  | .Compare _ _ _ _ => true
  | .IfExp _ _ _ _ => true
  | .Tuple _ _ _ => true
  | .List _ _ => true
  | .Subscript _ _ _ => true
  | .Call _ _ _ _ => true
  | .Attribute _ _ _ => true
  | .ListComp _ _ _ _ => true
  | _ => false
/-- the test of such an expression is its value's truth -/
def valTest : Expr → Bool
  | .Name _ _ => true
  | .Constant _ _ _ => true
  | .BinOp _ _ _ _ => true
  | .Tuple _ _ _ => true
  | .List _ _ => true
  | .Subscript _ _ _ => true
  | .Call _ _ _ _ => true
  | .Attribute _ _ _ => true
  | .ListComp _ _ _ _ => true
  | _ => false
theorem valTest_is {e : Expr} (h : valTest e = true) (env : Env) : ∀ whole, isTrue e env whole = (do let v ← whole; standAt e.pos; holding [v] (truthy v)) := by
  intro whole
  cases e <;> first | rfl | (simp [valTest] at h)
theorem plain_ix {e : Expr} (h : plainE e = true) : PlainIx e := by
  intro o i
  cases e <;> first | rfl | (simp [plainE] at h)
theorem plain_mark {e : Expr} (h : plainE e = true) (op : CmpOp) : behindInMarks op e = false := by
  cases e <;> first | rfl | (simp [plainE] at h)
theorem plain_fold {e : Expr} (h : plainE e = true) (env : Env) (x : Value) : foldedSetIterable e env x = pure x := by
  cases e <;> first | rfl | (simp [plainE] at h)
theorem plain_star {e : Expr} (h : plainE e = true) (es : List Expr) (env : Env) : starEach (e :: es) env = (false, eval e env) :: starEach es env := by
  cases e <;> first | rfl | (simp [plainE] at h)
/-- no comprehension: no store is swapped for it -/
def noComp : Expr → Bool
  | .ListComp _ _ _ _ => false
  | e => plainE e
theorem noComp_swap {e : Expr} (h : noComp e = true) (t : Option Expr) (l : Nat) (env : Env) : swapsWith e t l env = pure false := by
  cases e <;> first | rfl | (simp [noComp, plainE] at h)
/-- what e.m is called on: no super() -/
def baseOk : Expr → Bool
  | .Call _ [] [] _ => false
  | _ => true
theorem base_is {o : Expr} (h : baseOk o = true) (m : Str) (env : Env) (wh : Sem Value) : attributeBase o m env wh = wh := by
  unfold attributeBase
  split
  · simp [baseOk] at h
  · rfl
/-! ### names of the module -/
/-- what the module's names stand for: constants; built-in names that are free; defs -/
inductive Kc where
  | fn | meth (C m : Str) | prop (C m : Str) | init (C : Str)
  deriving DecidableEq
structure Glb where
  consts : List (Str × At)
  free : List Str
  defs : List Str
  /-- what is no def of the module's own: methods, .. -/
  kinds : List (Str × Kc) := []
  /-- classes; their attributes -/
  cls : List Str := []
  flds : List (Str × Str) := []
def Glb.kind (G : Glb) (x : Str) : Kc := match G.kinds.lookup x with
  | some k => k
  | none => .fn
def seen (sc : Scope) (x : Str) : Bool := match sc.names.lookup x with
  | some .local => true
  | some .cell => true
  | some .free => true
  | _ => false
def isGl (sc : Scope) (x : Str) : Bool := match sc.names.lookup x with
  | some .globalImplicit => true
  | _ => false
def okName (x : Str) : Bool := !(x == ("__debug__" : Str)) && !(x == ("__classdict__" : Str)) && !(x == ("__name__" : Str))
def cstB : At → Const → Bool
  | .non, .none => true
  | .bl b, .bool c => b == c
  | .int i, .int j => decide (i = j)
  | .str x, .str y => decide (x = y)
  | _, _ => false
def bopB : BOp → Operator → Bool
  | .add, .Add => true
  | .sub, .Sub => true
  | .mul, .Mult => true
  | .fdiv, .FloorDiv => true
  | .mod, .Mod => true
  | .pow, .Pow => true
  | _, _ => false
def copB : COp → CmpOp → Bool
  | .lt, .Lt => true
  | .le, .LtE => true
  | .gt, .Gt => true
  | .ge, .GtE => true
  | .eq, .Eq => true
  | .ne, .NotEq => true
  | .is_, .Is => true
  | .isnot, .IsNot => true
  | .in_, .In => true
  | .notin, .NotIn => true
  | _, _ => false
def bltName : Blt → Str
  | .len => "len"
  | .abs => "abs"
  | .int => "int"
  | .bool => "bool"
  | .min => "min"
  | .max => "max"
  | .sum => "sum"
  | .sorted => "sorted"
  | .list => "list"
  | .tuple => "tuple"
  | .all => "all"
  | .any => "any"
  | .repr => "repr"
  | .str => "str"
  | .range => "range"
  | .enumerate => "enumerate"
  | .zip => "zip"
def lmName : Lm → Str
  | .append => "append"
  | .pop => "pop"
  | .popAt => "pop"
  | .insert => "insert"
  | .extend => "extend"
  | .clear => "clear"
  | .reverse => "reverse"
def tyName : Ty → Str
  | .int => "int"
  | .bool => "bool"
  | .str => "str"
  | .list => "list"
  | .tuple => "tuple"
  | .dict => "dict"
  | .own C => C
def tyOk (G : Glb) (t : Ty) (y : Str) : Bool := match t with
  | .own C => decide (C ∈ G.cls)
  | _ => decide (y ∈ G.free)
/-- isinstance(x, T) -/
def xIsi : Expr → Option (Expr × Str)
  | .Call (.Name f _) [x, .Name t _] [] _ => if f == ("isinstance" : Str) then some (x, t) else none
  | _ => none
theorem xIsi_eq {e x : Expr} {t : Str} (h : xIsi e = some (x, t)) : ∃ p q r, e = .Call (.Name "isinstance" p) [x, .Name t q] [] r := by
  unfold xIsi at h
  split at h
  · split at h
    · rename_i hf
      cases h
      obtain rfl := eq_of_beq hf
      exact ⟨_, _, _, rfl⟩
    · cases h
  · cases h
/-! ### the match -/
/-- list(range(x)) -/
def xLrg : Expr → Option Expr
  | .Call (.Name f _) [.Call (.Name r _) [x] [] _] [] _ => if f == ("list" : Str) && r == ("range" : Str) then some x else none
  | _ => none
theorem xLrg_eq {e x : Expr} (h : xLrg e = some x) : ∃ p q r t, e = .Call (.Name "list" p) [.Call (.Name "range" q) [x] [] r] [] t := by
  unfold xLrg at h
  split at h
  · split at h
    · rename_i hf
      cases h
      rw [Bool.and_eq_true] at hf
      obtain rfl := eq_of_beq hf.1
      obtain rfl := eq_of_beq hf.2
      exact ⟨_, _, _, _, rfl⟩
    · cases h
  · cases h
structure Mt where
  ex : Scope → Expr → Bool
  es : Scope → List Expr → Bool
  bo : BoolOp → Scope → List Expr → Bool
  tg : Scope → Scope → Expr → Bool
  tgs : Scope → Scope → List Expr → Bool
  tst : Scope → List Expr → Bool
  prt : Scope → Option Expr → Bool
def Mt.of (f : Scope → Expr → Bool) : Mt where
  ex := fun sc e => plainE e && f sc e
  es := fun _ _ => false
  bo := fun _ sc es => match es with
    | [e] => plainE e && f sc e
    | _ => false
  tg := fun _ _ _ => false
  tgs := fun _ _ _ => false
  tst := fun sc es => match es with
    | [e] => plainE e && f sc e
    | _ => false
  prt := fun sc e => match e with
    | some e => plainE e && f sc e
    | none => false
def slotB (N : List Str) (sc : Scope) (i : Nat) (e : Expr) : Bool := match xName e with
  | some x => decide (N[i]? = some x) && seen sc x && okName x
  | none => false
/-- a name that is stored -/
def locB (N : List Str) (sc : Scope) (i : Nat) (e : Expr) : Bool := match xName e with
  | some x => decide (N[i]? = some x) && (decide (sc.names.lookup x = some .local) || decide (sc.names.lookup x = some .cell)) && okName x
  | none => false
def boolB (o : BoolOp) (A B : Mt) (sc : Scope) (es : List Expr) : Bool := match es with
  | x :: y :: r => A.ex sc x && B.bo o sc (y :: r)
  | _ => false
def sameBo : BoolOp → BoolOp → Bool
  | .And, .And => true
  | .Or, .Or => true
  | _, _ => false
def blkB (N : List Str) (sc scope : Scope) (own : List Nat) : Bool := blkC N sc scope ((own.map fun i => (N.getD i (Str.ofString ""), i))) && own.all fun i => decide (i < N.length)
/-- o.m(..): the places of both on one line -/
def xMeth : Expr → Option (Expr × Str × List Expr × Bool)
  | .Call (.Attribute o m ap) as [] p => some (o, m, as, ap.endLine == p.line)
  | _ => none
theorem xMeth_eq {e o : Expr} {m : Str} {as : List Expr} {b : Bool} (h : xMeth e = some (o, m, as, b)) : ∃ ap p, e = .Call (.Attribute o m ap) as [] p ∧ (ap.endLine == p.line) = b := by
  unfold xMeth at h
  split at h
  · cases h; exact ⟨_, _, rfl, rfl⟩
  · cases h
def isTup : Expr → Bool
  | .Tuple _ _ _ => true
  | _ => false
theorem isTup_eq {e : Expr} (h : isTup e = true) : ∃ es k p, e = .Tuple es k p := by
  cases e <;> first | exact ⟨_, _, _, rfl⟩ | cases h
/-- pairs go to a tuple of names -/
def itOk (it : E) (tg : Expr) : Bool := match it with
  | .blt .enumerate (.cons _ .nil) => isTup tg
  | .blt .zip (.cons _ (.cons _ .nil)) => isTup tg
  | .blt .enumerate _ => false
  | .blt .zip _ => false
  | _ => true
def rngOk (b : Blt) (as : List Expr) : Bool := match b with
  | .range => decide (as.length = 1 ∨ as.length = 2 ∨ as.length = 3)
  | _ => true
/-- names, and tuples of names -/
def namesOnly : E → Bool
  | .var _ => true
  | .tupE es => namesOnly es
  | .nil => true
  | .cons a b => namesOnly a && namesOnly b
  | _ => false
def mt (N : List Str) (G : Glb) : E → Mt
  | .cst a => { Mt.of (fun _ e => match xConst e with
      | some k => cstB a k
      | none => false) with
      prt := fun _ e => match a, e with
        | .non, none => true
        | .non, some _ => false
        | _, some e => plainE e && (match xConst e with
          | some k => cstB a k
          | none => false)
        | _, _ => false }
  | .var i => { Mt.of (fun sc e => slotB N sc i e) with tg := fun st _ e => locB N st i e }
  | .mv i => Mt.of (fun sc e => slotB N sc i e)
  | .glb x a => Mt.of fun sc e => match xName e with
      | some y => decide (y = x) && isGl sc x && okName x && decide ((x, a) ∈ G.consts)
      | none => false
  | .bin o a b => Mt.of fun sc e => match xBin e with
      | some (l, p, r) => bopB o p && (mt N G a).ex sc l && (mt N G b).ex sc r
      | none => false
  | .cmp o a b => Mt.of fun sc e => match xCmp e with
      | some (l, [p], [r]) => copB o p && (mt N G a).ex sc l && (mt N G b).ex sc r
      | _ => false
  | .cmp2 o o' a b c => Mt.of fun sc e => match xCmp e with
      | some (l, [p, p'], [r, r']) => copB o p && copB o' p' && (mt N G a).ex sc l && (mt N G b).ex sc r && (mt N G c).ex sc r'
      | _ => false
  | .neg a => Mt.of fun sc e => match xUn e with
      | some (.USub, x) => (mt N G a).ex sc x
      | _ => false
  | .notE a => Mt.of fun sc e => match xUn e with
      | some (.Not, x) => (mt N G a).ex sc x
      | _ => false
  | .andE a b => { Mt.of (fun sc e => match xBool e with
      | some (.And, es) => boolB .And (mt N G a) (mt N G b) sc es
      | _ => false) with
      bo := fun o sc es => match es with
        | [e] => plainE e && (match xBool e with
          | some (.And, es) => boolB .And (mt N G a) (mt N G b) sc es
          | _ => false)
        | es => sameBo o .And && boolB .And (mt N G a) (mt N G b) sc es }
  | .orE a b => { Mt.of (fun sc e => match xBool e with
      | some (.Or, es) => boolB .Or (mt N G a) (mt N G b) sc es
      | _ => false) with
      bo := fun o sc es => match es with
        | [e] => plainE e && (match xBool e with
          | some (.Or, es) => boolB .Or (mt N G a) (mt N G b) sc es
          | _ => false)
        | es => sameBo o .Or && boolB .Or (mt N G a) (mt N G b) sc es }
  | .ife t a b => Mt.of fun sc e => match xIf e with
      | some (c, l, r) => (mt N G t).ex sc c && (mt N G a).ex sc l && (mt N G b).ex sc r
      | none => false
  | .nil => { Mt.of (fun _ _ => false) with
      es := fun _ es => es.isEmpty
      tgs := fun _ _ es => es.isEmpty
      tst := fun _ es => es.isEmpty }
  | .cons a b => { Mt.of (fun _ _ => false) with
      es := fun sc es => match es with
        | e :: es => (mt N G a).ex sc e && (mt N G b).es sc es
        | [] => false
      tgs := fun st sc es => match es with
        | e :: es => plainE e && (mt N G a).tg st sc e && (mt N G b).tgs st sc es
        | [] => false }
  | .tupE es => { Mt.of (fun sc e => match xTup e with
      | some l => (mt N G es).es sc l
      | none => false) with
      tg := fun st sc e => match xTup e with
        | some l => (mt N G es).tgs st sc l
        | none => false }
  | .lstE es => Mt.of fun sc e => match xLst e with
      | some l => (mt N G es).es sc l
      | none => false
  | .idx a j => { Mt.of (fun sc e => match xSub e with
      | some (l, r) => (mt N G a).ex sc l && (mt N G j).ex sc r
      | none => false) with
      tg := fun _ sc e => match xSub e with
        | some (l, r) => plainE r &&  (mt N G a).ex sc l && (mt N G j).ex sc r
        | none => false }
  | .slc a lo hi => Mt.of fun sc e => match xSub e with
      | some (l, r) => (match xSlice r with
        | some (u, v, none) => (mt N G a).ex sc l && (mt N G lo).prt sc u && (mt N G hi).prt sc v
        | _ => false)
      | none => false
  | .rev a => Mt.of fun sc e => match xSub e with
      | some (l, r) => (match xSlice r with
        | some (none, none, some s) => (match xUn s with
          | some (.USub, k) => (match xConst k with
            | some (.int i) => decide (i = 1) && (mt N G a).ex sc l
            | _ => false)
          | _ => false)
        | _ => false)
      | none => false
  | .call f es => Mt.of fun sc e => match xCall e with
      | some (n, as, []) => (match xName n with
        | some x => decide (x = f) && isGl sc x && okName x && decide (x ∈ G.defs) && decide (G.kind x = .fn) && (mt N G es).es sc as
        | none => false)
      | _ => false
  | .blt b es => Mt.of fun sc e => match xCall e with
      | some (n, as, []) => (match xName n with
        | some x => rngOk b as && decide (x = bltName b) && isGl sc x && okName x && decide (x ∈ G.free) && (mt N G es).es sc as
        | none => false)
      | _ => false
  | .lm m a es => Mt.of fun sc e => match xMeth e with
      | some (o, x, as, ln) => decide (x = lmName m) && ln && decide (as.length < 29) && baseOk o && (mt N G a).ex sc o && (mt N G es).es sc as
      | none => false
  | .lrg a => Mt.of fun sc e => match xLrg e with
      | some x => isGl sc "list" && isGl sc "range" && decide (("list" : Str) ∈ G.free) && decide (("range" : Str) ∈ G.free) && (mt N G a).ex sc x
      | none => false
  | .idxOf a j => Mt.of fun sc e => match xMeth e with
      | some (o, m, [x], ln) => decide (m = ("index" : Str)) && ln && baseOk o && plainE x && (mt N G a).ex sc o && (mt N G j).ex sc x
      | _ => false
  | .comp elt tg it tst own => Mt.of fun sc e => match xComp e with
      | some (x, [⟨t, i, ifs, 0⟩], scope) => blkB N sc scope own && (mt N G it).ex sc i && (mt N G tg).tg scope (relS scope sc) t && namesOnly tg && itOk it t && (mt N G tst).tst (relS scope sc) ifs && (mt N G elt).ex (relS scope sc) x
          && (asgE tg).all fun i => own.contains i
      | _ => false
  | .comp2 elt tg it tst tg1 it1 tst1 own own1 => Mt.of fun sc e => match xComp e with
      | some (x, [⟨t, i, ifs, 0⟩, ⟨t1, i1, ifs1, 0⟩], scope) => blkB N sc scope own && (mt N G it).ex sc i && (mt N G tg).tg scope (relS scope sc) t && namesOnly tg && itOk it t && (mt N G tst).tst (relS scope sc) ifs && (mt N G elt).ex (relS scope sc) x
          && ((asgE tg).all fun i => own.contains i) && (mt N G it1).ex (relS scope sc) i1 && (mt N G tg1).tg scope (relS scope sc) t1 && namesOnly tg1 && itOk it1 t1 && (mt N G tst1).tst (relS scope sc) ifs1 && ((asgE tg1).all fun i => own1.contains i) && own1.all fun i => own.contains i
      | _ => false
  | .frz a => Mt.of fun sc e => (mt N G a).ex sc e
  | .fld C f a => Mt.of fun sc e => match xAttr e with
      | some (o, m) => decide (m = f) && baseOk o && decide (C ∈ G.cls) && decide ((C, f) ∈ G.flds) && (mt N G a).ex sc o
      | none => false
  | .prop x C f a => Mt.of fun sc e => match xAttr e with
      | some (o, m) => decide (m = f) && baseOk o && decide (x ∈ G.defs) && decide (G.kind x = .prop C f) && (mt N G a).ex sc o
      | none => false
  | .meth x C m a es => Mt.of fun sc e => match xMeth e with
      | some (o, y, as, ln) => decide (y = m) && ln && decide (as.length < 29) && baseOk o && decide (x ∈ G.defs) && decide (G.kind x = .meth C m) && (mt N G a).ex sc o && (mt N G es).es sc as
      | none => false
  | .make x C es => Mt.of fun sc e => match xCall e with
      | some (n, as, []) => (match xName n with
        | some y => decide (y = C) && isGl sc y && okName y && decide (x ∈ G.defs) && decide (G.kind x = .init C) && (mt N G es).es sc as
        | none => false)
      | _ => false
  | .isi t a => Mt.of fun sc e => match xIsi e with
      | some (o, y) => decide (y = tyName t) && plainE o && isGl sc "isinstance" && decide (("isinstance" : Str) ∈ G.free) && isGl sc y && okName y && tyOk G t y && (mt N G a).ex sc o
      | none => false
  | .never => Mt.of fun _ _ => false
end Bm

set_option maxHeartbeats 1000000
/-! B4: calls; what is known where a text runs. -/
namespace Bm
open PySem PySem.Spec PyProof.Rows L2
variable [TheK]
/-- room for k calls, and nothing is being shown -/
structure Rm (k : Nat) (A : Around) : Prop where
  room : Room k A
  grd : A.guards = some []
theorem Rm.mono {j k : Nat} {A : Around} (r : Rm k A) (h : j ≤ k) : Rm j A := ⟨r.room.mono h, r.grd⟩
theorem Rm.deeper {k : Nat} {A : Around} (r : Rm (k + 1) A) (env : Env) : Rm k (A.deeper env) := ⟨r.room.deeper env, r.grd⟩
/-- as FnOk; the caller shows nothing while it calls -/
structure FnG (P : Program) (w : World) (K : PySem.W.Frag) (mg : Str → Option Value) (base : Heap) (CX : CXT) (k : Nat) (f : Addr) (fd : FuncData) (ps : List Str) (sp : Sp) : Prop where
  len : ∀ vs H Q E, sp vs H Q E → vs.length = ps.length
  run : ∀ (A : Around) (out : List Env) (s : Shared) (H : Hp) (args : Args) (us : List Value) (vs : List V) (Q : VK) (E : XK), Rm k A → Env0 P w K mg base A out s H →
    BindsTo s fd args (ps.zip us) → Vals vs us → sp vs H Q E → codeAny (model P w) A (.call (.ref f) args) (CR CX out P w H s Q E) s
section
variable {P : Program} {w : World} {K : PySem.W.Frag} {mg : Str → Option Value} {base : Heap} {CX : CXT} {k : Nat} {f : Addr}
/-- a def of the text, by its body -/
theorem FnG.of {fd : FuncData} {x qual : Str} {params : Arguments} {body : List Stmt} {scope : Scope} {dvs : List V} {kws : List (Str × V)} {N ps : List Str} {sp : Sp}
    (F : FunD K x qual params body scope dvs kws f fd) (S : FnScope N ps scope) (len : ∀ vs H Q E, sp vs H Q E → vs.length = ps.length)
    (hb : ∀ (cdv : Value) (A : Around) (out : List Env) (s : Shared) (H : Hp) (vs : List V) (Q : VK) (E : XK), Rm k (A.deeper (envOfC qual scope s.heap.objs.size f cdv)) → sp vs H Q E →
      ∃ t, PSs (cxOf CX P w K mg base N qual scope f cdv A out s H E) body t ∧ t { nx := fun _ H' => Q .non H', rt := Q } (start N vs) H) :
    FnG P w K mg base CX (k + 1) f fd ps sp := by
  obtain ⟨oc, od, dV, kV, doc, pm, an, cdv, ct, osl, hfd, lk, code, _, _⟩ := F.ex
  subst hfd
  constructor
  · exact len
  · intro A out s H args us vs Q E rm e0 bnd rel want
    have inK : K.In s.heap := e0.mod.kin.keeps (fun b o q => (e0.bs b o q).1)
    have cells : ∀ y ∈ ps.zip us, scope.names.lookup y.1 = some .local ∨
        (scope.names.lookup y.1 = some .cell ∧ ((cellsFrom (s.heap.objs.size + 1) scope.names []).lookup y.1).isSome = true) := by
      intro y hy
      have hp : y.1 ∈ ps := (List.of_mem_zip (a := y.1) (b := y.2) hy).1
      cases S.par y.1 hp with
      | inl q => exact .inl q
      | inr q => exact .inr ⟨q, PySem.W.cellsFrom_some _ _ _ (.inl q)⟩
    apply codeAny_call_function rm.room.depth (inK _ _ lk) rfl S.co S.gen rfl (PySem.W.codeRec_of inK code)
    apply bnd
    apply wpAny_newFunctionEnv_cells S.kind cells
    intro env he s1 hx
    subst he
    refine ⟨(e0.mod.nolimit.keeps (fun b o q => (e0.bs b o q).1)).keeps hx.toInCall.keep, codeAny_func ?_⟩
    obtain ⟨t, run, now⟩ := hb cdv A out s H vs Q E (rm.deeper _) want
    have I0 := inv_start (CX := CX) (cd := cdv) (f := f) (qual := qual) (E := E) S rm.room.hd e0 (len _ _ _ _ want) rel hx
    refine wpAny_mono (run.run [] s1 _ H _ I0 now) ?_ (fun _ _ z => z)
    intro fl s2 post
    cases fl with
    | brk => exact (post.elim fun _ z => z.elim fun _ z => z.2).elim
    | cont => exact (post.elim fun _ z => z.elim fun _ z => z.2).elim
    | next =>
      obtain ⟨σ2, H2, J, z⟩ := post
      exact ⟨.non, H2, J.os, J.bare, J.base, J.hok, rfl, z⟩
    | ret u =>
      obtain ⟨v, σ2, H2, J, r, z⟩ := post
      exact ⟨v, H2, J.os, J.bare, J.base, J.hok, r, z⟩
variable {X : Cx} {fd : FuncData} {ps : List Str} {sp : Sp} {dvs : List V} {ds : List Value} {E : XK}
theorem run_g {pins : List (Addr × Obj)} {σ : L2.St} {H : Hp} {s : Shared} {Q : VK} {us : List Value} {vs : List V} (F : FnG X.prog X.w X.K X.mg X.base CX k f fd ps sp) (hr : Rm k X.A) (hb : Binds X.K fd ps ds)
    (hd : Vals dvs ds) (hx : Passes CX X E) (I : Inv X pins σ H s) (r : Vals vs us) (h : sp (vs ++ dvs) H Q E) : wpAny (model X.prog X.w) X.A (call (.ref f) us) (EP X pins σ Q) X.xe s := by
  have rr := r.append hd
  have ll : (us ++ ds).length = ps.length := (rr.length.symm.trans (F.len _ _ _ _ h))
  refine wpAny_call (codeAny_mono (F.run X.A X.stack s H _ _ _ Q E hr I.env0 (hb s us I.kIn ll) rr h) ?_)
  intro res s' got
  match res, got with
  | .error e, got => exact hx pins σ H s e s' I got
  | .ok (.ret u), got => exact I.after got
theorem any_plain {env : Env} {pos : Pos} : ∀ {es : List Expr}, (∀ e ∈ es, plainE e = true) → (backTo pos (starEach es env)).any (·.1) = false
  | [], _ => rfl
  | e :: es, hp => by
    rw [plain_star (hp e (by simp))]
    exact any_plain (es := es) fun y hy => hp y (by simp [hy])
/-- f(e, ..) -/
theorem peG_call {x : Str} {p pos : Pos} {e : Expr} {es : List Expr} {t : TA} (F : FnG X.prog X.w X.K X.mg X.base CX k f fd ps sp) (hr : Rm k X.A) (hg : Gl X x) (hm : X.mg x = some (.ref f))
    (hk : PySem.W.keepIn X.K (.ref f) = true) (hb : Binds X.K fd ps ds) (hd : Vals dvs ds) (hx : Passes CX X E) (ha : PA X (e :: es) t) (hdb : (x == ("__debug__" : Str)) = false)
    (hpl : ∀ y ∈ e :: es, plainE y = true) : PE X (.Call (.Name x p) (e :: es) [] pos) (tCall sp dvs E t) := by
  constructor
  intro pins s σ H Q I h
  refine wpAny_Call_Name_kw (ld_glob I hg hm (PySem.W.callWith_K (h₀ := X.base) I.ok.mod.kin hk ?_ (plain_star (hpl e (by simp)) _ _) (any_plain fun y hy => hpl y (by simp [hy]))) hdb)
  refine thn (ha.run pos pins s σ H _ I h) ?_
  rintro us s1 ⟨vs, H1, I1, r, q⟩
  exact ⟨I1.kIn, run_g F hr hb hd hx I1 r q⟩
theorem peG_call0 {x : Str} {p pos : Pos} (F : FnG X.prog X.w X.K X.mg X.base CX k f fd ps sp) (hr : Rm k X.A) (hg : Gl X x) (hm : X.mg x = some (.ref f))
    (hk : PySem.W.keepIn X.K (.ref f) = true) (hb : Binds X.K fd ps ds) (hd : Vals dvs ds) (hx : Passes CX X E) (hdb : (x == ("__debug__" : Str)) = false) :
    PE X (.Call (.Name x p) [] [] pos) (tCall sp dvs E tNil) := by
  constructor
  intro pins s σ H Q I h
  exact wpAny_Call_Name_kw (ld_glob I hg hm (PySem.W.callWith_K0 I.kIn hk (run_g (us := []) F hr hb hd hx I .nil h)) hdb)
end
end Bm

set_option maxHeartbeats 1000000
/-! B5: what is to be shown of a text. -/
namespace Bm
open PySem PySem.Spec PyProof.Rows L2
variable [TheK]
abbrev Sg := L2.St
/-- values of their own, one for each -/
structure RepA (H : Hp) (Z : AS) (ds : List D) (vs : List V) (O : AS) : Prop where
  len : ds.length = vs.length
  rep : ∃ F : Nat → AS, (∀ i b, F i b → O b) ∧ (∀ i j b, F i b → F j b → i = j) ∧ ∀ i d v, ds[i]? = some d → vs[i]? = some v → Rep H Z d v (F i)
/-- an exception as it flies -/
def ExAt (mg : Str → Option Value) (e : Ex) (cls : Value) (dd : Option Addr) (H : Hp) (Z R : AS) : Prop :=
  ∃ (ca d : Addr) (fs : List (Str × V)), mg e.cls = some (.ref ca) ∧ cls = .ref ca ∧ dd = some d ∧ H d = some (.xd fs) ∧ RepA H Z e.fs (fs.map (·.2)) R
/-- what a def promises: what its text gives -/
def spD (mg : Str → Option Value) (F : List D → CRes) : Sp := fun vs H Q E => ∃ Z ds O, ZOk H Z ∧ (∀ b, O b → Z b) ∧ RepA H Z ds vs O ∧
  match F ds with
  | .ok d ds' => ∀ v H' Z' O' R, ZOk H' Z' → Ext O H Z H' Z' → (∀ b, O' b → Z' b ∧ (O b ∨ H b = none)) → RepA H' Z' ds' vs O' → Rep H' Z' d v R → (∀ b, R b → Z' b ∧ ¬ O' b ∧ (O b ∨ H b = none)) → Q v H'
  | .ex e ds' => ∀ cls dd H' Z' O' R, ZOk H' Z' → Ext O H Z H' Z' → (∀ b, O' b → Z' b ∧ (O b ∨ H b = none)) → RepA H' Z' ds' vs O' → ExAt mg e cls dd H' Z' R → (∀ b, R b → Z' b ∧ ¬ O' b ∧ (O b ∨ H b = none)) → E cls dd H'
  | .no => False
/-- where the def x stands -/
def Found (mg : Str → Option Value) (K : PySem.W.Frag) (x : Str) (fa : Addr) : Kc → Prop
  | .fn => mg x = some (.ref fa) ∧ PySem.W.keepIn K (.ref fa) = true
  | .meth C m => Cls K (He.ga K C) ∧ Meth K (He.ga K C) m fa
  | .prop C m => Cls K (He.ga K C) ∧ ∃ p, PropOf K (He.ga K C) m p fa
  | .init C => mg C = some (.ref (He.ga K C)) ∧ Mk K (He.ga K C) fa
/-- a def that keeps it -/
def Callee (X : Cx) (F : List D → CRes) (x : Str) (kd : Kc) : Prop :=
  ∃ (k : Nat) (fa : Addr) (fd : FuncData) (ps : List Str), Found X.mg X.K x fa kd ∧
    FnG X.prog X.w X.K X.mg X.base (CX X.prog X.w) k fa fd ps (spD X.mg F) ∧ Rm (k + 1) X.A ∧ Binds X.K fd ps []
/-- types of values that are asked for -/
def tyNames : List String := ["NoneType", "bool", "int", "str", "list", "tuple"]
def tyAsked : List String := ["int", "bool", "str", "list", "tuple", "dict"]
/-- an own class whose instances are told from all else -/
structure IsiOk (K : PySem.W.Frag) (a : Addr) : Prop where
  other : ∀ n, n ∈ tyNames → PySem.W.kitOne K (.type n) (.ref a) = some false
  self : PySem.W.kitOne K (.ref a) (.ref a) = some true
  ha : PySem.W.findIn K (.ref a) "__class__" = some (some (.builtin "object.__class__"))
  hn : PySem.W.specialIn K (.builtin "object.__class__") "__get__" = some (some (.builtin "getset_descriptor.__get__"))
  htk : PySem.W.takesIn K (.builtin "object.__class__") = some true
  hm : PySem.W.mroIn K a (.type "object") = some true
structure ClsOk (mg : Str → Option Value) (K : PySem.W.Frag) (C : Str) : Prop where
  mg : mg C = some (.ref (He.ga K C))
  cls : Cls K (He.ga K C)
  isi : IsiOk K (He.ga K C)
/-- where a text runs -/
structure Good (c : Str → List D → CRes) (G : Glb) (N : List Str) (X : Cx) (W : WX) : Prop where
  hN : X.N = N
  nd : N.Nodup
  calm : X.calm = true
  consts : ∀ x a, (x, a) ∈ G.consts → ∃ u, X.mg x = some u ∧ RelV a.v u
  free : ∀ x, x ∈ G.free → X.mg x = none
  units : X.A.units + 200 < cLine
  grd : X.A.guards = some []
  hd : X.A.handled = none
  defs : ∀ x, x ∈ G.defs → Callee X (c x) x (G.kind x)
  cls : ∀ C, C ∈ G.cls → ClsOk X.mg X.K C
  flds : ∀ C f, (C, f) ∈ G.flds → NoAttr X.K (He.ga X.K C) f
  fk : X.env.scope.kind = .function
  tk : Takes X W
  kk : X.K = TheK.K
/-- a result, or an exception that is wished -/
def PR {α : Type} (xp : Ex → List D → Prop) (r : R α) (K : α → List D → Prop) : Prop := match r with
  | .ok a g => K a g
  | .ex e g => xp e g
  | .no => False
theorem PR.bind {α β : Type} {xp : Ex → List D → Prop} {r : R α} {f : α → List D → R β} {K : β → List D → Prop} (h : PR xp (r.bind f) K) : PR xp r fun a g => PR xp (f a g) K := by
  cases r with
  | ok a g => exact h
  | ex e g => exact h
  | no => exact h
theorem PR.mono {α : Type} {xp xp' : Ex → List D → Prop} {r : R α} {K K' : α → List D → Prop} (h : PR xp r K) (hx : ∀ e g, xp e g → xp' e g) (hk : ∀ a g, r = .ok a g → K a g → K' a g) : PR xp' r K' := by
  cases r with
  | ok a g => exact hk a g rfl h
  | ex e g => exact hx e g h
  | no => exact h
theorem PR.ofO {α : Type} {xp : Ex → List D → Prop} {o : Option α} {g : List D} {K : α → List D → Prop} (h : PR xp (ofO o g) K) : ∃ a, o = some a ∧ K a g := by
  cases o with
  | none => exact h.elim
  | some a => exact ⟨a, rfl, h⟩
def Xp (X : Cx) (W : WX) (σ : Sg) (H : Hp) (Z O : AS) (e : Ex) (g : List D) : Prop := ∀ cls dd H' Z' O' R, Out (Wq false O) H Z O σ g H' Z' O' → ExAt X.mg e cls dd H' Z' R →
  (∀ b, R b → Z' b ∧ ¬ O' b ∧ (O b ∨ H b = none)) → W cls dd σ H'
/-- new or owned before, seen from an earlier state -/
theorem Out.bnd' {W : AS} {H H' : Hp} {Z O Z' O' : AS} {σ : Sg} {g : List D} (o : Out W H Z O σ g H' Z' O') (w : ∀ b, W b → O b) {b : Addr} (h : O' b ∨ H' b = none) : O b ∨ H b = none := by
  rcases h with h | h
  · exact o.bnd b h
  · cases e : H b with
    | none => exact .inr rfl
    | some u =>
      by_cases hw : W b
      · exact .inl (w b hw)
      · rw [o.ext.same b u e hw] at h
        cases h
theorem Xp.step {X : Cx} {W : WX} {σ : Sg} {H H1 : Hp} {Z O Z1 O1 : AS} {g1 g : List D} {q : Bool} {e : Ex} (s : Sit H Z σ g O) (o : Out (Wq q O) H Z O σ g1 H1 Z1 O1) {g' : List D} (h : Xp X W σ H Z O e g') : Xp X W σ H1 Z1 O1 e g' :=
  fun cls dd H' Z' O' R o' x hr => h cls dd H' Z' O' R (o.trans s.zok s.oz o' (fun _ => rfl) fun _ => rfl) x fun b hb => ⟨(hr b hb).1, (hr b hb).2.1, o.bnd' (fun _ z => z.2) (hr b hb).2.2⟩
/-- a value x that has come: v stands for it, R is what it owns -/
structure Val (H : Hp) (O : AS) (H' : Hp) (Z' O' : AS) (σ : Sg) (m : E) (x : VD) (v : V) (R : AS) : Prop where
  rep : Rep H' Z' x.1 v R
  rz : ∀ b, R b → Z' b
  own : x.2 = false → ∀ b, R b → ¬ O' b ∧ (O b ∨ H b = none)
  isv : ∀ i, m = .var i → σ[i]? = some (some v)
def SndV (c : Str → List D → CRes) (X : Cx) (W : WX) (m : E) (e : Expr) : Prop := ∃ t, PE X e t ∧ ∀ σ H Z g O Q, Sit H Z σ g O →
  PR (Xp X W σ H Z O) ((den c m).val g) (fun x g' => ∀ v H' Z' O' R, Out (Wq (quiet m) O) H Z O σ g' H' Z' O' → Val H O H' Z' O' σ m x v R → Q v H') → t σ H Q
def SndT (c : Str → List D → CRes) (X : Cx) (W : WX) (m : E) (e : Expr) : Prop := ∃ t, PT X e t ∧ ∀ σ H Z g O Q, Sit H Z σ g O →
  PR (Xp X W σ H Z O) ((den c m).tst g) (fun b g' => ∀ H' Z' O', Out (Wq (quiet m) O) H Z O σ g' H' Z' O' → Q b H') → t σ H Q
/-- values that have come, one after another -/
structure Vls (H : Hp) (O : AS) (H' : Hp) (Z' O' : AS) (xs : List VD) (vs : List V) (F : Nat → AS) : Prop where
  len : xs.length = vs.length
  dj : ∀ i j b, F i b → F j b → i = j
  fz : ∀ i b, F i b → Z' b ∧ ¬ O' b ∧ (O b ∨ H b = none)
  rep : ∀ i x v, xs[i]? = some x → vs[i]? = some v → if x.2 = false then Rep H' Z' x.1 v (F i) else ∃ R, (∀ b, R b → Z' b) ∧ Rep H' Z' x.1 v R
def SndL (c : Str → List D → CRes) (X : Cx) (W : WX) (m : E) (es : List Expr) : Prop := ∃ t, PA X es t ∧ ∀ σ H Z g O Q, Sit H Z σ g O →
  PR (Xp X W σ H Z O) ((den c m).lst g) (fun xs g' => ∀ vs H' Z' O' F, Out (Wq (quiet m) O) H Z O σ g' H' Z' O' → Vls H O H' Z' O' xs vs F → Q vs H') → t σ H Q
/-- v' stands at the path p below v -/
inductive VAt (H : Hp) : V → D → List Nat → V → Prop
  | nil (v : V) (d : D) : VAt H v d [] v
  | lst (a : Addr) (vs : List V) (xs : List D) (n : Nat) (p : List Nat) (x : D) (u v' : V) : H a = some (.lst vs) → xs[n]? = some x → vs[n]? = some u → VAt H u x p v' → VAt H (.ref a) (.nd (.lst true) xs) (n :: p) v'
  | tup (a : Addr) (vs : List V) (xs : List D) (n : Nat) (p : List Nat) (x : D) (u v' : V) : H a = some (.tup vs) → xs[n]? = some x → vs[n]? = some u → VAt H u x p v' → VAt H (.ref a) (.nd .tup xs) (n :: p) v'
def PAt (H : Hp) (σ : Sg) (g : List D) (i : Nat) (p : List Nat) (v : V) : Prop := ∃ v0, σ[i]? = some (some v0) ∧ (p = [] → v = v0) ∧ ∀ d, g[i]? = some d → VAt H v0 d p v
def SndP (c : Str → List D → CRes) (X : Cx) (W : WX) (m : E) (e : Expr) : Prop := ∃ t, PE X e t ∧ ∀ σ H Z g O Q, Sit H Z σ g O →
  PR (Xp X W σ H Z O) ((den c m).plc g) (fun q g' => ∀ v H' Z' O', Out (Wq (quiet m) O) H Z O σ g' H' Z' O' → PAt H' σ g' q.1 q.2 v → (isVar m = true → q.2 = []) → Q v H') → t σ H Q
/-- an argument that has come -/
def ArgAt (H' : Hp) (Z' : AS) (σ : Sg) (a : Arg) (v : V) (R : AS) : Prop := match a with
  | .v d => Rep H' Z' d v R
  | .r i => σ[i]? = some (some v)
structure ArgR (H : Hp) (O : AS) (H' : Hp) (Z' O' : AS) (σ : Sg) (a : Arg) (v : V) (R : AS) : Prop where
  z : ∀ b, R b → Z' b ∧ ¬ O' b ∧ (O b ∨ H b = none)
  r : ArgAt H' Z' σ a v R
def SndOne (c : Str → List D → CRes) (X : Cx) (W : WX) (m : E) (e : Expr) : Prop := ∃ t, PE X e t ∧ ∀ σ H Z g O Q, Sit H Z σ g O →
  PR (Xp X W σ H Z O) ((den c m).one g) (fun a g' => ∀ v H' Z' O' R, Out (Wq (quiet m) O) H Z O σ g' H' Z' O' → ArgR H O H' Z' O' σ a v R → Q v H') → t σ H Q
structure ArgsR (H : Hp) (O : AS) (H' : Hp) (Z' O' : AS) (σ : Sg) (as : List Arg) (vs : List V) (F : Nat → AS) : Prop where
  len : as.length = vs.length
  dj : ∀ i j b, F i b → F j b → i = j
  fz : ∀ i b, F i b → Z' b ∧ ¬ O' b ∧ (O b ∨ H b = none)
  at_ : ∀ i a v, as[i]? = some a → vs[i]? = some v → ArgAt H' Z' σ a v (F i)
def SndA (c : Str → List D → CRes) (X : Cx) (W : WX) (m : E) (es : List Expr) : Prop := ∃ t, PA X es t ∧ ∀ σ H Z g O Q, Sit H Z σ g O →
  PR (Xp X W σ H Z O) ((den c m).arg g) (fun as g' => ∀ vs H' Z' O' F, Out (Wq (quiet m) O) H Z O σ g' H' Z' O' → ArgsR H O H' Z' O' σ as vs F → Q vs H') → t σ H Q
end Bm

set_option maxHeartbeats 1000000
/-! B6: operators. -/
namespace Bm
open PySem PySem.Spec PyProof.Rows L2
variable [TheK]

/-! ### the parts of a value -/
section
variable {H : Hp} {Z : AS} {xs : List D} {vs : List V} {v : V} {R : AS} {m : Bool}
theorem RepA.mono {R' : AS} (h : RepA H Z xs vs R) (s : ∀ b, R b → R' b) : RepA H Z xs vs R' := by
  obtain ⟨l, F, f1, f2, r⟩ := h
  exact ⟨l, F, fun i b q => s b (f1 i b q), f2, r⟩
theorem RepA.pers (h : RepA H Z xs vs R) (p : persL xs = true) : RepA H Z xs vs none_ := by
  obtain ⟨l, F, f1, f2, r⟩ := h
  exact ⟨l, fun _ => none_, fun _ _ q => q, fun _ _ _ q => q.elim, fun i d v e e' => (r i d v e e').pers (persL_mem p e)⟩
theorem RepA.ext {W : AS} {H' : Hp} {Z' : AS} (h : RepA H Z xs vs R) (zk : ZOk H Z) (e : Ext W H Z H' Z') (dj : ∀ b, R b → ¬ W b) : RepA H' Z' xs vs R := by
  obtain ⟨l, F, f1, f2, r⟩ := h
  exact ⟨l, F, f1, f2, fun i d v e1 e2 => (r i d v e1 e2).ext zk e fun b q => dj b (f1 i b q)⟩
theorem rep_at {a : At} (h : Rep H Z (.at a) v R) : v = a.v := by cases h; rfl
theorem rep_lst (h : Rep H Z (.nd (.lst m) xs) v R) : ∃ a vs, v = .ref a ∧ H a = some (.lst vs) ∧ RepA H Z xs vs R ∧ (m = true → R a) ∧ (m = false → ¬ Z a) := by
  cases h with
  | nd _ _ a vs _ F n l f1 f2 r =>
    refine ⟨a, vs, rfl, ?_, ⟨l, F, fun i b q => subO_sub (f1 i b q), f2, r⟩, ?_, ?_⟩
    · cases m with
      | true => exact n.1
      | false => exact n.1
    · rintro rfl; exact n.2
    · rintro rfl; exact n.2
theorem rep_tup (h : Rep H Z (.nd .tup xs) v R) : ∃ a vs, v = .ref a ∧ H a = some (.tup vs) ∧ RepA H Z xs vs R := by
  cases h with
  | nd _ _ a vs _ F n l f1 f2 r => exact ⟨a, vs, rfl, n, ⟨l, F, f1, f2, r⟩⟩
theorem rep_scr (h : Rep H Z (.nd .scr xs) v R) : ∃ a vs, v = .ref a ∧ SqL TheK.K H a vs ∧ RepA H Z xs vs none_ := by
  cases h with
  | nd _ _ a vs _ F n l f1 f2 r =>
    refine ⟨a, vs, rfl, ?_, ⟨l, F, fun i b q => f1 i b q, f2, r⟩⟩
    rcases n with ⟨o, n⟩ | n
    · exact .inl (.inr ⟨o, n⟩)
    · exact .inr n
theorem RepA.get {i : Nat} {d : D} (h : RepA H Z xs vs R) (e : xs[i]? = some d) : ∃ v, vs[i]? = some v ∧ Rep H Z d v R := by
  obtain ⟨l, F, f1, f2, r⟩ := h
  have hi : i < vs.length := by rw [← l]; exact (List.getElem?_eq_some_iff.mp e).1
  exact ⟨vs[i], by simp [hi], (r i d _ e (by simp [hi])).mono (f1 i)⟩
end
/-! ### new objects -/
section
variable {H : Hp} {Z : AS} {xs : List D} {vs : List V} {p : Addr} {R : AS}
def Zn (Z : AS) (p : Addr) : AS := fun b => Z b ∨ b = p
theorem ext_new {o : HO} (hp : H p = none) : Ext none_ H Z (upd H p o) Z := ⟨fun _ z => z.elim, fun a u q _ => by rw [upd_ne (ne_of_none q hp)]; exact q, fun _ z => .inl z, fun _ z _ => z⟩
theorem ext_newO {o : HO} (hp : H p = none) : Ext none_ H Z (upd H p o) (Zn Z p) :=
  ⟨fun _ z => z.elim, fun a u q _ => by rw [upd_ne (ne_of_none q hp)]; exact q, fun a z => z.elim .inl fun e => .inr (by rw [e]; exact hp), fun _ z _ => .inl z⟩
theorem zok_new {o : HO} (zk : ZOk H Z) (hp : H p = none) : ZOk (upd H p o) Z := fun a z => by
  obtain ⟨u, q, m⟩ := zk a z
  exact ⟨u, by rw [upd_ne (ne_of_none q hp)]; exact q, m⟩
theorem zok_newO {o : HO} (zk : ZOk H Z) (hp : H p = none) (mu : Mut (some o)) : ZOk (upd H p o) (Zn Z p) := fun a z => by
  by_cases e : a = p
  · subst e
    exact ⟨o, upd_same, mu⟩
  · exact zok_new zk hp a (z.elim id fun q => absurd q e)
theorem not_Z (zk : ZOk H Z) (hp : H p = none) : ¬ Z p := fun z => by
  obtain ⟨u, q, _⟩ := zk p z
  rw [hp] at q; cases q
theorem new_lst (zk : ZOk H Z) (h : RepA H Z xs vs R) (hR : ∀ b, R b → Z b) (hp : H p = none) : Rep (upd H p (.lst vs)) (Zn Z p) (.nd (.lst true) xs) (.ref p) (fun b => b = p ∨ R b) := by
  obtain ⟨l, F, f1, f2, r⟩ := h.ext zk (ext_newO (o := .lst vs) hp) fun _ _ q => q
  refine .nd _ _ _ vs _ F ⟨upd_same, .inl rfl⟩ l (fun i b q => ⟨.inr (f1 i b q), fun e => not_Z zk hp (by rw [← e]; exact hR b (f1 i b q))⟩) f2 r
theorem new_tup (zk : ZOk H Z) (h : RepA H Z xs vs R) (hp : H p = none) : Rep (upd H p (.tup vs)) Z (.nd .tup xs) (.ref p) R := by
  obtain ⟨l, F, f1, f2, r⟩ := h.ext zk (ext_new (o := .tup vs) hp) fun _ _ q => q
  exact .nd _ _ _ vs _ F upd_same l f1 f2 r
end
/-! ### as data -/
theorem rep_dp {K : PySem.W.Frag} {H : Hp} {Z : AS} : ∀ {d : D} {v : V} {R : AS}, Rep H Z d v R → d.isP = true → Dp K H v d.toP := by
  intro d v R h
  induction h with
  | dead v O => intro p; simp [D.isP] at p
  | «at» a O =>
    intro _
    cases a with
    | non => simp only [D.toP]; exact .non
    | bl b => simp only [D.toP]; exact .bl b
    | int i => simp only [D.toP]; exact .int i
    | str x => simp only [D.toP]; exact .str x
  | nd k xs a vs O F n l f1 f2 r ih =>
    intro p
    have all : isPL xs = true → ∀ (xs : List D) (vs : List V), xs.length = vs.length → (∀ (i : Nat) (x : D) (v : V), xs[i]? = some x → vs[i]? = some v → Dp K H v x.toP) → DpAll K H vs (toPL xs) := fun _ xs => by
      induction xs with
      | nil =>
        intro vs e _
        cases vs with
        | nil => simp only [toPL]; exact .nil
        | cons _ _ => simp at e
      | cons x xs ih =>
        intro vs e q
        cases vs with
        | nil => simp at e
        | cons v vs =>
          simp only [toPL]
          exact .cons (q 0 x v rfl rfl) (ih vs (by simpa using e) fun i y u e1 e2 => q (i + 1) y u (by simpa using e1) (by simpa using e2))
    have mem : isPL xs = true → ∀ (i : Nat) (x : D) (v : V), xs[i]? = some x → vs[i]? = some v → Dp K H v x.toP := fun hp i x v e1 e2 => ih i x v e1 e2 (by
      rw [isPL_eq] at hp
      exact List.all_eq_true.mp hp x (List.mem_of_getElem? e1))
    cases k with
    | tup =>
      have hp : isPL xs = true := by simpa [D.isP] using p
      simp only [D.toP]
      exact .tup (SqT.of n) (all hp xs vs l (mem hp))
    | lst m =>
      have hp : isPL xs = true := by simpa [D.isP] using p
      simp only [D.toP]
      refine .lst (SqL.of ?_) (all hp xs vs l (mem hp))
      cases m with
      | true => exact n.1
      | false => exact n.1
    | scr => cases p
    | ins m C fs => cases p
/-! ### operators of two values -/
/-- r holds wherever f has a value, of the value -/
def OpOk (r : R2) (f : VD → VD → Option VD) : Prop := ∀ (H : Hp) (Z : AS) (x y z : VD) (v u : V) (R1 R2 : AS) (Q : VK), ZOk H Z → Rep H Z x.1 v R1 → (∀ b, R1 b → Z b) → Rep H Z y.1 u R2 → (∀ b, R2 b → Z b) →
  f x y = some z → (∀ w H' Z' R, ZOk H' Z' → Ext none_ H Z H' Z' → Rep H' Z' z.1 w R → (∀ b, R b → Z' b) → (z.2 = false → ∀ b, R b → (x.2 = false ∧ R1 b) ∨ (y.2 = false ∧ R2 b) ∨ H b = none) → Q w H') → r v u H Q
theorem ret_at {H : Hp} {Z : AS} {x y : VD} {R1 R2 : AS} {a : At} {Q : VK} (zk : ZOk H Z)
    (k : ∀ w H' Z' R, ZOk H' Z' → Ext none_ H Z H' Z' → Rep H' Z' (.at a) w R → (∀ b, R b → Z' b) → (false = false → ∀ b, R b → (x.2 = false ∧ R1 b) ∨ (y.2 = false ∧ R2 b) ∨ H b = none) → Q w H') : Q a.v H :=
  k _ H Z none_ zk (.refl fun _ z => z.elim) (.at a _) (fun _ z => z.elim) fun _ _ z => z.elim
theorem persL_append {xs ys : List D} : persL (xs ++ ys) = (persL xs && persL ys) := by
  induction xs with
  | nil => simp [persL]
  | cons x xs ih => simp [persL, ih, Bool.and_assoc]
theorem RepA.append {H : Hp} {Z : AS} {xs ys : List D} {vs us : List V} (a : RepA H Z xs vs none_) (b : RepA H Z ys us none_) : RepA H Z (xs ++ ys) (vs ++ us) none_ := by
  obtain ⟨l, F, f1, f2, r⟩ := a
  obtain ⟨l', F', f1', f2', r'⟩ := b
  refine ⟨by simp [l, l'], fun _ => none_, fun _ _ q => q, fun _ _ _ q => q.elim, fun i d v e1 e2 => ?_⟩
  by_cases hi : i < xs.length
  · rw [List.getElem?_append_left hi] at e1
    rw [List.getElem?_append_left (by rw [← l]; exact hi)] at e2
    exact (r i d v e1 e2).mono (f1 i)
  · rw [List.getElem?_append_right (by omega)] at e1
    rw [List.getElem?_append_right (by omega)] at e2
    rw [← l] at e2
    exact (r' _ d v e1 e2).mono (f1' _)
theorem RepA.of_get {H : Hp} {Z : AS} {xs ys : List D} {vs us : List V} (a : RepA H Z xs vs none_) (l : ys.length = us.length) (h : ∀ (i : Nat) (d : D) (v : V), ys[i]? = some d → us[i]? = some v → ∃ j : Nat, xs[j]? = some d ∧ vs[j]? = some v) : RepA H Z ys us none_ := by
  obtain ⟨_, F, f1, f2, r⟩ := a
  refine ⟨l, fun _ => none_, fun _ _ q => q, fun _ _ _ q => q.elim, fun i d v e1 e2 => ?_⟩
  obtain ⟨j, q1, q2⟩ := h i d v e1 e2
  exact (r j d v q1 q2).mono (f1 j)
theorem zip_rel {xs : List D} {vs : List V} (l : xs.length = vs.length) : ∀ (k : Nat) (i : Nat) (d : D) (v : V), ((List.replicate k xs).flatten)[i]? = some d → ((List.replicate k vs).flatten)[i]? = some v → ∃ j : Nat, xs[j]? = some d ∧ vs[j]? = some v
  | 0, i, d, v, h, _ => by simp at h
  | k + 1, i, d, v, h1, h2 => by
    simp only [List.replicate_succ, List.flatten_cons] at h1 h2
    by_cases hi : i < xs.length
    · rw [List.getElem?_append_left hi] at h1
      rw [List.getElem?_append_left (by rw [← l]; exact hi)] at h2
      exact ⟨i, h1, h2⟩
    · rw [List.getElem?_append_right (by omega)] at h1
      rw [List.getElem?_append_right (by omega)] at h2
      rw [← l] at h2
      exact zip_rel l k _ d v h1 h2
theorem len_flat (α : Type) (xs : List α) : ∀ k, ((List.replicate k xs).flatten).length = xs.length * k
  | 0 => by simp
  | k + 1 => by simp [List.replicate_succ, len_flat α xs k, Nat.mul_succ, Nat.add_comm]
/-- a new list as the result -/
theorem ret_lst {H : Hp} {Z : AS} {x y : VD} {R1 R2 : AS} {xs : List D} {vs : List V} {Q : VK} (zk : ZOk H Z) (h : RepA H Z xs vs none_)
    (k : ∀ w H' Z' R, ZOk H' Z' → Ext none_ H Z H' Z' → Rep H' Z' (.nd (.lst true) xs) w R → (∀ b, R b → Z' b) → (false = false → ∀ b, R b → (x.2 = false ∧ R1 b) ∨ (y.2 = false ∧ R2 b) ∨ H b = none) → Q w H') :
    ∀ p, H p = none → Q (.ref p) (upd H p (.lst vs)) := fun p hp =>
  k _ _ (Zn Z p) (fun b => b = p ∨ none_ b) (zok_newO zk hp trivial) (ext_newO hp) (new_lst zk h (fun _ z => z.elim) hp) (fun b z => z.elim (fun e => .inr e) fun e => e.elim) fun _ b z => .inr (.inr (z.elim (fun e => by rw [e]; exact hp) fun e => e.elim))
theorem int_inj {i j : Int} (h : V.int i = V.int j) : i = j := by injection h
def CDiv2 (_ j : Int) : Prop := 0 < j ∧ j < 2 ^ 200
theorem CDiv2.ok {i j : Int} (h : CDiv2 i j) : CDivW i j := wide_div (b := 200) h.1 (by have h1 := h.1; have h2 := h.2; omega) (by decide) (by decide)
def rBin (o : BOp) : R2 := match o with
  | .add => fun x y H Q => (rI0 (fun i j => .int (i + j)) x y H Q ∨ ∃ i j, x = .str i ∧ y = .str j ∧ i.length + j.length ≤ sizeLine ∧ Q (.str (i ++ j)) H) ∨ rCat x y H Q
  | .sub => rI0 fun i j => .int (i - j)
  | .mul => fun x y H Q => rI CMul (fun i j => .int (i * j)) x y H Q ∨ rRep x y H Q
  | .fdiv => rI CDivW fun i j => .int (i / j)
  | .mod => rI (fun _ j => 0 < j) fun i j => .int (i % j)
  | .pow => rI CPow fun i j => .int (i ^ j.toNat)
def opOf : BOp → Operator
  | .add => .Add
  | .sub => .Sub
  | .mul => .Mult
  | .fdiv => .FloorDiv
  | .mod => .Mod
  | .pow => .Pow
theorem rBin_op {X : Cx} (o : BOp) : OpR X (binaryOp (opOf o)) (rBin o) := by
  cases o with
  | add => exact (op_add.or op_add_str).or op_cat
  | sub => exact op_sub
  | mul => exact op_mul.or op_rep
  | fdiv => exact op_fdivW
  | mod => exact op_mod
  | pow => exact op_pow
theorem bopB_eq {o : BOp} {p : Operator} (h : bopB o p = true) : p = opOf o := by
  cases o <;> cases p <;> first | rfl | (simp [bopB] at h)
theorem rBin_ok (o : BOp) : OpOk (rBin o) (binD o) := by
  intro H Z x y z v u R1 R2 Q zk r1 hR1 r2 hR2 e k
  unfold binD at e
  split at e
  · rename_i i _ j _
    cases e
    simp only at r1 r2
    rw [rep_at r1, rep_at r2]
    exact .inl (.inl ⟨i, j, rfl, rfl, ret_at (a := .int (i + j)) zk k⟩)
  · rename_i i _ j _
    split at e
    · rename_i hl
      cases e
      simp only at r1 r2
      rw [rep_at r1, rep_at r2]
      exact .inl (.inr ⟨i, j, rfl, rfl, hl, ret_at (a := .str (i ++ j)) zk k⟩)
    · cases e
  · rename_i m xs l m' ys l'
    split at e
    · rename_i hc
      cases e
      obtain ⟨a, vs, rfl, ha, ra, _⟩ := rep_lst r1
      obtain ⟨b, us, rfl, hb, rb, _⟩ := rep_lst r2
      refine .inr ⟨a, b, vs, us, rfl, rfl, ha, hb, by rw [← ra.len, ← rb.len]; exact hc.1, ret_lst zk ((ra.pers hc.2.1).append (rb.pers hc.2.2)) k⟩
    · cases e
  · rename_i i _ j _
    cases e
    simp only at r1 r2
    rw [rep_at r1, rep_at r2]
    exact ⟨i, j, rfl, rfl, ret_at (a := .int (i - j)) zk k⟩
  · rename_i i _ j _
    split at e
    · rename_i hc
      cases e
      simp only at r1 r2
      rw [rep_at r1, rep_at r2]
      refine .inl ⟨i, j, rfl, rfl, ?_, ret_at (a := .int (i * j)) zk k⟩
      simpa [mulOk, CMul] using hc
    · cases e
  · rename_i m xs l n l'
    split at e
    · rename_i hc
      cases e
      obtain ⟨a, vs, rfl, ha, ra, _⟩ := rep_lst r1
      simp only at r2
      rw [rep_at r2]
      have rp := ra.pers hc.2.2.2
      refine .inr ⟨a, n, vs, rfl, rfl, ha, hc.1, hc.2.1, by rw [← ra.len]; exact hc.2.2.1, ret_lst zk (rp.of_get ?_ fun i d v e1 e2 => zip_rel ra.len _ i d v e1 e2) k⟩
      rw [len_flat, len_flat, ra.len]
    · cases e
  · rename_i i _ j _
    split at e
    · rename_i hc
      cases e
      simp only at r1 r2
      rw [rep_at r1, rep_at r2]
      exact ⟨i, j, rfl, rfl, CDiv2.ok (i := i) hc, ret_at (a := .int (i / j)) zk k⟩
    · cases e
  · rename_i i _ j _
    split at e
    · rename_i hc
      cases e
      simp only at r1 r2
      rw [rep_at r1, rep_at r2]
      exact ⟨i, j, rfl, rfl, hc, ret_at (a := .int (i % j)) zk k⟩
    · cases e
  · rename_i i _ j _
    split at e
    · rename_i hc
      cases e
      simp only at r1 r2
      rw [rep_at r1, rep_at r2]
      exact ⟨i, j, rfl, rfl, hc, ret_at (a := .int (i ^ j.toNat)) zk k⟩
    · cases e
  · cases e
/-! ### comparisons -/
/-- r holds wherever f has an answer -/
def CmpOk (r : R2) (f : D → D → Option Bool) : Prop := ∀ (H : Hp) (Z : AS) (x y : D) (b : Bool) (v u : V) (R1 R2 : AS) (Q : VK), Rep H Z x v R1 → Rep H Z y u R2 → f x y = some b → Q (.bl b) H → r v u H Q
def rSeq (K : PySem.W.Frag) (neg : Bool) : R2 := rIn K neg
def rCmp (K : PySem.W.Frag) (o : COp) : R2 := match o with
  | .lt => rI0 fun i j => .bl (decide (i < j))
  | .le => rI0 fun i j => .bl (decide (i ≤ j))
  | .gt => rI0 fun i j => .bl (decide (j < i))
  | .ge => rI0 fun i j => .bl (decide (j ≤ i))
  | .eq => fun x y H Q => rEq x y H Q ∨ rEqD K x y H Q
  | .ne => fun x y H Q => rNe x y H Q ∨ rNeD K x y H Q
  | .is_ => fun x y H Q => y = .non ∧ Q (.bl (decide (x = .non))) H
  | .isnot => fun x y H Q => y = .non ∧ Q (.bl (!decide (x = .non))) H
  | .in_ => rIn K false
  | .notin => rIn K true
def copOf : COp → CmpOp
  | .lt => .Lt
  | .le => .LtE
  | .gt => .Gt
  | .ge => .GtE
  | .eq => .Eq
  | .ne => .NotEq
  | .is_ => .Is
  | .isnot => .IsNot
  | .in_ => .In
  | .notin => .NotIn
theorem copB_eq {o : COp} {p : CmpOp} (h : copB o p = true) : p = copOf o := by
  cases o <;> cases p <;> first | rfl | (simp [copB] at h)
theorem rCmp_op {X : Cx} (hu : X.A.units + 64 < cLine) (o : COp) : OpR X (compareOp (copOf o)) (rCmp X.K o) := by
  cases o with
  | lt => exact op_lt
  | le => exact op_le
  | gt => exact op_gt
  | ge => exact op_ge
  | eq => exact op_eq.or (op_eqD hu)
  | ne => exact op_ne.or (op_neD hu)
  | is_ => exact op_isN
  | isnot => exact op_notN
  | in_ => exact op_in_seq
  | notin => exact op_notIn_seq
theorem eqD_ok {K : PySem.W.Frag} {H : Hp} {Z : AS} {x y : D} {b : Bool} {v u : V} {R1 R2 : AS} (r1 : Rep H Z x v R1) (r2 : Rep H Z y u R2) (e : eqD x y = some b) :
    (scal v u = true ∧ b = decide (v = u)) ∨ ∃ p q, Dp K H v p ∧ Dp K H u q ∧ SeqAt.shaped p = true ∧ SeqAt.shaped q = true ∧ b = PyData.eqv p q := by
  unfold eqD at e
  split at e
  · rename_i i j
    cases e
    rw [rep_at r1, rep_at r2]
    exact .inl ⟨rfl, (dec_int (i := i) (j := j)).symm⟩
  · rename_i i j
    cases e
    rw [rep_at r1, rep_at r2]
    exact .inl ⟨rfl, (dec_str (i := i) (j := j)).symm⟩
  · split at e
    · rename_i h
      cases e
      exact .inr ⟨_, _, rep_dp r1 h.1, rep_dp r2 h.2.1, h.2.2.1, h.2.2.2, rfl⟩
    · cases e
theorem isNon_ok {H : Hp} {Z : AS} {x : D} {b : Bool} {v : V} {R1 : AS} (r1 : Rep H Z x v R1) (e : isNon x = some b) : b = decide (v = .non) := by
  cases r1 with
  | dead v O => simp [isNon] at e
  | «at» a O => cases a <;> simp [isNon] at e <;> subst e <;> simp [At.v]
  | nd k xs a vs O F n l f1 f2 r =>
    simp [isNon] at e
    subst e
    simp
theorem flat_v {H : Hp} {Z : AS} {x : D} {v : V} {R1 : AS} (r1 : Rep H Z x v R1) (f : x.flat = true) : flatV v = true ∧ ∃ a, x = .at a ∧ v = a.v := by
  cases r1 with
  | dead v O => simp [D.flat] at f
  | «at» a O => cases a <;> exact ⟨rfl, _, rfl, rfl⟩
  | nd k xs a vs O F n l f1 f2 r => simp [D.flat] at f
theorem eqV_at (a b : At) : eqV a.v b.v = PyData.eqv (D.at a).toP (D.at b).toP := by
  cases a <;> cases b <;> simp [At.v, D.toP, eqV, PyData.eqv]
theorem inD_ok {H : Hp} {Z : AS} {x : D} {v : V} {R1 : AS} (r1 : Rep H Z x v R1) (f : x.flat = true) : ∀ {ys : List D} {us : List V} {R2 : AS}, RepA H Z ys us R2 → ys.all D.flat = true → us.all flatV = true ∧ inV v us = inD x ys := by
  obtain ⟨fv, a, rfl, rfl⟩ := flat_v r1 f
  intro ys
  induction ys with
  | nil =>
    intro us R2 h _
    have : us = [] := List.length_eq_zero_iff.mp (by rw [← h.len]; rfl)
    subst this
    exact ⟨rfl, rfl⟩
  | cons y ys ih =>
    intro us R2 h fl
    obtain ⟨l, F, f1, f2, r⟩ := h
    cases us with
    | nil => simp at l
    | cons u us =>
      rw [List.all_cons, Bool.and_eq_true] at fl
      obtain ⟨fu, b, rfl, rfl⟩ := flat_v (r 0 y u rfl rfl) fl.1
      obtain ⟨h1, h2⟩ := ih (us := us) (R2 := R2) ⟨by simpa using l, fun i => F (i + 1), fun i b q => f1 _ b q, fun i j b q q' => by have := f2 _ _ b q q'; omega, fun i d v e1 e2 => r (i + 1) d v (by simpa using e1) (by simpa using e2)⟩ fl.2
      refine ⟨by rw [List.all_cons, fu, h1]; rfl, ?_⟩
      show (eqV b.v a.v || inV a.v us) = (PyData.eqv (D.at b).toP (D.at a).toP || inD (.at a) ys)
      rw [h2, eqV_at]
theorem rCmp_ok (K : PySem.W.Frag) (o : COp) : CmpOk (rCmp K o) (cmpD o) := by
  intro H Z x y b v u R1 R2 Q r1 r2 e k
  unfold cmpD at e
  split at e
  · rename_i i j
    cases e
    rw [rep_at r1, rep_at r2]
    exact ⟨i, j, rfl, rfl, k⟩
  · rename_i i j
    cases e
    rw [rep_at r1, rep_at r2]
    exact ⟨i, j, rfl, rfl, k⟩
  · rename_i i j
    cases e
    rw [rep_at r1, rep_at r2]
    exact ⟨i, j, rfl, rfl, k⟩
  · rename_i i j
    cases e
    rw [rep_at r1, rep_at r2]
    exact ⟨i, j, rfl, rfl, k⟩
  · rcases eqD_ok (K := K) r1 r2 e with ⟨h1, h2⟩ | ⟨p, q, h1, h2, h3, h4, h5⟩
    · subst h2; exact .inl ⟨h1, k⟩
    · subst h5; exact .inr ⟨p, q, h1, h2, h3, h4, k⟩
  · obtain ⟨c, e1, e2⟩ := Option.map_eq_some_iff.mp e
    subst e2
    rcases eqD_ok (K := K) r1 r2 e1 with ⟨h1, h2⟩ | ⟨p, q, h1, h2, h3, h4, h5⟩
    · subst h2; exact .inl ⟨h1, k⟩
    · subst h5; exact .inr ⟨p, q, h1, h2, h3, h4, k⟩
  · rw [isNon_ok r1 e] at k
    rw [rep_at r2]
    exact ⟨rfl, k⟩
  · obtain ⟨c, e1, e2⟩ := Option.map_eq_some_iff.mp e
    subst e2
    rw [isNon_ok r1 e1] at k
    rw [rep_at r2]
    exact ⟨rfl, k⟩
  · split at e
    · rename_i hc
      cases e
      obtain ⟨a, vs, rfl, ha, ra, _⟩ := rep_lst r2
      obtain ⟨h1, h2⟩ := inD_ok r1 hc.1 ra hc.2
      refine ⟨a, vs, rfl, .inl (SqL.of ha), (flat_v r1 hc.1).1, h1, ?_⟩
      rw [h2]; exact k
    · cases e
  · split at e
    · rename_i hc
      cases e
      obtain ⟨a, vs, rfl, ha, ra, _⟩ := rep_lst r2
      obtain ⟨h1, h2⟩ := inD_ok r1 hc.1 ra hc.2
      refine ⟨a, vs, rfl, .inl (SqL.of ha), (flat_v r1 hc.1).1, h1, ?_⟩
      rw [h2]; exact k
    · cases e
  · split at e
    · rename_i hc
      cases e
      obtain ⟨a, vs, rfl, ha, ra⟩ := rep_tup r2
      obtain ⟨h1, h2⟩ := inD_ok r1 hc.1 ra hc.2
      refine ⟨a, vs, rfl, .inr (SqT.of ha), (flat_v r1 hc.1).1, h1, ?_⟩
      rw [h2]; exact k
    · cases e
  · split at e
    · rename_i hc
      cases e
      obtain ⟨a, vs, rfl, ha, ra⟩ := rep_tup r2
      obtain ⟨h1, h2⟩ := inD_ok r1 hc.1 ra hc.2
      refine ⟨a, vs, rfl, .inr (SqT.of ha), (flat_v r1 hc.1).1, h1, ?_⟩
      rw [h2]; exact k
    · cases e
  · cases e
end Bm

set_option maxHeartbeats 1000000
/-! B7: expressions. -/
namespace Bm
open PySem PySem.Spec PyProof.Rows L2
variable [TheK]
section
variable {H H' : Hp} {Z Z' O : AS} {σ : Sg} {g : List D}
theorem Sit.ext0 (s : Sit H Z σ g O) (zk : ZOk H' Z') (e : Ext none_ H Z H' Z') : Sit H' Z' σ g O := by
  obtain ⟨z, oz, l, F, f1, f2, r⟩ := s
  refine ⟨zk, fun b q => e.zkeep b (oz b q) fun z => z, l, F, f1, f2, fun i d q => ?_⟩
  rcases r i d q with h | ⟨v, h1, h2⟩
  · exact .inl h
  · exact .inr ⟨v, h1, h2.ext z e fun _ _ z => z⟩
theorem Sit.get (s : Sit H Z σ g O) {i : Nat} {d : D} (e : g[i]? = some d) (nd : d.isDead = false) : ∃ v, σ[i]? = some (some v) ∧ Rep H Z d v O := by
  obtain ⟨z, oz, l, F, f1, f2, r⟩ := s
  rcases r i d e with h | ⟨v, h1, h2⟩
  · rw [nd] at h; cases h
  · exact ⟨v, h1, h2.mono (f1 i)⟩
theorem mkV_eq {d : D} {l : Bool} {x : VD} (h : mkV d l = some x) : d.isDead = false ∧ x = (d, l && !d.pers) := by
  unfold mkV at h
  split at h
  · cases h
  · rename_i n
    exact ⟨by simpa using n, (Option.some.inj h).symm⟩
theorem Ext.q {q : Bool} (e : Ext (Wq q O) H Z H' Z') : ∀ b, Wq q O b → O b := fun _ z => z.2
end
section
variable {H H1 H2 : Hp} {Z O Z1 O1 Z2 O2 : AS} {σ : Sg} {g g1 g2 : List D} {m later : E} {x x' : VD} {v : V} {R : AS} {q : Bool}
theorem Val.lift (o : Out (Wq q O) H Z O σ g1 H1 Z1 O1) (h : Val H1 O1 H2 Z2 O2 σ m x v R) : Val H O H2 Z2 O2 σ m x v R :=
  ⟨h.rep, h.rz, fun e b r => ⟨(h.own e b r).1, o.bnd' (fun _ z => z.2) (h.own e b r).2⟩, h.isv⟩
/-- a value behind what a later expression did -/
theorem late_ok (o1 : Out (Wq q O) H Z O σ g1 H1 Z1 O1) (h : Val H O H1 Z1 O1 σ m x v R) (o2 : Out (Wq (quiet later) O1) H1 Z1 O1 σ g2 H2 Z2 O2) (e : late m later x g2 = some x') :
    ∃ R', Val H O H2 Z2 O2 σ m x' v R' ∧ (x'.2 = false → ∀ b, R' b → x.2 = false ∧ R b) := by
  by_cases hv : ∃ i, m = .var i
  · obtain ⟨i, rfl⟩ := hv
    simp only [late] at e
    have hs := h.isv i rfl
    split at e
    · rename_i d hd
      obtain ⟨nd, rfl⟩ := mkV_eq e
      obtain ⟨u, hu, ru⟩ := o2.sit.get hd nd
      rw [hs] at hu
      obtain rfl : v = u := by injection hu with hu; injection hu
      by_cases p : d.pers = true
      · exact ⟨none_, ⟨ru.pers p, fun _ z => z.elim, fun _ _ z => z.elim, fun j hj => by cases hj; exact hs⟩, fun _ _ z => z.elim⟩
      · refine ⟨O2, ⟨ru, o2.sit.oz, fun z => ?_, fun j hj => by cases hj; exact hs⟩, fun z => ?_⟩
        · simp [p] at z
        · simp [p] at z
    · cases e
  · have e' : late m later x g2 = if x.2 && !quiet later then none else some x := by
      cases m <;> first | rfl | exact absurd ⟨_, rfl⟩ hv
    rw [e'] at e
    split at e
    · cases e
    · rename_i hc
      cases e
      have nw : ∀ b, R b → ¬ Wq (quiet later) O1 b := fun b r w => by
        by_cases hx : x.2 = false
        · exact (h.own hx b r).1 w.2
        · exact hc (by rw [w.1]; simp at hx; simp [hx])
      refine ⟨R, ⟨h.rep.ext o1.sit.zok o2.ext nw, fun b r => o2.ext.zkeep b (h.rz b r) (nw b r), fun hx b r => ⟨fun z => ?_, (h.own hx b r).2⟩, h.isv⟩, fun hx b r => ⟨hx, r⟩⟩
      rcases o2.bnd b z with w | w
      · exact (h.own hx b r).1 w
      · exact not_Z o1.sit.zok w (h.rz b r)
end
section
variable {c : Str → List D → CRes} {X : Cx} {W : WX}
theorem two_ok {a b : E} {ea eb : Expr} (ha : SndV c X W a ea) (hb : SndV c X W b eb) : ∃ ta tb, PE X ea ta ∧ PE X eb tb ∧ ∀ σ H Z g O (K : V → V → Hp → Prop), Sit H Z σ g O →
    PR (Xp X W σ H Z O) (two a b (den c a) (den c b) g) (fun p g' => ∀ v u H' Z' O' R1 R2, Out (Wq (quiet a && quiet b) O) H Z O σ g' H' Z' O' → Val H O H' Z' O' σ a p.1 v R1 → Val H O H' Z' O' σ b p.2 u R2 →
      (p.1.2 = false → p.2.2 = false → ∀ b, R1 b → ¬ R2 b) → K v u H') → ta σ H fun x H1 => tb σ H1 fun y H2 => K x y H2 := by
  obtain ⟨ta, pa, sa⟩ := ha
  obtain ⟨tb, pb, sb⟩ := hb
  refine ⟨ta, tb, pa, pb, fun σ H Z g O K s h => sa σ H Z g O _ s ?_⟩
  refine h.bind.mono (fun _ _ q => q) fun x g1 _ h2 v H1 Z1 O1 R1 o1 v1 => sb σ H1 Z1 g1 O1 _ o1.sit ?_
  refine h2.bind.mono (fun e g' q => Xp.step s o1 q) fun y g2 _ h3 u H2 Z2 O2 R2 o2 v2 => ?_
  obtain ⟨p, e, h4⟩ := h3.ofO
  obtain ⟨x', e1, e2⟩ := Option.map_eq_some_iff.mp e
  subst e2
  obtain ⟨R', v1', dj⟩ := late_ok o1 v1 o2 e1
  refine h4 v u H2 Z2 O2 R' R2 (o1.trans s.zok s.oz o2 (fun z => by simp [z]) (fun z => by simp [z])) v1' (v2.lift o1) fun z1 z2 b r1 r2 => ?_
  obtain ⟨hx, r⟩ := dj z1 b r1
  rcases (v2.own z2 b r2).2 with w | w
  · exact (v1.own hx b r).1 w
  · exact not_Z o1.sit.zok w (v1.rz b r)
/-- what stays behind an operation that only makes new things -/
theorem Out.new {H H' H2 : Hp} {Z Z' Z2 O O' : AS} {σ : Sg} {g : List D} {q : Bool} (s : Sit H Z σ g O) {g' : List D} (o : Out (Wq q O) H Z O σ g' H' Z' O') (zk : ZOk H2 Z2) (e : Ext none_ H' Z' H2 Z2) : Out (Wq q O) H Z O σ g' H2 Z2 O' :=
  ⟨o.sit.ext0 zk e, o.ext.trans s.zok e (fun _ z => z) (fun _ z => z.elim) fun x z => s.oz x z.2, o.bnd⟩
theorem sv_never (e : Expr) : SndV c X W .never e := ⟨fun _ _ _ => False, ⟨fun _ _ _ _ _ _ h => h.elim⟩, fun _ _ _ _ _ _ _ h => h⟩
/-- an expression without a value -/
theorem sv_no {m : E} {e : Expr} (h : ∀ g, (den c m).val g = .no) : SndV c X W m e := ⟨fun _ _ _ => False, ⟨fun _ _ _ _ _ _ h => h.elim⟩, fun _ _ _ _ _ _ _ q => by rw [h] at q; exact q⟩
theorem sv_at {m : E} {e : Expr} {a : At} (pe : PE X e (tC a.v)) (nv : ∀ i, m ≠ .var i) (h : ∀ g, (den c m).val g = .ok (.at a, false) g) : SndV c X W m e :=
  ⟨_, pe, fun σ H Z g O Q s q => by
    rw [h] at q
    exact q a.v H Z O none_ (.refl s fun b z => s.oz b z.2) ⟨.at a _, fun _ z => z.elim, fun _ _ z => z.elim, fun i e => absurd e (nv i)⟩⟩
theorem sv_var {i : Nat} {x : Str} {p : Pos} (hN : X.N[i]? = some x) (hv : Vis X.env.scope x) (h1 : (x == ("__debug__" : Str)) = false) (h2 : (x == ("__classdict__" : Str)) = false) : SndV c X W (.var i) (.Name x p) :=
  ⟨_, pe_var hN hv h1 h2, fun σ H Z g O Q s q => by
    have q : PR (Xp X W σ H Z O) (varD i g) _ := q
    unfold varD at q
    split at q
    · rename_i d hd
      obtain ⟨x, e, k⟩ := q.ofO
      obtain ⟨nd, rfl⟩ := mkV_eq e
      obtain ⟨v, hs, r⟩ := s.get hd nd
      refine ⟨v, hs, ?_⟩
      by_cases p : d.pers = true
      · exact k v H Z O none_ (.refl s fun b z => s.oz b z.2) ⟨r.pers p, fun _ z => z.elim, fun _ _ z => z.elim, fun j e => by cases e; exact hs⟩
      · exact k v H Z O O (.refl s fun b z => s.oz b z.2) ⟨r, s.oz, fun z => by simp [p] at z, fun j e => by cases e; exact hs⟩
    · exact q.elim⟩
theorem get_set {α : Type} {g : List α} {i j : Nat} {d y : α} (e : (g.set i y)[j]? = some d) : (i = j ∧ d = y ∧ j < g.length) ∨ (i ≠ j ∧ g[j]? = some d) := by
  by_cases h : i = j
  · subst h
    by_cases hl : i < g.length
    · rw [List.getElem?_set_self hl] at e
      exact .inl ⟨rfl, (Option.some.inj e).symm, hl⟩
    · rw [List.getElem?_eq_none (by simpa using hl)] at e
      cases e
  · rw [List.getElem?_set_ne h] at e
    exact .inr ⟨h, e⟩
/-- a name's value is taken out of it -/
theorem Sit.take {H : Hp} {Z O : AS} {σ : Sg} {g : List D} (s : Sit H Z σ g O) {i : Nat} {d : D} (e : g[i]? = some d) (nd : d.isDead = false) :
    ∃ v R O', σ[i]? = some (some v) ∧ Rep H Z d v R ∧ Sit H Z σ (g.set i .dead) O' ∧ (∀ b, R b → O b ∧ ¬ O' b) ∧ (∀ b, O' b → O b) := by
  obtain ⟨z, oz, l, F, f1, f2, r⟩ := s
  rcases r i d e with h | ⟨v, h1, h2⟩
  · rw [nd] at h; cases h
  · refine ⟨v, F i, fun b => O b ∧ ¬ F i b, h1, h2, ⟨z, fun b q => oz b q.1, by simpa using l, fun j b => j ≠ i ∧ F j b, fun j b q => ⟨f1 j b q.2, fun q' => q.1 (f2 j i b q.2 q')⟩, fun a j b q q' => f2 a j b q.2 q'.2, fun j x q => ?_⟩, fun b q => ⟨f1 i b q, fun z => z.2 q⟩, fun b q => q.1⟩
    rcases get_set q with ⟨_, rfl, _⟩ | ⟨ne, q⟩
    · exact .inl rfl
    · rcases r j x q with h | ⟨u, h3, h4⟩
      · exact .inl h
      · exact .inr ⟨u, h3, h4.mono fun b q => ⟨Ne.symm ne, q⟩⟩
theorem sv_mv {i : Nat} {x : Str} {p : Pos} (hN : X.N[i]? = some x) (hv : Vis X.env.scope x) (h1 : (x == ("__debug__" : Str)) = false) (h2 : (x == ("__classdict__" : Str)) = false) : SndV c X W (.mv i) (.Name x p) :=
  ⟨_, pe_var hN hv h1 h2, fun σ H Z g O Q s q => by
    have q : PR (Xp X W σ H Z O) (mvD i g) _ := q
    unfold mvD at q
    split at q
    · rename_i d hd
      split at q
      · exact q.elim
      · rename_i nd
        have nd : d.isDead = false := by simpa using nd
        split at q
        · rename_i p
          obtain ⟨v, hs, r⟩ := s.get hd nd
          exact ⟨v, hs, q v H Z O none_ (.refl s fun b z => s.oz b z.2) ⟨r.pers p, fun _ z => z.elim, fun _ _ z => z.elim, fun _ e => by cases e⟩⟩
        · obtain ⟨v, R, O', hs, r, s', hR, hO⟩ := s.take hd nd
          refine ⟨v, hs, q v H Z O' R ⟨s', .refl fun b z => s.oz b z.2, fun b z => .inl (hO b z)⟩ ⟨r, fun b z => s.oz b (hR b z).1, fun _ b z => ⟨(hR b z).2, .inl (hR b z).1⟩, fun _ e => by cases e⟩⟩
    · exact q.elim⟩
/-- the value of an operator -/
theorem Val.of_op {H H' H2 : Hp} {Z' Z2 O O' : AS} {σ : Sg} {m : E} {x y z : VD} {v u w : V} {R1 R2 R : AS} {a b : E} (zk : ZOk H' Z') (oz : ∀ b, O' b → Z' b) (va : Val H O H' Z' O' σ a x v R1) (vb : Val H O H' Z' O' σ b y u R2) (r : Rep H2 Z2 z.1 w R) (rz : ∀ b, R b → Z2 b)
    (own : z.2 = false → ∀ b, R b → (x.2 = false ∧ R1 b) ∨ (y.2 = false ∧ R2 b) ∨ H' b = none) (new : ∀ b, H' b = none → H b = none ∨ O b) (nv : ∀ i, m ≠ .var i) : Val H O H2 Z2 O' σ m z w R :=
  ⟨r, rz, fun e b hb => by
    rcases own e b hb with ⟨h1, h2⟩ | ⟨h1, h2⟩ | h
    · exact va.own h1 b h2
    · exact vb.own h1 b h2
    · exact ⟨fun q => not_Z zk h (oz b q), (new b h).symm⟩, fun i e => absurd e (nv i)⟩
theorem Out.new_old {W : AS} {H H' : Hp} {Z O Z' O' : AS} {σ : Sg} {g : List D} (o : Out W H Z O σ g H' Z' O') (w : ∀ b, W b → O b) : ∀ b, H' b = none → H b = none ∨ O b := fun b h => (o.bnd' w (.inr h)).symm
theorem sv_bin {o : BOp} {a b : E} {ea eb : Expr} {p : Pos} (ha : SndV c X W a ea) (hb : SndV c X W b eb) : SndV c X W (.bin o a b) (.BinOp ea (opOf o) eb p) := by
  obtain ⟨ta, tb, pa, pb, h2⟩ := two_ok ha hb
  refine ⟨_, pe_op (rBin_op o) pa pb, fun σ H Z g O Q s q => h2 σ H Z g O _ s ?_⟩
  have q : PR (Xp X W σ H Z O) ((two a b (den c a) (den c b) g).bind fun p g => ofO (binD o p.1 p.2) g) _ := q
  refine q.bind.mono (fun _ _ z => z) fun pr g' _ k v u H' Z' O' R1 R2 ot va vb dj => ?_
  obtain ⟨z, e, k⟩ := k.ofO
  refine rBin_ok o H' Z' pr.1 pr.2 z v u R1 R2 Q ot.sit.zok va.rep va.rz vb.rep vb.rz e fun w H2 Z2 R zk ex r rz own => ?_
  exact k w H2 Z2 O' R (ot.new s zk ex) (va.of_op ot.sit.zok ot.sit.oz vb r rz own (ot.new_old fun _ z => z.2) fun _ e => by cases e)
theorem cmpV_ok (G : X.A.units + 64 < cLine) {o : COp} {a b : E} {ea eb : Expr} (ha : SndV c X W a ea) (hb : SndV c X W b eb) : ∃ ta tb, PE X ea ta ∧ PE X eb tb ∧ ∀ σ H Z g O (Q : VK), Sit H Z σ g O →
    PR (Xp X W σ H Z O) (cmpV o a b (den c a) (den c b) g) (fun k g' => ∀ H' Z' O', Out (Wq (quiet a && quiet b) O) H Z O σ g' H' Z' O' → Q (.bl k) H') → tOp (rCmp X.K o) ta tb σ H Q := by
  obtain ⟨ta, tb, pa, pb, h2⟩ := two_ok ha hb
  refine ⟨ta, tb, pa, pb, fun σ H Z g O Q s q => h2 σ H Z g O _ s ?_⟩
  refine q.bind.mono (fun _ _ z => z) fun pr g' _ k v u H' Z' O' R1 R2 ot va vb dj => ?_
  obtain ⟨z, e, k⟩ := k.ofO
  exact rCmp_ok X.K o H' Z' pr.1.1 pr.2.1 z v u R1 R2 Q va.rep vb.rep e (k H' Z' O' ot)
theorem sv_cmp (G : X.A.units + 64 < cLine) {o : COp} {a b : E} {ea eb : Expr} {p : Pos} (hm : behindInMarks (copOf o) eb = false) (ha : SndV c X W a ea) (hb : SndV c X W b eb) : SndV c X W (.cmp o a b) (.Compare ea [copOf o] [eb] p) := by
  obtain ⟨ta, tb, pa, pb, h2⟩ := cmpV_ok G (o := o) ha hb
  refine ⟨_, pe_cmpR (rCmp_op G o) pa pb hm, fun σ H Z g O Q s q => h2 σ H Z g O Q s ?_⟩
  have q : PR (Xp X W σ H Z O) ((cmpV o a b (den c a) (den c b) g).bind fun b g => .ok (D.bl b, false) g) _ := q
  refine q.bind.mono (fun _ _ z => z) fun k g' _ h H' Z' O' ot => ?_
  exact h (.bl k) H' Z' O' none_ ot ⟨.at (.bl k) _, fun _ z => z.elim, fun _ _ z => z.elim, fun _ e => by cases e⟩
theorem st_cmp (G : X.A.units + 64 < cLine) {o : COp} {a b : E} {ea eb : Expr} {p : Pos} (hm : behindInMarks (copOf o) eb = false) (ha : SndV c X W a ea) (hb : SndV c X W b eb) : SndT c X W (.cmp o a b) (.Compare ea [copOf o] [eb] p) := by
  obtain ⟨ta, tb, pa, pb, h2⟩ := cmpV_ok G (o := o) ha hb
  refine ⟨_, pt_cmpR (rCmp_op G o) pa pb hm, fun σ H Z g O Q s q => h2 σ H Z g O _ s ?_⟩
  exact PR.mono q (fun _ _ z => z) fun k g' _ h H' Z' O' ot => ⟨k, rfl, h H' Z' O' ot⟩
theorem cmp2_ok (G : X.A.units + 64 < cLine) {o o' : COp} {a b d : E} {ea eb ed : Expr} (ha : SndV c X W a ea) (hb : SndV c X W b eb) (hd : SndV c X W d ed) : ∃ ta tb td, PE X ea ta ∧ PE X eb tb ∧ PE X ed td ∧ ∀ σ H Z g O (Q : VK), Sit H Z σ g O →
    PR (Xp X W σ H Z O) ((den c (.cmp2 o o' a b d)).tst g) (fun k g' => ∀ H' Z' O', Out (Wq (quiet a && quiet b && quiet d) O) H Z O σ g' H' Z' O' → Q (.bl k) H') → tChain (rCmp X.K o) (rCmp X.K o') ta tb td σ H Q := by
  obtain ⟨ta, tb, pa, pb, h2⟩ := two_ok ha hb
  obtain ⟨td, pd, sd⟩ := hd
  refine ⟨ta, tb, td, pa, pb, pd, fun σ H Z g O Q s q => h2 σ H Z g O _ s ?_⟩
  refine (PR.bind (show PR (Xp X W σ H Z O) ((two a b (den c a) (den c b) g).bind _) _ from q)).mono (fun _ _ z => z) fun pr g1 _ k v u H1 Z1 O1 R1 R2 ot va vb dj => ?_
  cases e : cmpD o pr.1.1 pr.2.1 with
  | none => simp only [e] at k; exact k.elim
  | some t =>
    refine rCmp_ok X.K o H1 Z1 pr.1.1 pr.2.1 t v u R1 R2 _ va.rep vb.rep e ⟨t, rfl, ?_⟩
    cases t with
    | false =>
      simp only [e] at k
      rw [if_neg Bool.false_ne_true]
      exact k H1 Z1 O1 ⟨ot.sit, ⟨fun b z => s.oz b z.2, fun a u q n => ot.ext.same a u q fun z => n ⟨by simp [z.1], z.2⟩, ot.ext.zold, fun a z n => ot.ext.zkeep a z fun w => n ⟨by simp [w.1], w.2⟩⟩, ot.bnd⟩
    | true =>
      simp only [e] at k
      rw [if_pos rfl]
      refine sd σ H1 Z1 g1 O1 _ ot.sit (k.bind.mono (fun e g' q => Xp.step s ot q) fun z g2 _ k2 w H2 Z2 O2 R3 o2 vz => ?_)
      have o3 : Out (Wq (quiet a && quiet b && quiet d) O) H Z O σ g2 H2 Z2 O2 := ot.trans s.zok s.oz o2 (fun z => by simp [z]) (fun z => by simp [z])
      cases hl : late b d pr.2 g2 with
      | none => simp only [hl] at k2; exact k2.elim
      | some y =>
        simp only [hl] at k2
        obtain ⟨R', vy, _⟩ := late_ok ot vb o2 hl
        obtain ⟨r, e2, k3⟩ := k2.ofO
        exact rCmp_ok X.K o' H2 Z2 y.1 z.1 r u w R' R3 Q vy.rep vz.rep e2 (k3 H2 Z2 O2 o3)
theorem sv_cmp2 (G : X.A.units + 64 < cLine) {o o' : COp} {a b d : E} {ea eb ed : Expr} {p : Pos} (hm : lastMarks [copOf o, copOf o'] [eb, ed] = false) (ha : SndV c X W a ea) (hb : SndV c X W b eb) (hd : SndV c X W d ed) :
    SndV c X W (.cmp2 o o' a b d) (.Compare ea [copOf o, copOf o'] [eb, ed] p) := by
  obtain ⟨ta, tb, td, pa, pb, pd, h2⟩ := cmp2_ok G (o := o) (o' := o') ha hb hd
  refine ⟨_, pe_chain (rCmp_op G o) (rCmp_op G o') pa pb pd hm, fun σ H Z g O Q s q => h2 σ H Z g O Q s ?_⟩
  have q : PR (Xp X W σ H Z O) (((den c (.cmp2 o o' a b d)).tst g).bind fun b g => .ok (D.bl b, false) g) _ := q
  refine q.bind.mono (fun _ _ z => z) fun k g' _ h H' Z' O' ot => ?_
  exact h (.bl k) H' Z' O' none_ ot ⟨.at (.bl k) _, fun _ z => z.elim, fun _ _ z => z.elim, fun _ e => by cases e⟩
theorem st_cmp2 (G : X.A.units + 64 < cLine) {o o' : COp} {a b d : E} {ea eb ed : Expr} {p : Pos} (hm : lastMarks [copOf o, copOf o'] [eb, ed] = false) (ha : SndV c X W a ea) (hb : SndV c X W b eb) (hd : SndV c X W d ed) :
    SndT c X W (.cmp2 o o' a b d) (.Compare ea [copOf o, copOf o'] [eb, ed] p) := by
  obtain ⟨ta, tb, td, pa, pb, pd, h2⟩ := cmp2_ok G (o := o) (o' := o') ha hb hd
  refine ⟨_, pt_chain (rCmp_op G o) (rCmp_op G o') pa pb pd hm, fun σ H Z g O Q s q => h2 σ H Z g O _ s ?_⟩
  exact PR.mono q (fun _ _ z => z) fun k g' _ h H' Z' O' ot => ⟨k, rfl, h H' Z' O' ot⟩
end
end Bm

set_option maxHeartbeats 1000000
/-! B8: expressions, further. -/
namespace Bm
open PySem PySem.Spec PyProof.Rows L2
variable [TheK]
section
variable {c : Str → List D → CRes} {X : Cx} {W : WX}
theorem ret_self {m : E} {H : Hp} {Z O : AS} {σ : Sg} {a : At} {H' : Hp} {Z' O' : AS} (nv : ∀ i, m ≠ .var i) : Val H O H' Z' O' σ m (.at a, false) a.v none_ :=
  ⟨.at a _, fun _ z => z.elim, fun _ _ z => z.elim, fun i e => absurd e (nv i)⟩
theorem sv_neg {a : E} {ea : Expr} {p : Pos} (ha : SndV c X W a ea) : SndV c X W (.neg a) (.UnaryOp .USub ea p) := by
  obtain ⟨ta, pa, sa⟩ := ha
  refine ⟨_, pe_un un_neg pa, fun σ H Z g O Q s q => sa σ H Z g O _ s ?_⟩
  refine (PR.bind (show PR (Xp X W σ H Z O) (((den c a).val g).bind _) _ from q)).mono (fun _ _ z => z) fun x g' _ k v H' Z' O' R o va => ?_
  obtain ⟨x, l⟩ := x
  cases x with
  | «at» b =>
    cases b with
    | int i =>
      have e := rep_at va.rep
      subst e
      exact ⟨i, rfl, k (.int (-i)) H' Z' O' none_ o (ret_self (Z := Z) fun _ e => by cases e)⟩
    | _ => exact k.elim
  | _ => exact k.elim
theorem st_not {a : E} {ea : Expr} {p : Pos} (ha : SndT c X W a ea) : SndT c X W (.notE a) (.UnaryOp .Not ea p) := by
  obtain ⟨ta, pa, sa⟩ := ha
  refine ⟨_, pt_not pa, fun σ H Z g O Q s q => sa σ H Z g O _ s ?_⟩
  exact (PR.bind (show PR (Xp X W σ H Z O) (((den c a).tst g).bind _) _ from q)).mono (fun _ _ z => z) fun x g' _ k => k
theorem sv_not {a : E} {ea : Expr} {p : Pos} (ha : SndV c X W a ea) : SndV c X W (.notE a) (.UnaryOp .Not ea p) := by
  obtain ⟨ta, pa, sa⟩ := ha
  refine ⟨_, pe_not pa, fun σ H Z g O Q s q => sa σ H Z g O _ s ?_⟩
  refine (PR.bind (show PR (Xp X W σ H Z O) (((den c a).val g).bind _) _ from q)).mono (fun _ _ z => z) fun x g' _ k v H' Z' O' R o va => ?_
  obtain ⟨x, l⟩ := x
  cases x with
  | «at» b =>
    cases b with
    | bl b =>
      have e := rep_at va.rep
      subst e
      exact ⟨b, rfl, k (.bl (!b)) H' Z' O' none_ o (ret_self (Z := Z) fun _ e => by cases e)⟩
    | _ => exact k.elim
  | _ => exact k.elim
/-! ### and, or: their lists -/
def BoV (c : Str → List D → CRes) (X : Cx) (W : WX) (op : BoolOp) (m : E) (es : List Expr) : Prop := ∃ t, (∀ p, PE X (.BoolOp op es p) t) ∧ ∀ σ H Z g O Q, Sit H Z σ g O →
  PR (Xp X W σ H Z O) ((den c m).val g) (fun x g' => ∀ v H' Z' O' R, Out (Wq (quiet m) O) H Z O σ g' H' Z' O' → Val H O H' Z' O' σ (.cst .non) x v R → Q v H') → t σ H Q
def BoT (c : Str → List D → CRes) (X : Cx) (W : WX) (op : BoolOp) (m : E) (es : List Expr) : Prop := ∃ t, (∀ p, PW X (.BoolOp op es p) t) ∧ ∀ σ H Z g O Q, Sit H Z σ g O →
  PR (Xp X W σ H Z O) ((den c m).tst g) (fun b g' => ∀ H' Z' O', Out (Wq (quiet m) O) H Z O σ g' H' Z' O' → Q b H') → t σ H Q
theorem bov_one {op : BoolOp} {m : E} {e : Expr} (h : SndV c X W m e) : BoV c X W op m [e] := by
  obtain ⟨t, p, s⟩ := h
  refine ⟨t, fun _ => pe_one p, fun σ H Z g O Q st q => s σ H Z g O Q st (q.mono (fun _ _ z => z) fun x g' _ k v H' Z' O' R o va => ?_)⟩
  exact k v H' Z' O' R o ⟨va.rep, va.rz, va.own, fun _ e => by cases e⟩
theorem bot_one {op : BoolOp} {m : E} {e : Expr} (h : SndT c X W m e) : BoT c X W op m [e] := by
  obtain ⟨t, p, s⟩ := h
  cases op with
  | And => exact ⟨t, fun _ => pw_and1 p, s⟩
  | Or => exact ⟨t, fun _ => pw_or1 p, s⟩
theorem sv_bov {op : BoolOp} {m : E} {es : List Expr} {p : Pos} (h : BoV c X W op m es) (nv : ∀ i, m ≠ .var i) : SndV c X W m (.BoolOp op es p) := by
  obtain ⟨t, q, s⟩ := h
  refine ⟨t, q p, fun σ H Z g O Q st q => s σ H Z g O Q st (q.mono (fun _ _ z => z) fun x g' _ k v H' Z' O' R o va => ?_)⟩
  exact k v H' Z' O' R o ⟨va.rep, va.rz, va.own, fun i e => absurd e (nv i)⟩
theorem st_bot {op : BoolOp} {m : E} {es : List Expr} {p : Pos} (h : BoT c X W op m es) : SndT c X W m (.BoolOp op es p) := by
  obtain ⟨t, q, s⟩ := h
  exact ⟨t, (q p).pt, s⟩
theorem Out.weak {q q' : Bool} {H H' : Hp} {Z Z' O O' : AS} {σ : Sg} {g g' : List D} (s : Sit H Z σ g O) (o : Out (Wq q O) H Z O σ g' H' Z' O') (h : q = false → q' = false) : Out (Wq q' O) H Z O σ g' H' Z' O' :=
  ⟨o.sit, ⟨fun b z => s.oz b z.2, fun a u e n => o.ext.same a u e fun z => n ⟨h z.1, z.2⟩, o.ext.zold, fun a z n => o.ext.zkeep a z fun w => n ⟨h w.1, w.2⟩⟩, o.bnd⟩
theorem bov_and {a b : E} {x y : Expr} {r : List Expr} (ha : SndV c X W a x) (hb : BoV c X W .And b (y :: r)) : BoV c X W .And (.andE a b) (x :: y :: r) := by
  obtain ⟨ta, pa, sa⟩ := ha
  obtain ⟨tb, pb, sb⟩ := hb
  refine ⟨_, fun p => pe_and pa (pb p), fun σ H Z g O Q s q => sa σ H Z g O _ s ?_⟩
  refine (PR.bind (show PR (Xp X W σ H Z O) (((den c a).val g).bind _) _ from q)).mono (fun _ _ z => z) fun x g1 _ k v H1 Z1 O1 R o va => ?_
  obtain ⟨x, l⟩ := x
  cases x with
  | «at» u =>
    cases u with
    | bl u =>
      have e := rep_at va.rep
      subst e
      refine ⟨u, rfl, ?_⟩
      cases u with
      | true =>
        rw [if_pos rfl]
        refine sb σ H1 Z1 g1 O1 Q o.sit (PR.mono (show PR (Xp X W σ H Z O) ((den c b).val g1) _ from k) (fun e g' q => Xp.step s o q) fun y g2 _ k2 u H2 Z2 O2 R2 o2 vb => ?_)
        exact k2 u H2 Z2 O2 R2 (o.trans s.zok s.oz o2 (fun z => by simp [quiet, z]) (fun z => by simp [quiet, z])) (vb.lift o)
      | false =>
        rw [if_neg Bool.false_ne_true]
        exact k (.bl false) H1 Z1 O1 none_ (o.weak s fun z => by simp [quiet, z]) (ret_self (Z := Z) fun _ e => by cases e)
    | _ => exact k.elim
  | _ => exact k.elim
theorem bov_or {a b : E} {x y : Expr} {r : List Expr} (ha : SndV c X W a x) (hb : BoV c X W .Or b (y :: r)) : BoV c X W .Or (.orE a b) (x :: y :: r) := by
  obtain ⟨ta, pa, sa⟩ := ha
  obtain ⟨tb, pb, sb⟩ := hb
  refine ⟨_, fun p => pe_or pa (pb p), fun σ H Z g O Q s q => sa σ H Z g O _ s ?_⟩
  refine (PR.bind (show PR (Xp X W σ H Z O) (((den c a).val g).bind _) _ from q)).mono (fun _ _ z => z) fun x g1 _ k v H1 Z1 O1 R o va => ?_
  obtain ⟨x, l⟩ := x
  cases x with
  | «at» u =>
    cases u with
    | bl u =>
      have e := rep_at va.rep
      subst e
      refine ⟨u, rfl, ?_⟩
      cases u with
      | false =>
        rw [if_neg Bool.false_ne_true]
        refine sb σ H1 Z1 g1 O1 Q o.sit (PR.mono (show PR (Xp X W σ H Z O) ((den c b).val g1) _ from k) (fun e g' q => Xp.step s o q) fun y g2 _ k2 u H2 Z2 O2 R2 o2 vb => ?_)
        exact k2 u H2 Z2 O2 R2 (o.trans s.zok s.oz o2 (fun z => by simp [quiet, z]) (fun z => by simp [quiet, z])) (vb.lift o)
      | true =>
        rw [if_pos rfl]
        exact k (.bl true) H1 Z1 O1 none_ (o.weak s fun z => by simp [quiet, z]) (ret_self (Z := Z) fun _ e => by cases e)
    | _ => exact k.elim
  | _ => exact k.elim
theorem bot_and {a b : E} {x y : Expr} {r : List Expr} (ha : SndT c X W a x) (hb : BoT c X W .And b (y :: r)) : BoT c X W .And (.andE a b) (x :: y :: r) := by
  obtain ⟨ta, pa, sa⟩ := ha
  obtain ⟨tb, pb, sb⟩ := hb
  refine ⟨_, fun p => pw_and pa (pb p), fun σ H Z g O Q s q => sa σ H Z g O _ s ?_⟩
  refine (PR.bind (show PR (Xp X W σ H Z O) (((den c a).tst g).bind _) _ from q)).mono (fun _ _ z => z) fun u g1 _ k H1 Z1 O1 o => ?_
  cases u with
  | true =>
    rw [if_pos rfl]
    refine sb σ H1 Z1 g1 O1 Q o.sit (PR.mono (show PR (Xp X W σ H Z O) ((den c b).tst g1) _ from k) (fun e g' q => Xp.step s o q) fun y g2 _ k2 H2 Z2 O2 o2 => ?_)
    exact k2 H2 Z2 O2 (o.trans s.zok s.oz o2 (fun z => by simp [quiet, z]) (fun z => by simp [quiet, z]))
  | false =>
    rw [if_neg Bool.false_ne_true]
    exact k H1 Z1 O1 (o.weak s fun z => by simp [quiet, z])
theorem bot_or {a b : E} {x y : Expr} {r : List Expr} (ha : SndT c X W a x) (hb : BoT c X W .Or b (y :: r)) : BoT c X W .Or (.orE a b) (x :: y :: r) := by
  obtain ⟨ta, pa, sa⟩ := ha
  obtain ⟨tb, pb, sb⟩ := hb
  refine ⟨_, fun p => pw_or pa (pb p), fun σ H Z g O Q s q => sa σ H Z g O _ s ?_⟩
  refine (PR.bind (show PR (Xp X W σ H Z O) (((den c a).tst g).bind _) _ from q)).mono (fun _ _ z => z) fun u g1 _ k H1 Z1 O1 o => ?_
  cases u with
  | false =>
    rw [if_neg Bool.false_ne_true]
    refine sb σ H1 Z1 g1 O1 Q o.sit (PR.mono (show PR (Xp X W σ H Z O) ((den c b).tst g1) _ from k) (fun e g' q => Xp.step s o q) fun y g2 _ k2 H2 Z2 O2 o2 => ?_)
    exact k2 H2 Z2 O2 (o.trans s.zok s.oz o2 (fun z => by simp [quiet, z]) (fun z => by simp [quiet, z]))
  | true =>
    rw [if_pos rfl]
    exact k H1 Z1 O1 (o.weak s fun z => by simp [quiet, z])
theorem sv_ife {t a b : E} {et ea eb : Expr} {p : Pos} (ht : SndT c X W t et) (ha : SndV c X W a ea) (hb : SndV c X W b eb) : SndV c X W (.ife t a b) (.IfExp et ea eb p) := by
  obtain ⟨tt, pt, st⟩ := ht
  obtain ⟨ta, pa, sa⟩ := ha
  obtain ⟨tb, pb, sb⟩ := hb
  refine ⟨_, pe_ifExp pt pa pb, fun σ H Z g O Q s q => st σ H Z g O _ s ?_⟩
  refine (PR.bind (show PR (Xp X W σ H Z O) (((den c t).tst g).bind _) _ from q)).mono (fun _ _ z => z) fun u g1 _ k H1 Z1 O1 o => ?_
  cases u with
  | true =>
    rw [if_pos rfl]
    refine sa σ H1 Z1 g1 O1 Q o.sit (PR.mono (show PR (Xp X W σ H Z O) ((den c a).val g1) _ from k) (fun e g' q => Xp.step s o q) fun y g2 _ k2 u H2 Z2 O2 R2 o2 vb => ?_)
    have vb := vb.lift o
    exact k2 u H2 Z2 O2 R2 (o.trans s.zok s.oz o2 (fun z => by simp [quiet, z]) (fun z => by simp [quiet, z])) ⟨vb.rep, vb.rz, vb.own, fun _ e => by cases e⟩
  | false =>
    rw [if_neg Bool.false_ne_true]
    refine sb σ H1 Z1 g1 O1 Q o.sit (PR.mono (show PR (Xp X W σ H Z O) ((den c b).val g1) _ from k) (fun e g' q => Xp.step s o q) fun y g2 _ k2 u H2 Z2 O2 R2 o2 vb => ?_)
    have vb := vb.lift o
    exact k2 u H2 Z2 O2 R2 (o.trans s.zok s.oz o2 (fun z => by simp [quiet, z]) (fun z => by simp [quiet, z])) ⟨vb.rep, vb.rz, vb.own, fun _ e => by cases e⟩
/-! ### a value's truth -/
theorem tru_rep {K : PySem.W.Frag} {H : Hp} {Z : AS} {d : D} {v : V} {R : AS} {b : Bool} (r : Rep H Z d v R) (e : truD d = some b) : TruV K v H b := by
  unfold truD at e
  split at e
  · cases e; rw [rep_at r]; rfl
  · cases e; rw [rep_at r]; rfl
  · cases e; rw [rep_at r]; rfl
  · rename_i m xs
    cases e
    obtain ⟨a, vs, rfl, ha, ra, _⟩ := rep_lst r
    refine .inl ⟨vs, SqL.of ha, ?_⟩
    have := ra.len
    cases vs <;> cases xs <;> simp at this ⊢
  · rename_i xs
    cases e
    obtain ⟨a, vs, rfl, ha, ra⟩ := rep_tup r
    refine .inr (.inl ⟨vs, SqT.of ha, ?_⟩)
    have := ra.len
    cases vs <;> cases xs <;> simp at this ⊢
  · cases e
theorem st_val {m : E} {e : Expr} (h : SndV c X W m e) (vt : valTest e = true) (ht : (den c m).tst = tstOf (den c m).val) : SndT c X W m e := by
  obtain ⟨t, p, s⟩ := h
  refine ⟨_, pt_truth p (valTest_is vt _), fun σ H Z g O Q st q => s σ H Z g O _ st ?_⟩
  rw [ht] at q
  refine (PR.bind (show PR (Xp X W σ H Z O) (((den c m).val g).bind _) _ from q)).mono (fun _ _ z => z) fun x g' _ k v H' Z' O' R o va => ?_
  obtain ⟨b, e, k⟩ := k.ofO
  exact ⟨b, tru_rep va.rep e, k H' Z' O' o⟩
/-! ### lists of expressions -/
theorem sl_nil : SndL c X W .nil [] := ⟨_, pa_nil, fun σ H Z g O Q s q => q [] H Z O (fun _ => none_) (.refl s fun b z => s.oz b z.2) ⟨rfl, fun _ _ _ z => z.elim, fun _ _ z => z.elim, fun i x v e => by simp at e⟩⟩
theorem sl_cons {a b : E} {e : Expr} {es : List Expr} (pl : plainE e = true) (ha : SndV c X W a e) (hb : SndL c X W b es) : SndL c X W (.cons a b) (e :: es) := by
  obtain ⟨ta, pa, sa⟩ := ha
  obtain ⟨tb, pb, sb⟩ := hb
  refine ⟨_, pa_cons pa pb (plain_star pl _ _), fun σ H Z g O Q s q => sa σ H Z g O _ s ?_⟩
  have q : PR (Xp X W σ H Z O) (consL a b (den c a) (den c b) g) _ := q
  refine q.bind.mono (fun _ _ z => z) fun x g1 _ k v H1 Z1 O1 R1 o1 va => sb σ H1 Z1 g1 O1 _ o1.sit ?_
  refine k.bind.mono (fun e g' q => Xp.step s o1 q) fun ys g2 _ k2 vs H2 Z2 O2 F o2 vb => ?_
  split at k2
  · rename_i x' e
    obtain ⟨R', va', dj⟩ := late_ok o1 va o2 e
    have k2 := k2 (v :: vs) H2 Z2 O2 (fun i => match i with
      | 0 => fun b => x'.2 = false ∧ R' b
      | i + 1 => F i) (o1.trans s.zok s.oz o2 (fun z => by simp [quiet, z]) (fun z => by simp [quiet, z]))
    refine k2 ⟨by simp [vb.len], fun i j b h1 h2 => ?_, fun i b h => ?_, fun i y u e1 e2 => ?_⟩
    · have ap : ∀ j, (x'.2 = false ∧ R' b) → F j b → False := fun j h h' => by
        obtain ⟨hx, r⟩ := dj h.1 b h.2
        rcases (vb.fz j b h').2.2 with w | w
        · exact (va.own hx b r).1 w
        · exact not_Z o1.sit.zok w (va.rz b r)
      match i, j, h1, h2 with
      | 0, 0, _, _ => rfl
      | 0, j + 1, h1, h2 => exact (ap j h1 h2).elim
      | i + 1, 0, h1, h2 => exact (ap i h2 h1).elim
      | i + 1, j + 1, h1, h2 => rw [vb.dj i j b h1 h2]
    · match i, h with
      | 0, h => exact ⟨va'.rz b h.2, va'.own h.1 b h.2⟩
      | i + 1, h => exact ⟨(vb.fz i b h).1, (vb.fz i b h).2.1, o1.bnd' (fun _ z => z.2) (vb.fz i b h).2.2⟩
    · match i, e1, e2 with
      | 0, e1, e2 =>
        simp only [List.getElem?_cons_zero, Option.some.injEq] at e1 e2
        subst e1 e2
        by_cases hx : x'.2 = false
        · rw [if_pos hx]; exact va'.rep.mono fun b h => ⟨hx, h⟩
        · rw [if_neg hx]; exact ⟨R', va'.rz, va'.rep⟩
      | i + 1, e1, e2 =>
        simp only [List.getElem?_cons_succ] at e1 e2
        exact vb.rep i y u e1 e2
  · exact k2.elim
/-- values of their own -/
theorem allOwn_ok {H H' : Hp} {Z' O O' : AS} : ∀ {xs : List VD} {ds : List D} {vs : List V} {F : Nat → AS}, allOwn xs = some ds → Vls H O H' Z' O' xs vs F → RepA H' Z' ds vs (fun b => ∃ i, F i b) := by
  have key : ∀ (xs : List VD) (ds : List D), allOwn xs = some ds → ds.length = xs.length ∧ ∀ (i : Nat) (d : D), ds[i]? = some d → xs[i]? = some (d, false) := by
    intro xs
    induction xs with
    | nil => intro ds e; cases e; exact ⟨rfl, fun i d e => by simp at e⟩
    | cons x xs ih =>
      intro ds e
      obtain ⟨d, l⟩ := x
      simp only [allOwn] at e
      split at e
      · rename_i hl
        obtain ⟨r, e1, e2⟩ := Option.map_eq_some_iff.mp e
        subst e2 hl
        obtain ⟨h1, h2⟩ := ih r e1
        refine ⟨by simp [h1], fun i y e => ?_⟩
        cases i with
        | zero => simpa using e
        | succ i => simpa using h2 i y (by simpa using e)
      · cases e
  intro xs ds vs F e h
  obtain ⟨h1, h2⟩ := key xs ds e
  refine ⟨by rw [h1, h.len], F, fun i b z => ⟨i, z⟩, h.dj, fun i d v e1 e2 => ?_⟩
  have := h.rep i (d, false) v (h2 i d e1) e2
  simpa using this
theorem own_set {H H' : Hp} {Z' O O' : AS} {xs : List VD} {vs : List V} {F : Nat → AS} (h : Vls H O H' Z' O' xs vs F) : ∀ b, (∃ i, F i b) → Z' b ∧ ¬ O' b ∧ (O b ∨ H b = none) := fun b ⟨i, z⟩ => h.fz i b z
theorem sv_tup {m : E} {es : List Expr} {k : Nat} {p : Pos} (h : SndL c X W m es) : SndV c X W (.tupE m) (.Tuple es k p) := by
  obtain ⟨t, pa, s⟩ := h
  refine ⟨_, pe_tup pa, fun σ H Z g O Q st q => s σ H Z g O _ st ?_⟩
  refine (PR.bind (show PR (Xp X W σ H Z O) (((den c m).lst g).bind _) _ from q)).mono (fun _ _ z => z) fun xs g' _ k vs H' Z' O' F o vl => ?_
  obtain ⟨z, e, k⟩ := k.ofO
  unfold mkTup at e
  split at e
  · rename_i ds hd
    split at e
    · rename_i hl
      cases e
      have ra := allOwn_ok hd vl
      refine ⟨by rw [← ra.len]; exact hl, fun p hp => ?_⟩
      exact k (.ref p) _ Z' O' _ (o.new st (zok_new o.sit.zok hp) (ext_new hp)) ⟨new_tup o.sit.zok ra hp, fun b z => (own_set vl b z).1, fun _ b z => (own_set vl b z).2, fun _ e => by cases e⟩
    · cases e
  · cases e
theorem sv_lst {m : E} {es : List Expr} {p : Pos} (h : SndL c X W m es) : SndV c X W (.lstE m) (.List es p) := by
  obtain ⟨t, pa, s⟩ := h
  refine ⟨_, pe_lst pa, fun σ H Z g O Q st q => s σ H Z g O _ st ?_⟩
  refine (PR.bind (show PR (Xp X W σ H Z O) (((den c m).lst g).bind _) _ from q)).mono (fun _ _ z => z) fun xs g' _ k vs H' Z' O' F o vl => ?_
  obtain ⟨z, e, k⟩ := k.ofO
  unfold mkLst at e
  split at e
  · rename_i ds hd
    split at e
    · rename_i hl
      cases e
      have ra := allOwn_ok hd vl
      refine ⟨by rw [← ra.len]; exact hl, fun p hp => ?_⟩
      refine k (.ref p) _ (Zn Z' p) O' _ (o.new st (zok_newO o.sit.zok hp trivial) (ext_newO hp)) ⟨new_lst o.sit.zok ra (fun b z => (own_set vl b z).1) hp, fun b z => ?_, fun _ b z => ?_, fun _ e => by cases e⟩
      · rcases z with rfl | z
        · exact .inr rfl
        · exact .inl (own_set vl b z).1
      · rcases z with rfl | z
        · exact ⟨fun w => not_Z o.sit.zok hp (o.sit.oz _ w), (o.new_old (fun _ z => z.2) _ hp).symm⟩
        · exact (own_set vl b z).2
    · cases e
  · cases e
/-! ### subscripts -/
theorem atI_rel {H : Hp} {Z R : AS} {xs : List D} {vs : List V} {j : Int} {d : D} (ra : RepA H Z xs vs R) (e : atI xs j = some d) : ∃ v, atI vs j = some v ∧ Rep H Z d v R := by
  unfold atI at e ⊢
  rw [← ra.len]
  cases h : ixN xs.length j with
  | none => rw [h] at e; cases e
  | some k =>
    rw [h] at e
    exact ra.get e
theorem idx_ok {K : PySem.W.Frag} {H : Hp} {Z R1 R2 : AS} {x z : VD} {y : D} {v u : V} (e : idxD x y = some z) (r1 : Rep H Z x.1 v R1) (r2 : Rep H Z y u R2) :
    ∃ d w, mkV d x.2 = some z ∧ Rep H Z d w R1 ∧ ∀ (Q : VK), Q w H → rIxL K v u H Q ∨ rIxT K v u H Q := by
  unfold idxD at e
  split at e
  · rename_i m xs l j
    split at e
    · rename_i d hd
      obtain ⟨a, vs, rfl, hh, ra, _⟩ := rep_lst r1
      obtain ⟨w, hw, rw'⟩ := atI_rel ra hd
      rw [rep_at r2]
      exact ⟨d, w, e, rw', fun Q q => .inl ⟨a, vs, j, w, rfl, rfl, SqL.of hh, hw, q⟩⟩
    · cases e
  · rename_i xs l j
    split at e
    · rename_i d hd
      obtain ⟨a, vs, rfl, hh, ra⟩ := rep_tup r1
      obtain ⟨w, hw, rw'⟩ := atI_rel ra hd
      rw [rep_at r2]
      exact ⟨d, w, e, rw', fun Q q => .inr ⟨a, vs, j, w, rfl, rfl, SqT.of hh, hw, q⟩⟩
    · cases e
  · cases e
theorem sv_idx {a j : E} {ea ej : Expr} {p : Pos} (pl : plainE ej = true) (ha : SndV c X W a ea) (hj : SndV c X W j ej) : SndV c X W (.idx a j) (.Subscript ea ej p) := by
  obtain ⟨ta, tb, pa, pb, h2⟩ := two_ok ha hj
  refine ⟨_, pe_ix (ix_list.or ix_tup) pa pb (plain_ix pl), fun σ H Z g O Q s q => h2 σ H Z g O _ s ?_⟩
  refine (PR.bind (show PR (Xp X W σ H Z O) ((two a j (den c a) (den c j) g).bind _) _ from q)).mono (fun _ _ z => z) fun pr g' _ k v u H' Z' O' R1 R2 ot va vb dj => ?_
  obtain ⟨z, e, k⟩ := k.ofO
  obtain ⟨d, w, e2, r, go⟩ := idx_ok (K := X.K) e va.rep vb.rep
  refine go _ ?_
  obtain ⟨nd, rfl⟩ := mkV_eq e2
  by_cases p : d.pers = true
  · exact k w H' Z' O' none_ ot ⟨r.pers p, fun _ z => z.elim, fun _ _ z => z.elim, fun _ e => by cases e⟩
  · refine k w H' Z' O' R1 ot ⟨r, va.rz, fun z b h => ?_, fun _ e => by cases e⟩
    exact va.own (by simpa [p] using z) b h
/-- a slice's part -/
def SndO (c : Str → List D → CRes) (X : Cx) (W : WX) (m : E) (e : Option Expr) : Prop := ∃ t, PO X e t ∧ ∀ σ H Z g O Q, Sit H Z σ g O →
  PR (Xp X W σ H Z O) (prtD m (den c m) g) (fun i g' => ∀ H' Z' O', Out (Wq (quiet m) O) H Z O σ g' H' Z' O' → Q i H') → t σ H Q
theorem so_none : SndO c X W (.cst .non) none := ⟨_, po_none, fun σ H Z g O Q s q => (show PR (Xp X W σ H Z O) (.ok none g) _ from q) H Z O (.refl s fun b z => s.oz b z.2)⟩
theorem so_some {m : E} {e : Expr} (h : SndV c X W m e) (nn : m ≠ .cst .non) : SndO c X W m (some e) := by
  obtain ⟨t, p, s⟩ := h
  refine ⟨_, po_some p, fun σ H Z g O Q st q => s σ H Z g O _ st (q.bind.mono (fun _ _ z => z) fun x g' _ k v H' Z' O' R o va => ?_)⟩
  obtain ⟨i, e, k⟩ := k.ofO
  have e : (match x.1 with
    | .at (.int i) => some (some i)
    | _ => none) = some i := by
    cases m with
    | cst a =>
      cases a with
      | non => exact absurd rfl nn
      | _ => exact e
    | _ => exact e
  split at e
  · rename_i j hj
    cases e
    have r := va.rep
    rw [hj] at r
    rw [rep_at r]
    exact ⟨j, rfl, k H' Z' O' o⟩
  · cases e
theorem cut_rel {xs : List D} {vs : List V} {lo hi : Option Int} (l : xs.length = vs.length) : (cutD xs lo hi).length = (cutV vs lo hi).length ∧ ∀ (i : Nat) (d : D) (v : V), (cutD xs lo hi)[i]? = some d → (cutV vs lo hi)[i]? = some v → ∃ j : Nat, xs[j]? = some d ∧ vs[j]? = some v := by
  unfold cutD cutV
  rw [← l]
  refine ⟨by simp [l], fun i d v e1 e2 => ?_⟩
  rw [List.getElem?_take] at e1 e2
  split at e1
  · rename_i hi
    rw [if_pos hi] at e2
    rw [List.getElem?_drop] at e1 e2
    exact ⟨_, e1, e2⟩
  · cases e1
theorem ret_new {xs : List D} {vs : List V} {m : E} {H : Hp} {Z O : AS} {σ : Sg} {g g' : List D} {H' : Hp} {Z' O' : AS} {q : Bool} {Q : VK} (s : Sit H Z σ g O) (o : Out (Wq q O) H Z O σ g' H' Z' O') (ra : RepA H' Z' xs vs none_)
    (k : ∀ v H2 Z2 O2 R, Out (Wq q O) H Z O σ g' H2 Z2 O2 → Val H O H2 Z2 O2 σ m (.nd (.lst true) xs, false) v R → Q v H2) (nv : ∀ i, m ≠ .var i) : ∀ p, H' p = none → Q (.ref p) (upd H' p (.lst vs)) := fun p hp => by
  refine k (.ref p) _ (Zn Z' p) O' _ (o.new s (zok_newO o.sit.zok hp trivial) (ext_newO hp)) ⟨new_lst o.sit.zok ra (fun _ z => z.elim) hp, fun b z => ?_, fun _ b z => ?_, fun i e => absurd e (nv i)⟩
  · exact z.elim (fun e => .inr e) fun z => z.elim
  · rcases z with rfl | z
    · exact ⟨fun w => not_Z o.sit.zok hp (o.sit.oz _ w), (o.new_old (fun _ z => z.2) _ hp).symm⟩
    · exact z.elim
theorem sv_slc {a lo hi : E} {ea : Expr} {el eh : Option Expr} {p p2 : Pos} (kk : X.K = TheK.K) (ha : SndV c X W a ea) (hl : SndO c X W lo el) (hh : SndO c X W hi eh) : SndV c X W (.slc a lo hi) (.Subscript ea (.Slice el eh none p2) p) := by
  obtain ⟨ta, pa, sa⟩ := ha
  obtain ⟨tl, pl, sl⟩ := hl
  obtain ⟨th, ph, sh⟩ := hh
  refine ⟨_, pe_slice sl_list pa pl ph, fun σ H Z g O Q s q => sa σ H Z g O _ s ?_⟩
  refine (PR.bind (show PR (Xp X W σ H Z O) (((den c a).val g).bind _) _ from q)).mono (fun _ _ z => z) fun x g1 _ k v H1 Z1 O1 R o1 va => ?_
  refine sl σ H1 Z1 g1 O1 _ o1.sit (k.bind.mono (fun e g' q => Xp.step s o1 q) fun l g2 _ k2 H2 Z2 O2 o2 => ?_)
  have o12 : Out (Wq (quiet a && quiet lo) O) H Z O σ g2 H2 Z2 O2 := o1.trans s.zok s.oz o2 (fun z => by simp [z]) (fun z => by simp [z])
  refine sh σ H2 Z2 g2 O2 _ o2.sit (k2.bind.mono (fun e g' q => Xp.step s o12 q) fun h g3 _ k3 H3 Z3 O3 o3 => ?_)
  have o13 : Out (Wq (quiet a && quiet lo && quiet hi) O) H Z O σ g3 H3 Z3 O3 := o12.trans s.zok s.oz o3 (fun z => by simp only [z, Bool.false_and]) (fun z => by simp only [z, Bool.and_false])
  have o23 : Out (Wq (quiet (.cons lo hi)) O1) H1 Z1 O1 σ g3 H3 Z3 O3 := o2.trans o1.sit.zok o1.sit.oz o3 (fun z => by simp [quiet, z]) (fun z => by simp [quiet, z])
  split at k3
  · rename_i x' e
    obtain ⟨R', va', dj⟩ := late_ok o1 va o23 e
    obtain ⟨z, e2, k4⟩ := k3.ofO
    unfold slcD at e2
    split at e2
    · rename_i m xs l'
      split at e2
      · rename_i hs
        cases e2
        obtain ⟨p, vs, rfl, hp, ra, _⟩ := rep_lst va'.rep
        have rp := ra.pers hs
        exact ⟨p, vs, rfl, SqL.of hp, ret_new s o13 (rp.of_get (cut_rel rp.len).1 (cut_rel rp.len).2) k4 fun _ e => by cases e⟩
      · cases e2
    · rename_i xs l'
      split at e2
      · rename_i hs
        cases e2
        obtain ⟨p, vs, rfl, hp, ra⟩ := rep_scr va'.rep
        exact ⟨p, vs, rfl, by rw [kk]; exact hp, ret_new s o13 (ra.of_get (cut_rel ra.len).1 (cut_rel ra.len).2) k4 fun _ e => by cases e⟩
      · cases e2
    · cases e2
  · exact k3.elim
theorem sv_rev {a : E} {ea : Expr} {k : Nat} {p1 p2 p3 p : Pos} (ha : SndV c X W a ea) : SndV c X W (.rev a) (.Subscript ea (.Slice none none (some (.UnaryOp .USub (.Constant (.int 1) k p1) p2)) p3) p) := by
  obtain ⟨ta, pa, sa⟩ := ha
  refine ⟨_, pe_revL pa, fun σ H Z g O Q s q => sa σ H Z g O _ s ?_⟩
  refine (PR.bind (show PR (Xp X W σ H Z O) (((den c a).val g).bind _) _ from q)).mono (fun _ _ z => z) fun x g1 _ k v H1 Z1 O1 R o1 va => ?_
  obtain ⟨z, e, k⟩ := k.ofO
  unfold revD at e
  split at e
  · rename_i m xs l _
    split at e
    · rename_i hs
      cases e
      obtain ⟨p, vs, rfl, hp, ra, _⟩ := rep_lst va.rep
      have rp := ra.pers hs
      refine ⟨p, vs, rfl, SqL.of hp, ret_new s o1 (rp.of_get (by simp [rp.len]) fun i d v e1 e2 => ?_) k fun _ e => by cases e⟩
      have hi : i < xs.length := by
        have := (List.getElem?_eq_some_iff.mp e1).1
        simpa using this
      rw [List.getElem?_reverse hi] at e1
      rw [List.getElem?_reverse (by rw [← rp.len]; exact hi), ← rp.len] at e2
      exact ⟨_, e1, e2⟩
    · cases e
  · cases e
theorem sv_frz {a : E} {e : Expr} (ha : SndV c X W a e) : SndV c X W (.frz a) e := by
  obtain ⟨ta, pa, sa⟩ := ha
  refine ⟨_, pa, fun σ H Z g O Q s q => sa σ H Z g O _ s ?_⟩
  refine (PR.bind (show PR (Xp X W σ H Z O) (((den c a).val g).bind _) _ from q)).mono (fun _ _ z => z) fun x g1 _ k v H1 Z1 O1 R o1 va => ?_
  split at k
  · rename_i hx
    have dj := va.own hx
    have ex : Ext R H1 Z1 H1 (fun b => Z1 b ∧ ¬ R b) := ⟨va.rz, fun _ _ q _ => q, fun _ z => .inl z.1, fun b z n => ⟨z, n⟩⟩
    have zk : ZOk H1 (fun b => Z1 b ∧ ¬ R b) := fun b z => o1.sit.zok b z.1
    refine k v H1 (fun b => Z1 b ∧ ¬ R b) O1 none_ ⟨?_, ?_, o1.bnd⟩ ⟨va.rep.frz _ fun b z => z, fun _ z => z.elim, fun _ _ z => z.elim, fun _ e => by cases e⟩
    · obtain ⟨F, f1, f2, r⟩ := o1.sit.rep
      refine ⟨zk, fun b q => ⟨o1.sit.oz b q, fun z => (dj b z).1 q⟩, o1.sit.len, F, f1, f2, fun i d e => ?_⟩
      rcases r i d e with h | ⟨u, h1, h2⟩
      · exact .inl h
      · exact .inr ⟨u, h1, h2.ext o1.sit.zok ex fun b q z => (dj b z).1 (f1 i b q)⟩
    · refine o1.ext.trans s.zok ex (fun b z => ⟨rfl, z.2⟩) (fun b z => ?_) (fun b z => s.oz b z.2)
      rcases (dj b z).2 with w | w
      · exact .inl ⟨rfl, w⟩
      · exact .inr w
  · exact k.elim
end
end Bm

set_option maxHeartbeats 1000000
/-! B9: built-in functions. -/
namespace Bm
open PySem PySem.Spec PyProof.Rows L2
variable [TheK]
theorem intsD_eq : ∀ {xs : List D} {ns : List Int}, intsD xs = some ns → xs = ns.map D.int
  | [], ns, h => by cases h; rfl
  | .at (.int i) :: xs, ns, h => by
    obtain ⟨r, e1, e2⟩ := Option.map_eq_some_iff.mp (show (intsD xs).map (i :: ·) = some ns from h)
    subst e2
    rw [intsD_eq e1]
    rfl
  | .at .non :: _, _, h => by simp [intsD] at h
  | .at (.bl _) :: _, _, h => by simp [intsD] at h
  | .at (.str _) :: _, _, h => by simp [intsD] at h
  | .dead :: _, _, h => by simp [intsD] at h
  | .nd _ _ :: _, _, h => by simp [intsD] at h
theorem blsD_eq : ∀ {xs : List D} {ns : List Bool}, blsD xs = some ns → xs = ns.map D.bl
  | [], ns, h => by cases h; rfl
  | .at (.bl i) :: xs, ns, h => by
    obtain ⟨r, e1, e2⟩ := Option.map_eq_some_iff.mp (show (blsD xs).map (i :: ·) = some ns from h)
    subst e2
    rw [blsD_eq e1]
    rfl
  | .at .non :: _, _, h => by simp [blsD] at h
  | .at (.int _) :: _, _, h => by simp [blsD] at h
  | .at (.str _) :: _, _, h => by simp [blsD] at h
  | .dead :: _, _, h => by simp [blsD] at h
  | .nd _ _ :: _, _, h => by simp [blsD] at h
theorem minL_ok : ∀ {ns : List Int}, ns ≠ [] → minL ns ∈ ns ∧ ∀ y, y ∈ ns → minL ns ≤ y
  | [], h => absurd rfl h
  | [x], _ => by simp [minL]
  | x :: y :: r, _ => by
    obtain ⟨h1, h2⟩ := minL_ok (ns := y :: r) (by simp)
    show (if minL (y :: r) < x then minL (y :: r) else x) ∈ x :: y :: r ∧ ∀ z, z ∈ x :: y :: r → (if minL (y :: r) < x then minL (y :: r) else x) ≤ z
    split
    · refine ⟨List.mem_cons_of_mem _ h1, fun z hz => ?_⟩
      rcases List.mem_cons.mp hz with rfl | hz
      · omega
      · exact h2 z hz
    · refine ⟨List.mem_cons_self, fun z hz => ?_⟩
      rcases List.mem_cons.mp hz with rfl | hz
      · omega
      · have := h2 z hz; omega
theorem maxL_ok : ∀ {ns : List Int}, ns ≠ [] → maxL ns ∈ ns ∧ ∀ y, y ∈ ns → y ≤ maxL ns
  | [], h => absurd rfl h
  | [x], _ => by simp [maxL]
  | x :: y :: r, _ => by
    obtain ⟨h1, h2⟩ := maxL_ok (ns := y :: r) (by simp)
    show (if x < maxL (y :: r) then maxL (y :: r) else x) ∈ x :: y :: r ∧ ∀ z, z ∈ x :: y :: r → z ≤ (if x < maxL (y :: r) then maxL (y :: r) else x)
    split
    · refine ⟨List.mem_cons_of_mem _ h1, fun z hz => ?_⟩
      rcases List.mem_cons.mp hz with rfl | hz
      · omega
      · exact h2 z hz
    · refine ⟨List.mem_cons_self, fun z hz => ?_⟩
      rcases List.mem_cons.mp hz with rfl | hz
      · omega
      · have := h2 z hz; omega
/-- the values of arguments that are read -/
structure Arg1 (H : Hp) (Z : AS) (xs : List VD) (vs : List V) : Prop where
  len : xs.length = vs.length
  rep : ∀ (i : Nat) (x : VD) (v : V), xs[i]? = some x → vs[i]? = some v → ∃ R : AS, (∀ b, R b → Z b) ∧ Rep H Z x.1 v R
theorem Vls.args {H H' : Hp} {O Z' O' : AS} {xs : List VD} {vs : List V} {F : Nat → AS} (h : Vls H O H' Z' O' xs vs F) : Arg1 H' Z' xs vs :=
  ⟨h.len, fun i x v e1 e2 => by
    have := h.rep i x v e1 e2
    split at this
    · exact ⟨F i, fun b z => (h.fz i b z).1, this⟩
    · exact this⟩
theorem Arg1.one {H : Hp} {Z : AS} {x : VD} {vs : List V} (h : Arg1 H Z [x] vs) : ∃ v R, vs = [v] ∧ (∀ b, R b → Z b) ∧ Rep H Z x.1 v R := by
  obtain ⟨l, r⟩ := h
  match vs, l with
  | [v], _ =>
    obtain ⟨R, h1, h2⟩ := r 0 x v rfl rfl
    exact ⟨v, R, rfl, h1, h2⟩
theorem Arg1.two {H : Hp} {Z : AS} {x y : VD} {vs : List V} (h : Arg1 H Z [x, y] vs) : ∃ v u R1 R2, vs = [v, u] ∧ Rep H Z x.1 v R1 ∧ Rep H Z y.1 u R2 := by
  obtain ⟨l, r⟩ := h
  match vs, l with
  | [v, u], _ =>
    obtain ⟨R1, _, h1⟩ := r 0 x v rfl rfl
    obtain ⟨R2, _, h2⟩ := r 1 y u rfl rfl
    exact ⟨v, u, R1, R2, rfl, h1, h2⟩
theorem Arg1.three {H : Hp} {Z : AS} {x y z : VD} {vs : List V} (h : Arg1 H Z [x, y, z] vs) : ∃ v u w R1 R2 R3, vs = [v, u, w] ∧ Rep H Z x.1 v R1 ∧ Rep H Z y.1 u R2 ∧ Rep H Z z.1 w R3 := by
  obtain ⟨l, r⟩ := h
  match vs, l with
  | [v, u, w], _ =>
    obtain ⟨R1, _, h1⟩ := r 0 x v rfl rfl
    obtain ⟨R2, _, h2⟩ := r 1 y u rfl rfl
    obtain ⟨R3, _, h3⟩ := r 2 z w rfl rfl
    exact ⟨v, u, w, R1, R2, R3, rfl, h1, h2, h3⟩
theorem ints_vs {H : Hp} {Z R : AS} {ns : List Int} {vs : List V} (h : RepA H Z (ns.map D.int) vs R) : vs = ns.map V.int := by
  apply List.ext_getElem?
  intro i
  rw [List.getElem?_map]
  cases e : ns[i]? with
  | none =>
    have hi := List.getElem?_eq_none_iff.mp e
    have l := h.len
    rw [List.length_map] at l
    rw [List.getElem?_eq_none (by omega)]
    rfl
  | some n =>
    obtain ⟨v, h1, h2⟩ := h.get (i := i) (d := .int n) (by rw [List.getElem?_map, e]; rfl)
    rw [h1, rep_at h2]
    rfl
theorem bls_vs {H : Hp} {Z R : AS} {ns : List Bool} {vs : List V} (h : RepA H Z (ns.map D.bl) vs R) : vs = ns.map V.bl := by
  apply List.ext_getElem?
  intro i
  rw [List.getElem?_map]
  cases e : ns[i]? with
  | none =>
    have hi := List.getElem?_eq_none_iff.mp e
    have l := h.len
    rw [List.length_map] at l
    rw [List.getElem?_eq_none (by omega)]
    rfl
  | some n =>
    obtain ⟨v, h1, h2⟩ := h.get (i := i) (d := .bl n) (by rw [List.getElem?_map, e]; rfl)
    rw [h1, rep_at h2]
    rfl
/-! ### sorted -/
def rSortD (K : PySem.W.Frag) : List V → Hp → VK → Prop := fun vs H Q => ∃ (a : Addr) (bs : List (V × D)), vs = [.ref a] ∧ SqL K H a (bs.map (·.1)) ∧ (∀ b ∈ bs, Dp K H b.1 b.2.toP) ∧ sortOk (bs.map (·.2)) = true ∧
  ∀ p, H p = none → Q (.ref p) (upd H p (.lst ((bs.mergeSort (PySem.W.dataLe false fun b => b.2.toP)).map (·.1))))
theorem each_vals {bs : List (V × D)} : ∀ {its : List Value}, Vals (bs.map (·.1)) its → PySem.W.EachIs (fun v (b : V × D) => RelV b.1 v) its bs := by
  induction bs with
  | nil => intro its h; cases h; exact .nil
  | cons b bs ih => intro its h; cases h with | cons r t => exact .cons r (ih t)
theorem vals_each {bs : List (V × D)} : ∀ {its : List Value}, PySem.W.EachIs (fun v (b : V × D) => RelV b.1 v) its bs → Vals (bs.map (·.1)) its := by
  induction bs with
  | nil => intro its h; cases h; exact .nil
  | cons b bs ih => intro its h; cases h with | cons r t => exact .cons r (ih t)
theorem sortOk_parts {xs : List D} (h : sortOk xs = true) : isPL xs = true ∧ persL xs = true ∧ PySem.W.AllAlike (xs.map D.toP) ∧ PySem.W.Sortable (xs.map D.toP) ∧ ∀ x ∈ xs, x.toP.depth ≤ 64 := by
  unfold sortOk at h
  simp only [Bool.and_eq_true] at h
  obtain ⟨⟨⟨⟨h1, h2⟩, h3⟩, h4⟩, h5⟩ := h
  rw [toPL_eq] at h3 h4 h5
  refine ⟨h1, h2, fun d hd d' hd' => ?_, ?_, fun x hx => ?_⟩
  · have := List.all_eq_true.mp h3 d hd
    exact List.all_eq_true.mp this d' hd'
  · rcases Bool.or_eq_true_iff.mp h4 with h | h
    · refine .inl fun d hd => ?_
      have := List.all_eq_true.mp h d hd
      unfold tupleB at this
      split at this
      · exact ⟨_, _, rfl⟩
      · cases this
    · refine .inr fun d hd => ?_
      have := List.all_eq_true.mp h d hd
      unfold otherB at this
      split at this
      · cases this
      · cases this
      · rename_i n1 n2
        exact ⟨n1, n2⟩
  · have := List.all_eq_true.mp h5 x.toP (List.mem_map.mpr ⟨x, hx, rfl⟩)
    simpa using this
theorem cr_sortD {X : Cx} (hu : X.A.units + 128 < cLine) : CallR X (.builtin "sorted") (rSortD X.K) := by
  intro pins s σ H xs us Q I r h
  obtain ⟨a, bs, rfl, hl, dp, ok, k⟩ := h
  obtain ⟨u, rfl, ru⟩ := vals1 r
  obtain rfl : u = Value.ref a := ru
  obtain ⟨h1, h2, h3, h4, h5⟩ := sortOk_parts ok
  rw [List.map_map] at h3 h4
  obtain ⟨its, rv, pl, hz⟩ := I.list hl
  have er : ∀ {bs : List (V × D)} {its : List Value}, (∀ b ∈ bs, Dp X.K H b.1 b.2.toP) → Vals (bs.map (·.1)) its → PySem.W.EachIs (fun v (b : V × D) => ∃ as, Reads s.heap v b.2.toP as) its bs := by
    intro bs
    induction bs with
    | nil => intro its _ h; cases h; exact .nil
    | cons b bs ih =>
      intro its d h
      cases h with
      | cons r t => exact .cons (Dp.reads I _ _ _ (d b (by simp)) r) (ih (fun y hy => d y (by simp [hy])) t)
  refine PySem.W.sorted_data (R := fun v (b : V × D) => RelV b.1 v) (enc := fun b : V × D => b.2.toP) pl.isList (each_vals rv) (er dp rv) h3 h4 (by rw [List.length_map] at hz; exact hz) (fun b hb => ?_) fun out ho eo => ?_
  · have := h5 b.2 (List.mem_map.mpr ⟨b, hb, rfl⟩)
    show X.A.units + 2 + b.2.toP.depth < cLine
    omega
  · obtain ⟨c, hc⟩ := sortedAll_at s.heap its (List.toArray out)
    have rv' := vals_each eo
    refine ⟨.ref (s.heap.objs.size + 1), _, I.laid (t' := s.toks) (o := .lst ((bs.mergeSort (PySem.W.dataLe false fun b => b.2.toP)).map (·.1))) (fun b u q => sortedAll_old q) (Nat.le_succ _) ⟨?_, out, c, rv', hc⟩, rfl, k _ (I.hok.fresh (Nat.le_succ _))⟩
    rw [rv'.length, ho]
    rw [List.length_map] at hz
    exact hz
/-! ### repr -/
mutual
theorem toP_noDict : ∀ d : D, d.toP.hasDict = false
  | .dead => by simp [D.toP, PyData.hasDict]
  | .at a => by cases a <;> simp [D.toP, PyData.hasDict]
  | .nd k xs => by
    have := toPL_noDict xs
    cases k <;> simp [D.toP, PyData.hasDict, this]
theorem toPL_noDict : ∀ xs : List D, PyData.hasDictAll (toPL xs) = false
  | [] => by simp [toPL, PyData.hasDictAll]
  | x :: xs => by simp [toPL, PyData.hasDictAll, toP_noDict x, toPL_noDict xs]
end
def rRepr (K : PySem.W.Frag) : List V → Hp → VK → Prop := fun vs H Q => ∃ (a : Addr) (d : D), vs = [.ref a] ∧ Dp K H (.ref a) d.toP ∧ d.toP.showable = true ∧ d.toP.depth ≤ 64 ∧ d.toP.shown.length ≤ sizeLine ∧ Q (.str d.toP.shown) H
theorem cr_repr {X : Cx} (hu : X.A.units + 128 < cLine) (hg : X.A.guards = some []) : CallR X (.builtin "repr") (rRepr X.K) := by
  intro pins s σ H xs us Q I r h
  obtain ⟨a, d, rfl, dp, h1, h2, h3, k⟩ := h
  obtain ⟨u, rfl, ru⟩ := vals1 r
  obtain rfl : u = Value.ref a := ru
  obtain ⟨as, rd⟩ := Dp.reads I _ _ _ dp (show RelV (.ref a) (.ref a) from rfl)
  refine repr_of_reads' rd h1 (fun e => by rw [toP_noDict] at e; cases e) hg (by omega) (fun _ _ q => q) (fun h' u tk hk => ?_) h3
  exact ⟨.str d.toP.shown, H, I.kept hk, ⟨u, rfl⟩, k⟩
/-! ### all of them -/
inductive Kv where
  | fn (id : String)
  | ty (n : String)
def bltV : Blt → Kv
  | .len => .fn "len"
  | .abs => .fn "abs"
  | .int => .ty "int"
  | .bool => .ty "bool"
  | .min => .fn "min"
  | .max => .fn "max"
  | .sum => .fn "sum"
  | .sorted => .fn "sorted"
  | .list => .ty "list"
  | .tuple => .ty "tuple"
  | .all => .fn "all"
  | .any => .fn "any"
  | .repr => .fn "repr"
  | .str => .ty "str"
  | .range => .ty "range"
  | .enumerate => .ty "enumerate"
  | .zip => .ty "zip"
def Kv.v : Kv → Value
  | .fn id => .builtin id
  | .ty n => .type n
theorem blt_boot (b : Blt) : bootBuiltins (bltName b) = some (bltV b).v := by cases b <;> decide +kernel
def rBlt (K : PySem.W.Frag) : Blt → List V → Hp → VK → Prop
  | .len => fun xs H Q => ∃ x n, xs = [x] ∧ LenV K x H n ∧ Q (.int n) H
  | .abs => fun xs H Q => ∃ i, xs = [.int i] ∧ Q (.int (if i < 0 then -i else i)) H
  | .int => fun xs H Q => (∃ i, xs = [.int i] ∧ Q (.int i) H) ∨ ∃ k, xs = [.bl k] ∧ Q (.int (if k then 1 else 0)) H
  | .bool => fun xs H Q => (∃ i, xs = [.int i] ∧ Q (.bl (i != 0)) H) ∨ ∃ k, xs = [.bl k] ∧ Q (.bl k) H
  | .min => fun xs H Q => (∃ i j, xs = [.int i, .int j] ∧ Q (.int (if j < i then j else i)) H) ∨ rMin K xs H Q
  | .max => fun xs H Q => (∃ i j, xs = [.int i, .int j] ∧ Q (.int (if j > i then j else i)) H) ∨ rMax K xs H Q
  | .sum => rSum K
  | .sorted => rSortD K
  | .list => fun xs H Q => ∃ p ys, xs = [.ref p] ∧ (SqL K H p ys ∨ SqT K H p ys) ∧ ∀ l, H l = none → Q (.ref l) (upd H l (.lst ys))
  | .tuple => fun xs H Q => ∃ p ys, xs = [.ref p] ∧ ((SqL K H p ys ∧ ∀ l, H l = none → Q (.ref l) (upd H l (.tup ys))) ∨ (SqT K H p ys ∧ Q (.ref p) H))
  | .all => rAll K
  | .any => rAny K
  | .repr => fun xs H Q => (∃ i, xs = [.int i] ∧ i.natAbs.log2 < 1920 ∧ Q (.str (toString i)) H) ∨ rRepr K xs H Q
  | .str => fun xs H Q => ∃ i, xs = [.int i] ∧ i.natAbs.log2 < 1920 ∧ Q (.str (toString i)) H
  | _ => fun _ _ _ => False
theorem blt_call {X : Cx} (hc : X.calm = true) (hu : X.A.units + 128 < cLine) (hg : X.A.guards = some []) (b : Blt) : CallR X (bltV b).v (rBlt X.K b) := by
  cases b with
  | len => exact call_len
  | abs => exact call_abs
  | int => exact call_int1
  | bool => exact call_bool1
  | min => exact (call_min2 hc).or (cr_min hc)
  | max => exact (call_max2 hc).or (cr_max hc)
  | sum => exact cr_sum hc
  | sorted => exact cr_sortD hu
  | list => exact call_list_of
  | tuple => exact call_tuple_of
  | all => exact cr_all hc
  | any => exact cr_any hc
  | repr => exact SkE.call_repr_int.or (cr_repr hu hg)
  | str => exact call_str_int
  | range => exact fun _ _ _ _ _ _ _ _ _ h => h.elim
  | enumerate => exact fun _ _ _ _ _ _ _ _ _ h => h.elim
  | zip => exact fun _ _ _ _ _ _ _ _ _ h => h.elim
/-- the results: new things alone are owned -/
def BltOk (r : List V → Hp → VK → Prop) (f : List VD → Option VD) : Prop := ∀ (H : Hp) (Z : AS) (xs : List VD) (vs : List V) (z : VD) (Q : VK), ZOk H Z → Arg1 H Z xs vs → f xs = some z →
  (z.2 = false → ∀ w H' Z' R, ZOk H' Z' → Ext none_ H Z H' Z' → Rep H' Z' z.1 w R → (∀ b, R b → Z' b) → (∀ b, R b → H b = none) → Q w H') → r vs H Q
theorem sort_pairs (xs : List D) (vs : List V) (l : xs.length = vs.length) : (((vs.zip xs).mergeSort (PySem.W.dataLe false fun b => b.2.toP)).map (·.2)) = sortD xs := by
  unfold sortD
  have e : (vs.zip xs).map (·.2) = xs := by rw [List.map_snd_zip]; omega
  have q := List.map_mergeSort (s := PySem.W.dataLe false D.toP) (r := PySem.W.dataLe false fun b : V × D => b.2.toP) (f := fun b : V × D => b.2) (l := vs.zip xs) (fun a _ b _ => rfl)
  rw [e] at q
  exact q
theorem rBlt_ok (K : PySem.W.Frag) (b : Blt) : BltOk (rBlt K b) (bltD b) := by
  intro H Z xs vs z Q zk ar e k
  have atk : ∀ {a : At}, z = (.at a, false) → Q a.v H := fun {a} h => by
    subst h
    exact k rfl _ H Z none_ zk (.refl fun _ z => z.elim) (.at a _) (fun _ z => z.elim) fun _ z => z.elim
  have lsk : ∀ {ys : List D} {us : List V}, z = (.nd (.lst true) ys, false) → RepA H Z ys us none_ → ∀ p, H p = none → Q (.ref p) (upd H p (.lst us)) := fun {ys us} h ra p hp => by
    subst h
    exact k rfl _ _ (Zn Z p) (fun b => b = p ∨ none_ b) (zok_newO zk hp trivial) (ext_newO hp) (new_lst zk ra (fun _ z => z.elim) hp) (fun b z => z.elim (fun e => .inr e) fun e => e.elim) fun b z => z.elim (fun e => by rw [e]; exact hp) fun e => e.elim
  unfold bltD at e
  split at e
  all_goals first
    | (cases e; done)
    | skip
  · obtain ⟨v, R, rfl, _, r⟩ := ar.one
    obtain ⟨a, us, rfl, ha, ra, _⟩ := rep_lst r
    exact ⟨_, _, rfl, .inl ⟨us, SqL.of ha, ra.len⟩, atk (Option.some.inj e).symm⟩
  · obtain ⟨v, R, rfl, _, r⟩ := ar.one
    obtain ⟨a, us, rfl, ha, ra⟩ := rep_tup r
    exact ⟨_, _, rfl, .inr ⟨us, SqT.of ha, ra.len⟩, atk (Option.some.inj e).symm⟩
  · split at e
    · rename_i hl
      obtain ⟨v, R, rfl, _, r⟩ := ar.one
      rw [rep_at r]
      exact ⟨_, _, rfl, ⟨hl, rfl⟩, atk (Option.some.inj e).symm⟩
    · cases e
  · obtain ⟨v, R, rfl, _, r⟩ := ar.one
    rw [rep_at r]
    exact ⟨_, rfl, atk (Option.some.inj e).symm⟩
  · obtain ⟨v, R, rfl, _, r⟩ := ar.one
    rw [rep_at r]
    exact .inl ⟨_, rfl, atk (Option.some.inj e).symm⟩
  · obtain ⟨v, R, rfl, _, r⟩ := ar.one
    rw [rep_at r]
    exact .inr ⟨_, rfl, atk (Option.some.inj e).symm⟩
  · obtain ⟨v, R, rfl, _, r⟩ := ar.one
    rw [rep_at r]
    exact .inl ⟨_, rfl, atk (Option.some.inj e).symm⟩
  · obtain ⟨v, R, rfl, _, r⟩ := ar.one
    rw [rep_at r]
    exact .inr ⟨_, rfl, atk (Option.some.inj e).symm⟩
  · obtain ⟨v, u, R1, R2, rfl, r1, r2⟩ := ar.two
    rw [rep_at r1, rep_at r2]
    exact .inl ⟨_, _, rfl, atk (Option.some.inj e).symm⟩
  · obtain ⟨v, u, R1, R2, rfl, r1, r2⟩ := ar.two
    rw [rep_at r1, rep_at r2]
    exact .inl ⟨_, _, rfl, atk (Option.some.inj e).symm⟩
  · split at e
    · rename_i ns hn
      split at e
      · cases e
      · rename_i ne
        obtain ⟨v, R, rfl, _, r⟩ := ar.one
        obtain ⟨a, us, rfl, ha, ra, _⟩ := rep_lst r
        have hx := intsD_eq hn
        subst hx
        have hv := ints_vs ra
        subst hv
        refine .inr ⟨a, ns, rfl, SqL.of ha, List.length_pos_iff.mpr ne, fun m hm hl => ?_⟩
        obtain ⟨h1, h2⟩ := minL_ok ne
        have : m = minL ns := Int.le_antisymm (hl _ h1) (h2 _ hm)
        rw [this]
        exact atk (Option.some.inj e).symm
    · cases e
  · split at e
    · rename_i ns hn
      split at e
      · cases e
      · rename_i ne
        obtain ⟨v, R, rfl, _, r⟩ := ar.one
        obtain ⟨a, us, rfl, ha, ra, _⟩ := rep_lst r
        have hx := intsD_eq hn
        subst hx
        have hv := ints_vs ra
        subst hv
        refine .inr ⟨a, ns, rfl, SqL.of ha, List.length_pos_iff.mpr ne, fun m hm hl => ?_⟩
        obtain ⟨h1, h2⟩ := maxL_ok ne
        have : m = maxL ns := Int.le_antisymm (h2 _ hm) (hl _ h1)
        rw [this]
        exact atk (Option.some.inj e).symm
    · cases e
  · split at e
    · rename_i ns hn
      obtain ⟨v, R, rfl, _, r⟩ := ar.one
      obtain ⟨a, us, rfl, ha, ra, _⟩ := rep_lst r
      have hx := intsD_eq hn
      subst hx
      have hv := ints_vs ra
      subst hv
      exact ⟨a, ns, rfl, SqL.of ha, atk (Option.some.inj e).symm⟩
    · cases e
  · rename_i m xs l
    split at e
    · rename_i hs
      obtain ⟨v, R, rfl, _, r⟩ := ar.one
      obtain ⟨a, us, rfl, ha, ra, _⟩ := rep_lst r
      obtain ⟨h1, h2, _⟩ := sortOk_parts hs
      have rp := ra.pers h2
      have lz := rp.len
      have e1 : (us.zip xs).map (·.1) = us := by rw [List.map_fst_zip]; omega
      have e2 : (us.zip xs).map (·.2) = xs := by rw [List.map_snd_zip]; omega
      have pair : ∀ b ∈ us.zip xs, ∃ j : Nat, xs[j]? = some b.2 ∧ us[j]? = some b.1 := fun b hb => by
        obtain ⟨j, hj⟩ := List.getElem?_of_mem hb
        rw [List.getElem?_zip_eq_some] at hj
        exact ⟨j, hj.2, hj.1⟩
      refine ⟨a, us.zip xs, rfl, by rw [e1]; exact SqL.of ha, fun b hb => ?_, by rw [e2]; exact hs, fun p hp => ?_⟩
      · obtain ⟨j, j1, j2⟩ := pair b hb
        obtain ⟨v, q1, q2⟩ := rp.get j1
        rw [j2] at q1
        cases q1
        refine rep_dp q2 ?_
        rw [isPL_eq] at h1
        exact List.all_eq_true.mp h1 _ (List.mem_of_getElem? j1)
      · refine lsk (Option.some.inj e).symm ?_ p hp
        refine rp.of_get ?_ fun i d v q1 q2 => ?_
        · rw [← sort_pairs xs us lz, List.length_map, List.length_map]
        · rw [← sort_pairs xs us lz, List.getElem?_map] at q1
          rw [List.getElem?_map] at q2
          obtain ⟨b, b1, b2⟩ := Option.map_eq_some_iff.mp q1
          rw [b1] at q2
          cases q2
          subst b2
          exact pair b ((List.mergeSort_perm _ _).mem_iff.mp (List.mem_of_getElem? b1))
    · cases e
  · split at e
    · rename_i hs
      obtain ⟨v, R, rfl, _, r⟩ := ar.one
      obtain ⟨a, us, rfl, ha, ra, _⟩ := rep_lst r
      exact ⟨a, us, rfl, .inl (SqL.of ha), lsk (Option.some.inj e).symm (ra.pers hs)⟩
    · cases e
  · split at e
    · rename_i hs
      obtain ⟨v, R, rfl, _, r⟩ := ar.one
      obtain ⟨a, us, rfl, ha, ra⟩ := rep_tup r
      exact ⟨a, us, rfl, .inr (SqT.of ha), lsk (Option.some.inj e).symm (ra.pers hs)⟩
    · cases e
  · split at e
    · rename_i hs
      obtain ⟨v, R, rfl, _, r⟩ := ar.one
      obtain ⟨a, us, rfl, ha, ra, _⟩ := rep_lst r
      cases e
      exact ⟨a, us, rfl, .inl ⟨SqL.of ha, fun p hp => k rfl _ _ Z none_ (zok_new zk hp) (ext_new hp) (new_tup zk (ra.pers hs) hp) (fun _ z => z.elim) fun _ z => z.elim⟩⟩
    · cases e
  · split at e
    · rename_i ns hn
      obtain ⟨v, R, rfl, _, r⟩ := ar.one
      obtain ⟨a, us, rfl, ha, ra, _⟩ := rep_lst r
      have hx := blsD_eq hn
      subst hx
      have hv := bls_vs ra
      subst hv
      exact ⟨a, ns, rfl, SqL.of ha, atk (Option.some.inj e).symm⟩
    · cases e
  · split at e
    · rename_i ns hn
      obtain ⟨v, R, rfl, _, r⟩ := ar.one
      obtain ⟨a, us, rfl, ha, ra, _⟩ := rep_lst r
      have hx := blsD_eq hn
      subst hx
      have hv := bls_vs ra
      subst hv
      exact ⟨a, ns, rfl, SqL.of ha, atk (Option.some.inj e).symm⟩
    · cases e
  · split at e
    · rename_i hl
      obtain ⟨v, R, rfl, _, r⟩ := ar.one
      rw [rep_at r]
      exact .inl ⟨_, rfl, hl, atk (Option.some.inj e).symm⟩
    · cases e
  · simp only at e
    split at e
    · rename_i hl
      obtain ⟨v, R, rfl, _, r⟩ := ar.one
      have dp := rep_dp (K := K) r hl.1
      cases r with
      | nd k xs a vs O F n l f1 f2 r => exact .inr ⟨a, _, rfl, dp, hl.2.1, hl.2.2.1, hl.2.2.2, atk (Option.some.inj e).symm⟩
    · cases e
  · split at e
    · rename_i hl
      obtain ⟨v, R, rfl, _, r⟩ := ar.one
      rw [rep_at r]
      exact ⟨_, rfl, hl, atk (Option.some.inj e).symm⟩
    · cases e
section
variable {c : Str → List D → CRes} {X : Cx} {W : WX}
theorem sv_blt {b : Blt} {m : E} {e : Expr} {es : List Expr} {p pos : Pos} (hc : X.calm = true) (hu : X.A.units + 128 < cLine) (hgd : X.A.guards = some []) (hg : Gl X (bltName b)) (hm : X.mg (bltName b) = none) (pl : ∀ y ∈ e :: es, plainE y = true)
    (h : SndL c X W m (e :: es)) : SndV c X W (.blt b m) (.Call (.Name (bltName b) p) (e :: es) [] pos) := by
  obtain ⟨t, pa, s⟩ := h
  have pe : PE X (.Call (.Name (bltName b) p) (e :: es) [] pos) (tCB (rBlt X.K b) t) := by
    have cr := blt_call hc hu hgd b
    have bo := blt_boot b
    have n1 : bltName b ≠ "__name__" := by cases b <;> decide
    have n2 : (bltName b == ("__debug__" : Str)) = false := by cases b <;> decide
    cases hv : bltV b with
    | fn id =>
      rw [hv] at cr bo
      exact pe_callB cr hg hm bo pa n1 n2 (plain_star (pl e (by simp)) _ _) (any_plain fun y hy => pl y (by simp [hy]))
    | ty n =>
      rw [hv] at cr bo
      exact pe_callTy cr hg hm bo pa n1 n2 (plain_star (pl e (by simp)) _ _) (any_plain fun y hy => pl y (by simp [hy]))
  refine ⟨_, pe, fun σ H Z g O Q st q => s σ H Z g O _ st ?_⟩
  refine (PR.bind (show PR (Xp X W σ H Z O) (((den c m).lst g).bind _) _ from q)).mono (fun _ _ z => z) fun xs g' _ k vs H' Z' O' F o vl => ?_
  obtain ⟨z, e, k⟩ := k.ofO
  refine rBlt_ok X.K b H' Z' xs vs z Q o.sit.zok vl.args e fun hz w H2 Z2 R zk ex r rz new => ?_
  refine k w H2 Z2 O' R (o.new st zk ex) ⟨r, rz, fun _ b hb => ⟨fun w => not_Z o.sit.zok (new b hb) (o.sit.oz _ w), (o.new_old (fun _ z => z.2) _ (new b hb)).symm⟩, fun _ e => by cases e⟩
end
end Bm

set_option maxHeartbeats 1000000
/-! B10: places, methods of lists, calls. -/
namespace Bm
open PySem PySem.Spec PyProof.Rows L2
variable [TheK]
/-! ### what is quiet leaves the names -/
def Same {α : Type} (r : R α) (g : List D) : Prop := ∀ a g', r = .ok a g' → g' = g
theorem same_bind {α β : Type} {r : R α} {f : α → List D → R β} {g : List D} (h : Same r g) (k : ∀ a, Same (f a g) g) : Same (r.bind f) g := by
  intro b g' e
  cases r with
  | ok a g1 =>
    obtain rfl := h a g1 rfl
    exact k a b g' e
  | ex x g1 => cases e
  | no => cases e
theorem same_ofO {α : Type} {o : Option α} {g : List D} : Same (ofO o g) g := by
  intro a g' e
  cases o with
  | none => cases e
  | some x => cases e; rfl
theorem same_ok {α : Type} {a : α} {g : List D} : Same (.ok a g) g := fun _ _ e => by cases e; rfl
theorem same_no {α : Type} {g : List D} : Same (.no : R α) g := fun _ _ e => by cases e
theorem same_two {a b : E} {A B : Den} {g : List D} (h1 : Same (A.val g) g) (h2 : Same (B.val g) g) : Same (two a b A B g) g := same_bind h1 fun _ => same_bind h2 fun _ => same_ofO
structure QS (c : Str → List D → CRes) (m : E) (g : List D) : Prop where
  val : Same ((den c m).val g) g
  tst : Same ((den c m).tst g) g
  lst : Same ((den c m).lst g) g
theorem QS.of {c : Str → List D → CRes} {m : E} {g : List D} {f : List D → R VD} (h : Same (f g) g) (e : den c m = Den.ofVal f) : QS c m g :=
  ⟨by rw [e]; exact h, by rw [e]; exact same_bind h fun _ => same_ofO, by rw [e]; exact same_no⟩
theorem QS.of2 {c : Str → List D → CRes} {m : E} {g : List D} {f : List D → R VD} (h : Same (f g) g) (e : den c m = { Den.ofVal f with tst := fun _ => .no }) : QS c m g :=
  ⟨by rw [e]; exact h, by rw [e]; exact same_no, by rw [e]; exact same_no⟩
theorem quiet_same (c : Str → List D → CRes) : ∀ (m : E), quiet m = true → ∀ g, QS c m g := by
  intro m
  induction m with
  | cst a => intro _ g; exact QS.of (f := fun g => .ok (.at a, false) g) same_ok rfl
  | var i =>
    intro _ g
    have h : Same (varD i g) g := by
      unfold varD
      split
      · exact same_ofO
      · exact same_no
    exact ⟨h, same_bind h fun _ => same_ofO, same_no⟩
  | mv i => intro q; simp [quiet] at q
  | glb x a => intro _ g; exact QS.of (f := fun g => .ok (.at a, false) g) same_ok rfl
  | bin o a b iha ihb =>
    intro q g
    simp only [quiet, Bool.and_eq_true] at q
    exact QS.of (f := fun g => (two a b (den c a) (den c b) g).bind fun p g => ofO (binD o p.1 p.2) g) (same_bind (same_two (iha q.1 g).val (ihb q.2 g).val) fun _ => same_ofO) rfl
  | cmp o a b iha ihb =>
    intro q g
    simp only [quiet, Bool.and_eq_true] at q
    have h : Same (cmpV o a b (den c a) (den c b) g) g := same_bind (same_two (iha q.1 g).val (ihb q.2 g).val) fun _ => same_ofO
    exact ⟨same_bind h fun _ => same_ok, h, same_no⟩
  | cmp2 o o' a b d iha ihb ihd =>
    intro q g
    simp only [quiet, Bool.and_eq_true] at q
    have h : Same ((den c (.cmp2 o o' a b d)).tst g) g := by
      refine same_bind (same_two (iha q.1.1 g).val (ihb q.1.2 g).val) fun p => ?_
      split
      · exact same_no
      · exact same_ok
      · refine same_bind (ihd q.2 g).val fun _ => ?_
        split
        · exact same_ofO
        · exact same_no
    exact ⟨same_bind h fun _ => same_ok, h, same_no⟩
  | neg a ih =>
    intro q g
    refine QS.of2 (f := fun g => ((den c a).val g).bind fun x g => match x.1 with
      | .at (.int i) => .ok (.int (-i), false) g
      | _ => .no) (same_bind (ih q g).val fun _ => ?_) rfl
    split
    · exact same_ok
    · exact same_no
  | notE a ih =>
    intro q g
    refine ⟨same_bind (ih q g).val fun _ => ?_, same_bind (ih q g).tst fun _ => same_ok, same_no⟩
    split
    · exact same_ok
    · exact same_no
  | andE a b iha ihb =>
    intro q g
    simp only [quiet, Bool.and_eq_true] at q
    refine ⟨same_bind (iha q.1 g).val fun _ => ?_, same_bind (iha q.1 g).tst fun _ => ?_, same_no⟩
    · skip
      split
      · split
        · exact (ihb q.2 g).val
        · exact same_ok
      · exact same_no
    · skip
      split
      · exact (ihb q.2 g).tst
      · exact same_ok
  | orE a b iha ihb =>
    intro q g
    simp only [quiet, Bool.and_eq_true] at q
    refine ⟨same_bind (iha q.1 g).val fun _ => ?_, same_bind (iha q.1 g).tst fun _ => ?_, same_no⟩
    · skip
      split
      · split
        · exact same_ok
        · exact (ihb q.2 g).val
      · exact same_no
    · skip
      split
      · exact same_ok
      · exact (ihb q.2 g).tst
  | ife t a b iht iha ihb =>
    intro q g
    simp only [quiet, Bool.and_eq_true] at q
    refine QS.of2 (f := fun g => ((den c t).tst g).bind fun x g => if x = true then (den c a).val g else (den c b).val g) (same_bind (iht q.1.1 g).tst fun _ => ?_) rfl
    split
    · exact (iha q.1.2 g).val
    · exact (ihb q.2 g).val
  | nil => intro _ g; exact ⟨same_no, same_ok, same_ok⟩
  | cons a b iha ihb =>
    intro q g
    simp only [quiet, Bool.and_eq_true] at q
    refine ⟨same_no, same_no, same_bind (iha q.1 g).val fun _ => same_bind (ihb q.2 g).lst fun _ => ?_⟩
    split
    · exact same_ok
    · exact same_no
  | tupE es ih =>
    intro q g
    have h : Same (((den c es).lst g).bind fun xs g => ofO (mkTup xs) g) g := same_bind (ih q g).lst fun _ => same_ofO
    exact ⟨h, same_bind h fun _ => same_ofO, same_no⟩
  | lstE es ih =>
    intro q g
    exact QS.of (f := fun g => ((den c es).lst g).bind fun xs g => ofO (mkLst xs) g) (same_bind (ih q g).lst fun _ => same_ofO) rfl
  | idx a j iha ihj =>
    intro q g
    simp only [quiet, Bool.and_eq_true] at q
    have h : Same ((two a j (den c a) (den c j) g).bind fun p g => ofO (idxD p.1 p.2.1) g) g := same_bind (same_two (iha q.1 g).val (ihj q.2 g).val) fun _ => same_ofO
    exact ⟨h, same_bind h fun _ => same_ofO, same_no⟩
  | slc a lo hi iha ihl ihh =>
    intro q g
    simp only [quiet, Bool.and_eq_true] at q
    refine QS.of (f := fun g => ((den c a).val g).bind fun x g => (prtD lo (den c lo) g).bind fun l g => (prtD hi (den c hi) g).bind fun h g => match late a (.cons lo hi) x g with
      | some x => ofO (slcD x l h) g
      | none => .no) (same_bind (iha q.1.1 g).val fun _ => same_bind (same_bind (ihl q.1.2 g).val fun _ => same_ofO) fun _ => same_bind (same_bind (ihh q.2 g).val fun _ => same_ofO) fun _ => ?_) rfl
    split
    · exact same_ofO
    · exact same_no
  | rev a ih => intro q g; exact QS.of (f := fun g => ((den c a).val g).bind fun x g => ofO (revD x) g) (same_bind (ih q g).val fun _ => same_ofO) rfl
  | call f es ih => intro q; simp [quiet] at q
  | blt b es ih =>
    intro q g
    have h : Same (((den c es).lst g).bind fun xs g => ofO (bltD b xs) g) g := same_bind (ih q g).lst fun _ => same_ofO
    exact ⟨h, same_bind h fun _ => same_ofO, same_no⟩
  | lm m a es iha ihe => intro q; simp [quiet] at q
  | lrg a ih =>
    intro q g
    refine QS.of2 (f := fun g => ((den c a).val g).bind fun x g => match x.1 with
      | .at (.int n) => if 0 ≤ n ∧ n ≤ 1000000 then .ok (.lst true (rangeD 0 n.toNat), false) g else .no
      | _ => .no) (same_bind (ih q g).val fun _ => ?_) rfl
    split
    · split
      · exact same_ok
      · exact same_no
    · exact same_no
  | idxOf a e iha ihe =>
    intro q g
    simp only [quiet, Bool.and_eq_true] at q
    refine QS.of2 (f := fun g => ((den c a).val g).bind fun x g => if isLstD x.1 = true then ((den c e).val g).bind fun y g => ofO ((late a e x g).bind fun x => idxOfD x.1 y.1) g else .no) (same_bind (iha q.1 g).val fun _ => ?_) rfl
    split
    · exact same_bind (ihe q.2 g).val fun _ => same_ofO
    · exact same_no
  | comp elt tg it tst own => intro q; simp [quiet] at q
  | comp2 elt tg it tst tg1 it1 tst1 own own1 => intro q; simp [quiet] at q
  | frz a ih => intro q; simp [quiet] at q
  | fld C f a ih => intro q g; exact QS.of (f := fun g => ((den c a).val g).bind fun x g => ofO (fldD C f x) g) (same_bind (ih q g).val fun _ => same_ofO) rfl
  | prop x C f a ih => intro q; simp [quiet] at q
  | meth x C m a es iha ihe => intro q; simp [quiet] at q
  | make x C es ih => intro q; simp [quiet] at q
  | isi t a ih => intro q g; exact ⟨same_bind (ih q g).val fun _ => same_ofO, same_bind (ih q g).val fun _ => same_ofO, same_no⟩
  | never => intro _ g; exact ⟨same_no, same_no, same_no⟩
/-! ### places -/
theorem VAt.le {H H' : Hp} {v v' : V} {d : D} {p : List Nat} (h : VAt H v d p v') (k : ∀ a o, H a = some o → H' a = some o) : VAt H' v d p v' := by
  induction h with
  | nil v d => exact .nil v d
  | lst a vs xs n p x u v' e1 e2 e3 _ ih => exact .lst a vs xs n p x u v' (k _ _ e1) e2 e3 ih
  | tup a vs xs n p x u v' e1 e2 e3 _ ih => exact .tup a vs xs n p x u v' (k _ _ e1) e2 e3 ih
theorem VAt.nil_eq {H : Hp} {v v' : V} {d : D} (h : VAt H v d [] v') : v' = v := by cases h; rfl
theorem PAt.step {H1 H2 : Hp} {Z1 O1 Z2 O2 : AS} {σ : Sg} {g1 g2 : List D} {i : Nat} {p : List Nat} {v : V} {q : Bool} (h : PAt H1 σ g1 i p v) (o : Out (Wq q O1) H1 Z1 O1 σ g2 H2 Z2 O2)
    (w : q = true ∧ g2 = g1 ∨ p = []) : PAt H2 σ g2 i p v := by
  obtain ⟨v0, h0, h1, h2⟩ := h
  rcases w with ⟨hq, rfl⟩ | rfl
  · exact ⟨v0, h0, h1, fun d e => (h2 d e).le fun a o' q' => o.ext.same a o' q' fun z => by rw [hq] at z; cases z.1⟩
  · refine ⟨v0, h0, h1, fun d e => ?_⟩
    rw [h1 rfl]
    exact .nil _ _
theorem rep_lstM {H : Hp} {Z R : AS} {xs : List D} {a : Addr} (h : Rep H Z (.nd (.lst true) xs) (.ref a) R) : ∃ vs, H a = some (.lst vs) ∧ R a ∧ RepA H Z xs vs (fun b => R b ∧ b ≠ a) := by
  cases h with
  | nd _ _ a vs _ F n l f1 f2 r => exact ⟨vs, n.1, n.2, l, F, f1, f2, r⟩
theorem mk_lst {H : Hp} {Z R : AS} {xs : List D} {vs : List V} {a : Addr} (h : H a = some (.lst vs)) (ra : RepA H Z xs vs R) (na : ∀ b, R b → b ≠ a) : Rep H Z (.nd (.lst true) xs) (.ref a) (fun b => b = a ∨ R b) := by
  obtain ⟨l, F, f1, f2, r⟩ := ra
  exact .nd _ _ a vs _ F ⟨h, .inl rfl⟩ l (fun i b z => ⟨.inr (f1 i b z), na b (f1 i b z)⟩) f2 r
/-- a part of a value, and what is put in its place -/
structure Put (H : Hp) (Z : AS) (d d' : D) (p : List Nat) (v0 v : V) (O R : AS) : Prop where
  sub : ∀ b, R b → O b
  rep : Rep H Z d' v R
  back : ∀ H' Z' y R', Ext R H Z H' Z' → (∀ b, R' b → O b → R b) → Rep H' Z' y v R' → Rep H' Z' (setP d p y) v0 (fun b => (O b ∧ ¬ R b) ∨ R' b)
theorem focus {H : Hp} {Z : AS} (zk : ZOk H Z) {v0 v : V} {d : D} {p : List Nat} (h : VAt H v0 d p v) : ∀ O, (∀ b, O b → Z b) → Rep H Z d v0 O → ∀ d', getP d p = some d' → ∃ R, Put H Z d d' p v0 v O R := by
  induction h with
  | nil v d =>
    intro O oz r d' e
    simp only [getP] at e
    cases e
    refine ⟨O, fun _ z => z, r, fun H' Z' y R' _ _ r' => ?_⟩
    have : setP d [] y = y := by cases d <;> rfl
    rw [this]
    exact r'.mono fun b z => .inr z
  | lst a vs xs n p x u v' e1 e2 e3 _ ih =>
    intro O oz r d' e
    simp only [getP, e2] at e
    cases r with
    | nd _ _ _ vs2 _ F nd l f1 f2 r =>
      obtain rfl : vs = vs2 := by
        have := nd.1
        rw [e1] at this
        injection this with this
        injection this
      obtain ⟨R, sub, rep, back⟩ := ih (F n) (fun b z => oz b (subO_sub (f1 n b z))) (r n x u e2 e3) d' e
      have ra : ¬ R a := fun z => (f1 n a (sub a z)).2 rfl
      refine ⟨R, fun b z => (f1 n b (sub b z)).1, rep, fun H' Z' y R' ex hR r' => ?_⟩
      have nz : ∀ j, j ≠ n → ∀ b, F j b → ¬ R b := fun j hj b z w => hj (f2 j n b z (sub b w))
      simp only [setP, e2]
      have nR' : ∀ b, R' b → b ≠ a := fun b z e => by
        subst e
        exact ra (hR b z nd.2)
      refine .nd _ _ a (vs) _ (fun j b => if j = n then (F n b ∧ ¬ R b) ∨ R' b else F j b) ⟨ex.same a _ nd.1 ra, .inl ⟨nd.2, ra⟩⟩ (by simp [l]) (fun j b z => ?_) (fun i j b z1 z2 => ?_) fun j d v h1 h2 => ?_
      · by_cases hj : j = n
        · simp only [hj, if_true] at z
          rcases z with ⟨z, w⟩ | z
          · exact ⟨.inl ⟨(f1 n b z).1, w⟩, (f1 n b z).2⟩
          · exact ⟨.inr z, nR' b z⟩
        · simp only [if_neg hj] at z
          exact ⟨.inl ⟨(f1 j b z).1, nz j hj b z⟩, (f1 j b z).2⟩
      · have k : ∀ i, i ≠ n → F i b → ¬ R' b := fun i hi z w => nz i hi b z (hR b w (f1 i b z).1)
        by_cases hi : i = n
        · by_cases hj : j = n
          · rw [hi, hj]
          · simp only [hi, if_true] at z1
            simp only [if_neg hj] at z2
            rcases z1 with ⟨z1, _⟩ | z1
            · rw [hi]; exact f2 n j b z1 z2
            · exact absurd z1 (k j hj z2)
        · by_cases hj : j = n
          · simp only [hj, if_true] at z2
            simp only [if_neg hi] at z1
            rcases z2 with ⟨z2, _⟩ | z2
            · rw [hj]; exact f2 i n b z1 z2
            · exact absurd z2 (k i hi z1)
          · simp only [if_neg hj] at z2
            simp only [if_neg hi] at z1
            exact f2 i j b z1 z2
      · rcases get_set h1 with ⟨rfl, rfl, _⟩ | ⟨ne, h1⟩
        · rw [e3] at h2
          cases h2
          simp only [if_true]
          exact back H' Z' y R' ex (fun b z w => hR b z (f1 n b w).1) r'
        · simp only [if_neg (Ne.symm ne)]
          exact (r j d v h1 h2).ext zk ex fun b z => nz j (Ne.symm ne) b z
  | tup a vs xs n p x u v' e1 e2 e3 _ ih =>
    intro O oz r d' e
    simp only [getP, e2] at e
    cases r with
    | nd _ _ _ vs2 _ F nd l f1 f2 r =>
      obtain rfl : vs = vs2 := by
        have := nd
        unfold Node at this
        simp only at this
        rw [e1] at this
        injection this with this
        injection this
      have f1 : ∀ i b, F i b → O b := fun i b z => subO_sub (f1 i b z)
      obtain ⟨R, sub, rep, back⟩ := ih (F n) (fun b z => oz b (f1 n b z)) (r n x u e2 e3) d' e
      have ra : ¬ R a := fun z => by
        obtain ⟨o, q, m⟩ := zk a (oz a (f1 n a (sub a z)))
        rw [e1] at q
        cases q
        exact m
      refine ⟨R, fun b z => f1 n b (sub b z), rep, fun H' Z' y R' ex hR r' => ?_⟩
      have nz : ∀ j, j ≠ n → ∀ b, F j b → ¬ R b := fun j hj b z w => hj (f2 j n b z (sub b w))
      simp only [setP, e2]
      refine .nd _ _ a (vs) _ (fun j b => if j = n then (F n b ∧ ¬ R b) ∨ R' b else F j b) (ex.same a _ e1 ra) (by simp [l]) (fun j b z => ?_) (fun i j b z1 z2 => ?_) fun j d v h1 h2 => ?_
      · show (O b ∧ ¬ R b) ∨ R' b
        by_cases hj : j = n
        · simp only [hj, if_true] at z
          rcases z with ⟨z, w⟩ | z
          · exact .inl ⟨f1 n b z, w⟩
          · exact .inr z
        · simp only [if_neg hj] at z
          exact .inl ⟨f1 j b z, nz j hj b z⟩
      · have k : ∀ i, i ≠ n → F i b → ¬ R' b := fun i hi z w => nz i hi b z (hR b w (f1 i b z))
        by_cases hi : i = n
        · by_cases hj : j = n
          · rw [hi, hj]
          · simp only [hi, if_true] at z1
            simp only [if_neg hj] at z2
            rcases z1 with ⟨z1, _⟩ | z1
            · rw [hi]; exact f2 n j b z1 z2
            · exact absurd z1 (k j hj z2)
        · by_cases hj : j = n
          · simp only [hj, if_true] at z2
            simp only [if_neg hi] at z1
            rcases z2 with ⟨z2, _⟩ | z2
            · rw [hj]; exact f2 i n b z1 z2
            · exact absurd z2 (k i hi z1)
          · simp only [if_neg hj] at z2
            simp only [if_neg hi] at z1
            exact f2 i j b z1 z2
      · rcases get_set h1 with ⟨rfl, rfl, _⟩ | ⟨ne, h1⟩
        · rw [e3] at h2
          cases h2
          simp only [if_true]
          exact back H' Z' y R' ex (fun b z w => hR b z (f1 n b w)) r'
        · simp only [if_neg (Ne.symm ne)]
          exact (r j d v h1 h2).ext zk ex fun b z => nz j (Ne.symm ne) b z
theorem Sit.focus {H : Hp} {Z O : AS} {σ : Sg} {g : List D} {i : Nat} {p : List Nat} {v : V} {d' : D} (s : Sit H Z σ g O) (pa : PAt H σ g i p v) (e : getG g i p = some d') (nd : p = [] → d'.isDead = false) :
    ∃ R, (∀ b, R b → O b) ∧ Rep H Z d' v R ∧ ∀ H' Z' y R', ZOk H' Z' → Ext R H Z H' Z' → (∀ b, R' b → Z' b ∧ (O b → R b)) → Rep H' Z' y v R' → Sit H' Z' σ (setG g i p y) (fun b => (O b ∧ ¬ R b) ∨ R' b) := by
  obtain ⟨z, oz, l, F, f1, f2, r⟩ := s
  obtain ⟨v0, h0, h1, h2⟩ := pa
  unfold getG at e
  split at e
  · rename_i d hd
    have va := h2 d hd
    have rd : Rep H Z d v0 (F i) := by
      rcases r i d hd with h | ⟨w, h3, h4⟩
      · exfalso
        cases d with
        | dead =>
          cases p with
          | nil => simp only [getP] at e; cases e; cases nd rfl
          | cons n p => simp only [getP] at e; cases e
        | «at» a => cases h
        | nd k xs => cases h
      · rw [h0] at h3
        injection h3 with h3
        injection h3 with h3
        rw [h3]; exact h4
    obtain ⟨R, sub, rep, back⟩ := Bm.focus z va (F i) (fun b q => oz b (f1 i b q)) rd d' e
    refine ⟨R, fun b q => f1 i b (sub b q), rep, fun H' Z' y R' zk ex hR r' => ?_⟩
    have nz : ∀ j, j ≠ i → ∀ b, F j b → ¬ R b := fun j hj b q w => hj (f2 j i b q (sub b w))
    have hs : setG g i p y = g.set i (setP d p y) := by unfold setG; rw [hd]
    rw [hs]
    refine ⟨zk, fun b q => ?_, by simpa using l, fun j b => if j = i then (F i b ∧ ¬ R b) ∨ R' b else F j b, fun j b q => ?_, fun j k b q1 q2 => ?_, fun j x q => ?_⟩
    · rcases q with ⟨q, w⟩ | q
      · exact ex.zkeep b (oz b q) w
      · exact (hR b q).1
    · by_cases hj : j = i
      · simp only [hj, if_true] at q
        rcases q with ⟨q, w⟩ | q
        · exact .inl ⟨f1 i b q, w⟩
        · exact .inr q
      · simp only [if_neg hj] at q
        exact .inl ⟨f1 j b q, nz j hj b q⟩
    · have kk : ∀ j, j ≠ i → F j b → ¬ R' b := fun j hj q w => nz j hj b q ((hR b w).2 (f1 j b q))
      by_cases hj : j = i
      · by_cases hk : k = i
        · rw [hj, hk]
        · simp only [hj, if_true] at q1
          simp only [if_neg hk] at q2
          rcases q1 with ⟨q1, _⟩ | q1
          · rw [hj]; exact f2 i k b q1 q2
          · exact absurd q1 (kk k hk q2)
      · by_cases hk : k = i
        · simp only [hk, if_true] at q2
          simp only [if_neg hj] at q1
          rcases q2 with ⟨q2, _⟩ | q2
          · rw [hk]; exact f2 j i b q1 q2
          · exact absurd q2 (kk j hj q1)
        · simp only [if_neg hj] at q1
          simp only [if_neg hk] at q2
          exact f2 j k b q1 q2
    · rcases get_set q with ⟨rfl, rfl, _⟩ | ⟨ne, q⟩
      · refine .inr ⟨v0, h0, ?_⟩
        simp only [if_true]
        exact back H' Z' y R' ex (fun b q w => (hR b q).2 (f1 i b w)) r'
      · rcases r j x q with h | ⟨w, h3, h4⟩
        · exact .inl h
        · refine .inr ⟨w, h3, ?_⟩
          simp only [if_neg (Ne.symm ne)]
          exact h4.ext z ex fun b q => nz j (Ne.symm ne) b q
  · cases e
end Bm

set_option maxHeartbeats 1000000
/-! B11: places, methods of lists. -/
namespace Bm
open PySem PySem.Spec PyProof.Rows L2
variable [TheK]
/-! ### lists of values -/
theorem RepA.push {H : Hp} {Z : AS} {xs : List D} {vs : List V} {R R2 : AS} {y : D} {v : V} (h : RepA H Z xs vs R) (r : Rep H Z y v R2) (dj : ∀ b, R b → ¬ R2 b) : RepA H Z (xs ++ [y]) (vs ++ [v]) (fun b => R b ∨ R2 b) := by
  obtain ⟨l, F, f1, f2, rr⟩ := h
  refine ⟨by simp [l], fun i b => if i < xs.length then F i b else i = xs.length ∧ R2 b, fun i b z => ?_, fun i j b z1 z2 => ?_, fun i d w e1 e2 => ?_⟩
  · by_cases hi : i < xs.length
    · simp only [if_pos hi] at z; exact .inl (f1 i b z)
    · simp only [if_neg hi] at z; exact .inr z.2
  · by_cases hi : i < xs.length
    · simp only [if_pos hi] at z1
      by_cases hj : j < xs.length
      · simp only [if_pos hj] at z2; exact f2 i j b z1 z2
      · simp only [if_neg hj] at z2; exact absurd z2.2 (dj b (f1 i b z1))
    · simp only [if_neg hi] at z1
      by_cases hj : j < xs.length
      · simp only [if_pos hj] at z2; exact absurd z1.2 (dj b (f1 j b z2))
      · simp only [if_neg hj] at z2; rw [z1.1, z2.1]
  · rw [List.getElem?_append] at e1 e2
    by_cases hi : i < xs.length
    · rw [if_pos hi] at e1
      rw [if_pos (by rw [← l]; exact hi)] at e2
      simp only [if_pos hi]
      exact rr i d w e1 e2
    · rw [if_neg hi] at e1
      rw [if_neg (by rw [← l]; exact hi)] at e2
      rw [← l] at e2
      have : i = xs.length := by
        have := (List.getElem?_eq_some_iff.mp e1).1
        simp at this; omega
      subst this
      simp at e1 e2
      subst e1 e2
      simp only [Nat.lt_irrefl, if_false]
      exact r.mono fun b z => by simpa using z
theorem RepA.erase {H : Hp} {Z : AS} {xs : List D} {vs : List V} {R : AS} {k : Nat} {y : D} (h : RepA H Z xs vs R) (e : xs[k]? = some y) : ∃ v R1 R2, vs[k]? = some v ∧ Rep H Z y v R1 ∧ RepA H Z (xs.eraseIdx k) (vs.eraseIdx k) R2 ∧ (∀ b, R1 b → R b ∧ ¬ R2 b) ∧ ∀ b, R2 b → R b := by
  obtain ⟨l, F, f1, f2, rr⟩ := h
  have hk : k < xs.length := (List.getElem?_eq_some_iff.mp e).1
  have hv : vs[k]? = some vs[k] := by simp [← l, hk]
  refine ⟨vs[k], F k, fun b => R b ∧ ¬ F k b, hv, rr k y _ e hv, ⟨by rw [List.length_eraseIdx, List.length_eraseIdx, l], fun i => F (if i < k then i else i + 1), fun i b z => ⟨f1 _ b z, fun w => ?_⟩, fun i j b z1 z2 => ?_, fun i d w e1 e2 => ?_⟩, fun b z => ⟨f1 k b z, fun w => w.2 z⟩, fun b z => z.1⟩
  · have := f2 _ _ b z w
    split at this <;> omega
  · have := f2 _ _ b z1 z2
    split at this <;> split at this <;> omega
  · rw [List.getElem?_eraseIdx] at e1 e2
    by_cases hi : i < k
    · simp only [if_pos hi] at e1 e2 ⊢
      exact rr i d w e1 e2
    · simp only [if_neg hi] at e1 e2 ⊢
      exact rr (i + 1) d w e1 e2
theorem RepA.reverse {H : Hp} {Z : AS} {xs : List D} {vs : List V} {R : AS} (h : RepA H Z xs vs R) : RepA H Z xs.reverse vs.reverse R := by
  obtain ⟨l, F, f1, f2, rr⟩ := h
  refine ⟨by simp [l], fun i b => i < xs.length ∧ F (xs.length - 1 - i) b, fun i b z => f1 _ b z.2, fun i j b z1 z2 => ?_, fun i d w e1 e2 => ?_⟩
  · have := f2 _ _ b z1.2 z2.2
    have := z1.1; have := z2.1
    omega
  · have hi : i < xs.length := by
      have := (List.getElem?_eq_some_iff.mp e1).1
      simpa using this
    rw [List.getElem?_reverse hi] at e1
    rw [List.getElem?_reverse (by rw [← l]; exact hi), ← l] at e2
    exact (rr _ d w e1 e2).mono fun b z => ⟨hi, z⟩
theorem ext_at {H : Hp} {Z R : AS} {a : Addr} {o : HO} (ra : R a) (rz : ∀ b, R b → Z b) : Ext R H Z (upd H a o) Z :=
  ⟨rz, fun b u q n => by rw [upd_ne (fun e => n (by rw [e]; exact ra))]; exact q, fun _ z => .inl z, fun _ z _ => z⟩
theorem zok_at {H : Hp} {Z : AS} {a : Addr} {o : HO} (zk : ZOk H Z) (m : Mut (some o)) : ZOk (upd H a o) Z := fun b z => by
  by_cases e : b = a
  · rw [e]; exact ⟨o, upd_same, m⟩
  · obtain ⟨u, q, m'⟩ := zk b z
    exact ⟨u, by rw [upd_ne e]; exact q, m'⟩
theorem drop_last {α : Type} : ∀ (xs : List α), xs.eraseIdx (xs.length - 1) = xs.dropLast
  | [] => rfl
  | [_] => rfl
  | _ :: y :: ys => by
    have := drop_last (y :: ys)
    simp only [List.length_cons, Nat.add_sub_cancel, List.eraseIdx_cons_succ, List.dropLast_cons₂] at this ⊢
    exact congrArg _ this
/-! ### methods -/
def rLm : Lm → V → List V → Hp → VK → Prop
  | .append => rAppend
  | .pop => rPop
  | .popAt => rPopAt
  | .reverse => rReverse
  | .clear => rClear
  | _ => fun _ _ _ _ => False
theorem lm_ok {m : Lm} {xs ds : List D} {d : D} {xs' : List D} {H : Hp} {Z R RD : AS} {a : Addr} {us : List V} {Q : VK} (e : lmD m xs ds = some (d, xs')) (zk : ZOk H Z) (rz : ∀ b, R b → Z b) (dz : ∀ b, RD b → ¬ R b)
    (r : Rep H Z (.nd (.lst true) xs) (.ref a) R) (rd : RepA H Z ds us RD)
    (q : ∀ w R' Rw vs', Rep (upd H a (.lst vs')) Z (.nd (.lst true) xs') (.ref a) R' → Rep (upd H a (.lst vs')) Z d w Rw → (∀ b, R' b → R b ∨ RD b) → (∀ b, Rw b → R b ∧ ¬ R' b) → R a → Q w (upd H a (.lst vs'))) : rLm m (.ref a) us H Q := by
  obtain ⟨vs, ha, ra, rx⟩ := rep_lstM r
  have ex : ∀ vs', Ext (fun b => b = a) H Z (upd H a (.lst vs')) Z := fun vs' => ext_at rfl fun b z => by rw [z]; exact rz a ra
  unfold lmD at e
  split at e
  · -- append
    rename_i xs y
    split at e
    · rename_i hl
      cases e
      obtain ⟨l2, F, f1, f2, rr⟩ := rd
      match us, l2 with
      | [u], _ =>
        have ry := rr 0 y u rfl rfl
        refine ⟨a, vs, u, rfl, rfl, ha, by rw [← rx.len]; exact hl, ?_⟩
        have na : ∀ b, F 0 b → b ≠ a := fun b z e => dz b (f1 0 b z) (by rw [e]; exact ra)
        have r1 := (rx.ext zk (ex (vs ++ [u])) fun b z => z.2).push (ry.ext zk (ex (vs ++ [u])) na) fun b z w => dz b (f1 0 b w) z.1
        refine q .non _ none_ (vs ++ [u]) (mk_lst upd_same r1 fun b z => z.elim (fun z => z.2) (na b)) (.at .non _) (fun b z => ?_) (fun _ z => z.elim) ra
        rcases z with z | z | z
        · rw [z]; exact .inl ra
        · exact .inl z.1
        · exact .inr (f1 0 b z)
    · cases e
  · -- pop
    rename_i xs
    split at e
    · rename_i y hy
      split at e
      · cases e
      · cases e
        have hus : us = [] := List.length_eq_zero_iff.mp rd.len.symm
        subst hus
        obtain ⟨v, R1, R2, hv, r1, r2, h1, h2⟩ := rx.erase hy
        rw [rx.len] at hv
        refine ⟨a, vs, v, rfl, rfl, ha, hv, ?_⟩
        have r3 := (r2.ext zk (ex vs.dropLast) fun b z => (h2 b z).2)
        rw [drop_last, rx.len, drop_last] at r3
        refine q v _ R1 vs.dropLast (mk_lst upd_same r3 fun b z => (h2 b z).2) (r1.ext zk (ex _) fun b z => (h1 b z).1.2) (fun b z => ?_) (fun b z => ⟨(h1 b z).1.1, fun w => ?_⟩) ra
        · rcases z with z | z
          · rw [z]; exact .inl ra
          · exact .inl (h2 b z).1
        · rcases w with w | w
          · exact (h1 b z).1.2 w
          · exact (h1 b z).2 w
    · cases e
  · -- pop at
    rename_i xs i
    split at e
    · rename_i k hk
      split at e
      · rename_i y hy
        split at e
        · cases e
        · split at e
          · rename_i hb
            cases e
            obtain ⟨l2, F, f1, f2, rr⟩ := rd
            match us, l2 with
            | [u], _ =>
              have ru := rep_at (rr 0 _ u rfl rfl)
              subst ru
              obtain ⟨v, R1, R2, hv, r1, r2, h1, h2⟩ := rx.erase hy
              refine ⟨a, vs, i, k, v, rfl, rfl, ha, hb.1, hb.2, by rw [← rx.len]; exact hk, hv, ?_⟩
              have r3 := (r2.ext zk (ex (vs.eraseIdx k)) fun b z => (h2 b z).2)
              refine q v _ R1 (vs.eraseIdx k) (mk_lst upd_same r3 fun b z => (h2 b z).2) (r1.ext zk (ex _) fun b z => (h1 b z).1.2) (fun b z => ?_) (fun b z => ⟨(h1 b z).1.1, fun w => ?_⟩) ra
              · rcases z with z | z
                · rw [z]; exact .inl ra
                · exact .inl (h2 b z).1
              · rcases w with w | w
                · exact (h1 b z).1.2 w
                · exact (h1 b z).2 w
          · cases e
      · cases e
    · cases e
  · -- clear
    rename_i xs
    cases e
    have hus : us = [] := List.length_eq_zero_iff.mp rd.len.symm
    subst hus
    refine ⟨a, vs, rfl, rfl, ha, ?_⟩
    have r3 : RepA (upd H a (.lst [])) Z [] [] none_ := ⟨rfl, fun _ => none_, fun _ _ z => z, fun _ _ _ z => z.elim, fun i d v e => by simp at e⟩
    refine q .non _ none_ [] (mk_lst upd_same r3 fun b z => z.elim) (.at .non _) (fun b z => ?_) (fun _ z => z.elim) ra
    rcases z with z | z
    · rw [z]; exact .inl ra
    · exact z.elim
  · -- reverse
    rename_i xs
    cases e
    have hus : us = [] := List.length_eq_zero_iff.mp rd.len.symm
    subst hus
    refine ⟨a, vs, rfl, rfl, ha, ?_⟩
    have r3 := (rx.ext zk (ex vs.reverse) fun b z => z.2).reverse
    refine q .non _ none_ vs.reverse (mk_lst upd_same r3 fun b z => z.2) (.at .non _) (fun b z => ?_) (fun _ z => z.elim) ra
    rcases z with z | z
    · rw [z]; exact .inl ra
    · exact .inl z.1
  · cases e
end Bm

set_option maxHeartbeats 1000000
/-! B12: places and calls as expressions. -/
namespace Bm
open PySem PySem.Spec PyProof.Rows L2
variable [TheK]
section
variable {c : Str → List D → CRes} {X : Cx} {W : WX}
theorem sp_no {m : E} {e : Expr} (h : ∀ g, (den c m).plc g = .no) : SndP c X W m e := ⟨fun _ _ _ => False, ⟨fun _ _ _ _ _ _ h => h.elim⟩, fun _ _ _ _ _ _ _ q => by rw [h] at q; exact q⟩
theorem sp_var {i : Nat} {x : Str} {p : Pos} (hN : X.N[i]? = some x) (hv : Vis X.env.scope x) (h1 : (x == ("__debug__" : Str)) = false) (h2 : (x == ("__classdict__" : Str)) = false) : SndP c X W (.var i) (.Name x p) :=
  ⟨_, pe_var hN hv h1 h2, fun σ H Z g O Q s q => by
    have q : PR (Xp X W σ H Z O) ((varD i g).bind fun _ g => .ok (i, []) g) _ := q
    unfold varD at q
    split at q
    · rename_i d hd
      obtain ⟨x, e, k⟩ := q.bind.ofO
      obtain ⟨nd, rfl⟩ := mkV_eq e
      obtain ⟨v, hs, r⟩ := s.get hd nd
      exact ⟨v, hs, k v H Z O (.refl s fun b z => s.oz b z.2) ⟨v, hs, fun _ => rfl, fun d _ => .nil _ _⟩ fun _ => rfl⟩
    · exact q.elim⟩
theorem VAt.append {H : Hp} {v v' u : V} {d d' : D} {p : List Nat} (h : VAt H v d p v') : getP d p = some d' → ∀ k, VAt H v' d' [k] u → VAt H v d (p ++ [k]) u := by
  induction h with
  | nil v d =>
    intro e k q
    simp only [getP] at e
    cases e
    exact q
  | lst a vs xs n p x w v' e1 e2 e3 _ ih =>
    intro e k q
    simp only [getP, e2] at e
    exact .lst a vs xs n _ x w u e1 e2 e3 (ih e k q)
  | tup a vs xs n p x w v' e1 e2 e3 _ ih =>
    intro e k q
    simp only [getP, e2] at e
    exact .tup a vs xs n _ x w u e1 e2 e3 (ih e k q)
theorem quiet_val {m : E} {g g' : List D} {a : VD} (q : quiet m = true) (e : (den c m).val g = .ok a g') : g' = g := (quiet_same c m q g).val a g' e
theorem quiet_lst {m : E} {g g' : List D} {a : List VD} (q : quiet m = true) (e : (den c m).lst g = .ok a g') : g' = g := (quiet_same c m q g).lst a g' e
theorem plc_idx {a j : E} {A J : Den} {g : List D} {xp : Ex → List D → Prop} {K : Nat × List Nat → List D → Prop} (h : PR xp (plcIdx a j A J g) K) :
    PR xp (A.plc g) fun q g => (quiet j = true ∨ isVar a = true) ∧ PR xp (J.val g) fun y g => ∃ n k kd xs, y.1 = .at (.int n) ∧ (kd = .lst true ∨ kd = .tup) ∧ getG g q.1 q.2 = some (.nd kd xs) ∧ ixN xs.length n = some k ∧ K (q.1, q.2 ++ [k]) g := by
  refine (PR.bind h).mono (fun _ _ z => z) fun q g _ h => ?_
  split at h
  · rename_i w
    refine ⟨w, (PR.bind h).mono (fun _ _ z => z) fun y g _ h => ?_⟩
    split at h
    · rename_i n xs e1 e2
      split at h
      · rename_i k hk
        exact ⟨n, k, _, xs, e1, .inl rfl, e2, hk, h⟩
      · exact h.elim
    · rename_i n xs e1 e2
      split at h
      · rename_i k hk
        exact ⟨n, k, _, xs, e1, .inr rfl, e2, hk, h⟩
      · exact h.elim
    · exact h.elim
  · exact h.elim
theorem sp_idx {a j : E} {ea ej : Expr} {p : Pos} (pl : plainE ej = true) (ha : SndP c X W a ea) (hj : SndV c X W j ej) : SndP c X W (.idx a j) (.Subscript ea ej p) := by
  obtain ⟨ta, pa, sa⟩ := ha
  obtain ⟨tj, pj, sj⟩ := hj
  refine ⟨_, pe_ix (ix_list.or ix_tup) pa pj (plain_ix pl), fun σ H Z g O Q s q => sa σ H Z g O _ s ?_⟩
  refine (plc_idx q).mono (fun _ _ z => z) fun q g1 _ h v H1 Z1 O1 o1 pat iv => sj σ H1 Z1 g1 O1 _ o1.sit ?_
  refine h.2.mono (fun e g' q => Xp.step s o1 q) fun y g2 ey h2 u H2 Z2 O2 R2 o2 vy => ?_
  obtain ⟨n, k, kd, xs, e1, hk, e2, e3, K⟩ := h2
  have pat2 : PAt H2 σ g2 q.1 q.2 v := pat.step o2 (h.1.imp (fun z => ⟨z, quiet_val z ey⟩) fun z => iv z)
  have o3 : Out (Wq (quiet a && quiet j) O) H Z O σ g2 H2 Z2 O2 := o1.trans s.zok s.oz o2 (fun z => by simp [z]) (fun z => by simp [z])
  obtain ⟨R, _, rr, _⟩ := o2.sit.focus pat2 e2 fun _ => rfl
  have ru := vy.rep
  rw [e1] at ru
  have ru := rep_at ru
  subst ru
  obtain ⟨v0, p0, p1, p2⟩ := pat2
  have fin : ∀ w, (∀ x, xs[k]? = some x → VAt H2 v (.nd kd xs) [k] w) → PAt H2 σ g2 q.1 (q.2 ++ [k]) w := fun w hw => by
    refine ⟨v0, p0, fun e => by simp at e, fun d hd => ?_⟩
    unfold getG at e2
    rw [hd] at e2
    obtain ⟨x, hx⟩ : ∃ x, xs[k]? = some x := ⟨xs[k]'(ixN_seq e3).2.1, by simp [(ixN_seq e3).2.1]⟩
    exact (p2 d hd).append e2 k (hw x hx)
  have hk2 : k < xs.length := (ixN_seq e3).2.1
  rcases hk with rfl | rfl
  · obtain ⟨b, vs, rfl, hb, ra, _⟩ := rep_lst rr
    have hkv : k < vs.length := by rw [← ra.len]; exact hk2
    refine .inl ⟨b, vs, n, vs[k], rfl, rfl, SqL.of hb, by unfold atI; rw [← ra.len, e3]; simp [hkv], K vs[k] H2 Z2 O2 o3 (fin _ fun x hx => .lst b vs xs k [] x _ _ hb hx (by simp [hkv]) (.nil _ _)) fun e => by cases e⟩
  · obtain ⟨b, vs, rfl, hb, ra⟩ := rep_tup rr
    have hkv : k < vs.length := by rw [← ra.len]; exact hk2
    refine .inr ⟨b, vs, n, vs[k], rfl, rfl, SqT.of hb, by unfold atI; rw [← ra.len, e3]; simp [hkv], K vs[k] H2 Z2 O2 o3 (fin _ fun x hx => .tup b vs xs k [] x _ _ hb hx (by simp [hkv]) (.nil _ _)) fun e => by cases e⟩
/-! ### methods of lists -/
def lmId : Lm → String
  | .append => "list.append"
  | .pop => "list.pop"
  | .popAt => "list.pop"
  | .insert => "list.insert"
  | .extend => "list.extend"
  | .clear => "list.clear"
  | .reverse => "list.reverse"
theorem lm_mt (m : Lm) : MtM X (lmId m) (rLm m) := by
  cases m with
  | append => exact mt_append
  | pop => exact mt_pop
  | popAt => exact mt_popAt
  | clear => exact mt_clear
  | reverse => exact mt_reverse
  | insert => exact fun _ _ _ _ _ _ _ _ _ _ _ _ h => h.elim
  | extend => exact fun _ _ _ _ _ _ _ _ _ _ _ _ h => h.elim
theorem lm_slot (m : Lm) : Slot "list" (lmName m) (lmId m) := by
  cases m with
  | append => exact PySem.F.slot_list_append
  | pop => exact PySem.F.slot_list_pop
  | popAt => exact PySem.F.slot_list_pop
  | clear => exact PySem.F.slot_list_clear
  | reverse => exact PySem.F.slot_list_reverse
  | insert => exact PySem.F.slot_list_insert
  | extend => exact PySem.F.slot_list_extend
theorem lm_type (m : Lm) : typeOf (.builtin (lmId m)) = pure (.type "method_descriptor") := by
  cases m with
  | append => exact PySem.F.type_list_append
  | pop => exact PySem.F.type_list_pop
  | popAt => exact PySem.F.type_list_pop
  | clear => exact PySem.F.type_list_clear
  | reverse => exact PySem.F.type_list_reverse
  | insert => exact PySem.F.type_list_insert
  | extend => exact PySem.F.type_list_extend
theorem few_plain {env : Env} {pos : Pos} : ∀ {es : List Expr}, (∀ e ∈ es, plainE e = true) → (backTo pos (starEach es env)).all (fun x => !x.1) = true
  | [], _ => rfl
  | e :: es, hp => by
    rw [plain_star (hp e (by simp))]
    have := few_plain (env := env) (pos := pos) (es := es) fun y hy => hp y (by simp [hy])
    cases es with
    | nil => rfl
    | cons x es =>
      rw [plain_star (hp x (by simp))] at this ⊢
      exact this

theorem plc_lm {m : Lm} {a es : E} {A B : Den} {g : List D} {xp : Ex → List D → Prop} {K : VD → List D → Prop} (h : PR xp ((dLm m a es A B).val g) K) :
    PR xp (A.plc g) fun q g => (quiet es = true ∨ isVar a = true) ∧ isOwnL (getG g q.1 q.2) = true ∧ PR xp (B.lst g) fun ys g => ∃ ds xs d xs', allOwn ys = some ds ∧ getG g q.1 q.2 = some (.lst true xs) ∧ lmD m xs ds = some (d, xs') ∧
      K (d, false) (setG g q.1 q.2 (.lst true xs')) := by
  have h : PR xp ((A.plc g).bind _) K := h
  refine (PR.bind h).mono (fun _ _ z => z) fun q g _ h => ?_
  split at h
  · rename_i w
    refine ⟨w.1, w.2, (PR.bind h).mono (fun _ _ z => z) fun y g _ h => ?_⟩
    split at h
    · rename_i ds xs e1 e2
      split at h
      · rename_i d xs' e3
        exact ⟨ds, xs, d, xs', e1, e2, e3, h⟩
      · exact h.elim
    · exact h.elim
  · exact h.elim
theorem own_is {o : Option D} (h : isOwnL o = true) : ∃ xs, o = some (.lst true xs) := by
  unfold isOwnL at h
  split at h
  · exact ⟨_, rfl⟩
  · cases h
theorem lm_core {m : Lm} {a es : E} {ta : TE} {ts : TA}
    (sa : ∀ σ H Z g O Q, Sit H Z σ g O → PR (Xp X W σ H Z O) ((den c a).plc g) (fun q g' => ∀ v H' Z' O', Out (Wq (quiet a) O) H Z O σ g' H' Z' O' → PAt H' σ g' q.1 q.2 v → (isVar a = true → q.2 = []) → Q v H') → ta σ H Q)
    (ss : ∀ σ H Z g O Q, Sit H Z σ g O → PR (Xp X W σ H Z O) ((den c es).lst g) (fun xs g' => ∀ vs H' Z' O' F, Out (Wq (quiet es) O) H Z O σ g' H' Z' O' → Vls H O H' Z' O' xs vs F → Q vs H') → ts σ H Q) :
    ∀ σ H Z g O Q, Sit H Z σ g O → PR (Xp X W σ H Z O) ((den c (.lm m a es)).val g) (fun x g' => ∀ v H' Z' O' R, Out (Wq (quiet (.lm m a es)) O) H Z O σ g' H' Z' O' → Val H O H' Z' O' σ (.lm m a es) x v R → Q v H') → tBM X.K "list" (rLm m) ta ts σ H Q := by
  refine fun σ H Z g O Q s q => sa σ H Z g O _ s ?_
  refine (plc_lm q).mono (fun _ _ z => z) fun q g1 _ h v H1 Z1 O1 o1 pat iv => ?_
  obtain ⟨h1, h2, h3⟩ := h
  obtain ⟨xs0, hx0⟩ := own_is h2
  obtain ⟨_, _, r0, _⟩ := o1.sit.focus pat hx0 fun _ => rfl
  obtain ⟨p, vs0, rfl, hp0, _⟩ := rep_lst r0
  refine ⟨.inl ⟨rfl, vs0, SqL.of hp0⟩, ss σ H1 Z1 g1 O1 _ o1.sit ?_⟩
  refine h3.mono (fun e g' q => Xp.step s o1 q) fun ys g2 ey h3 us H2 Z2 O2 F o2 vl => ?_
  obtain ⟨ds, xs, d, xs', e1, e2, e3, K⟩ := h3
  have pat2 : PAt H2 σ g2 q.1 q.2 (.ref p) := pat.step o2 (h1.imp (fun z => ⟨z, quiet_lst z ey⟩) fun z => iv z)
  have o3 : Out (Wq (quiet a && quiet es) O) H Z O σ g2 H2 Z2 O2 := o1.trans s.zok s.oz o2 (fun z => by simp [z]) (fun z => by simp [z])
  obtain ⟨R, sub, rr, back⟩ := o2.sit.focus pat2 e2 fun _ => rfl
  have rd := allOwn_ok e1 vl
  have od := own_set vl
  refine lm_ok e3 o2.sit.zok (fun b z => o2.sit.oz b (sub b z)) (fun b z w => (od b z).2.1 (sub b w)) rr rd fun w R' Rw vs' r1 r2 hR' hRw ra => ?_
  have zp : Z2 p := o2.sit.oz p (sub p ra)
  have ex : Ext R H2 Z2 (upd H2 p (.lst vs')) Z2 := ext_at ra fun b z => o2.sit.oz b (sub b z)
  have sit := back _ Z2 _ R' (zok_at (o := .lst vs') o2.sit.zok trivial) ex (fun b z => ⟨(hR' b z).elim (fun z => o2.sit.oz b (sub b z)) fun z => (od b z).1, fun w => (hR' b z).elim id fun z => absurd w (od b z).2.1⟩) r1
  have bn : ∀ b, R b ∨ (∃ i, F i b) → O b ∨ H b = none := fun b z => z.elim (fun z => o3.bnd b (sub b z)) fun z => o1.bnd' (fun _ z => z.2) (od b z).2.2
  refine K w _ Z2 _ Rw ⟨sit, ?_, fun b z => ?_⟩ ⟨r2, fun b z => o2.sit.oz b (sub b (hRw b z).1), fun _ b z => ⟨fun w => ?_, bn b (.inl (hRw b z).1)⟩, fun _ e => by cases e⟩
  · refine o3.ext.trans s.zok ex (W := Wq (quiet (.lm m a es)) O) (fun x z => ⟨rfl, z.2⟩) (fun x z => (o3.bnd x (sub x z)).imp (fun z => ⟨rfl, z⟩) id) fun x z => s.oz x z.2
  · rcases z with z | z
    · exact o3.bnd b z.1
    · exact bn b (hR' b z)
  · rcases w with w | w
    · exact w.2 (hRw b z).1
    · exact (hRw b z).2 w
theorem sv_lm0 {m : Lm} {a : E} {o : Expr} {apos pos : Pos} (bo : baseOk o = true) (line : (apos.endLine == pos.line) = true) (ha : SndP c X W a o) :
    SndV c X W (.lm m a .nil) (.Call (.Attribute o (lmName m) apos) [] [] pos) := by
  obtain ⟨ta, pa, sa⟩ := ha
  exact ⟨_, pe_bm0 PySem.F.plainAttrs_list (lm_slot m) (lm_type m) (lm_mt m) pa (base_is bo _ _ _) line, lm_core (ts := tNil) sa fun σ H Z g O Q s q => q [] H Z O (fun _ => none_) (.refl s fun b z => s.oz b z.2) ⟨rfl, fun _ _ _ z => z.elim, fun _ _ z => z.elim, fun i x v e => by simp at e⟩⟩
theorem sv_lm {m : Lm} {a es : E} {o e : Expr} {as : List Expr} {apos pos : Pos} (bo : baseOk o = true) (few : as.length < 29) (line : (apos.endLine == pos.line) = true) (pl : ∀ y ∈ e :: as, plainE y = true) (ha : SndP c X W a o) (hs : SndL c X W es (e :: as)) :
    SndV c X W (.lm m a es) (.Call (.Attribute o (lmName m) apos) (e :: as) [] pos) := by
  obtain ⟨ta, pa, sa⟩ := ha
  obtain ⟨ts, ps, ss⟩ := hs
  refine ⟨_, pe_bm PySem.F.plainAttrs_list (lm_slot m) (lm_type m) (lm_mt m) pa ps (base_is bo _ _ _) ?_ line (plain_star (pl e (by simp)) _ _) (any_plain fun y hy => pl y (by simp [hy])), lm_core sa ss⟩
  rw [few_plain pl]
  have : ([] : List Keyword).isEmpty = true := rfl
  simp only [Bool.true_and, this, if_true, List.length_cons, List.length_nil]
  refine Bool.and_eq_true_iff.mpr ⟨rfl, decide_eq_true (by omega)⟩
end
end Bm

set_option maxHeartbeats 1000000
/-! B13: calls of defs. -/
namespace Bm
open PySem PySem.Spec PyProof.Rows L2
variable [TheK]
section
variable {X : Cx} {k : Nat} {f : Addr} {fd : FuncData} {ps : List Str} {sp : Sp} {dvs : List V} {ds : List Value} {W : WX}
theorem run_gx {pins : List (Addr × Obj)} {σ : Sg} {H : Hp} {s : Shared} {Q : VK} {us : List Value} {vs : List V} {E : XK} (F : FnG X.prog X.w X.K X.mg X.base (CX X.prog X.w) k f fd ps sp) (hr : Rm k X.A) (hb : Binds X.K fd ps ds)
    (hd : Vals dvs ds) (tk : Takes X W) (hW : ∀ cls d H', E cls d H' → W cls d σ H') (I : Inv X pins σ H s) (r : Vals vs us) (h : sp (vs ++ dvs) H Q E) : wpAny (model X.prog X.w) X.A (call (.ref f) us) (EP X pins σ Q) X.xe s := by
  have rr := r.append hd
  have ll : (us ++ ds).length = ps.length := (rr.length.symm.trans (F.len _ _ _ _ h))
  refine wpAny_call (codeAny_mono (F.run X.A X.stack s H _ _ _ Q E hr I.env0 (hb s us I.kIn ll) rr h) ?_)
  intro res s' got
  match res, got with
  | .error e, got => exact tk e s' (XE.of_call I hW got)
  | .ok (.ret u), got => exact I.after got
def tCallW (sp : Sp) (dvs : List V) (W : WX) (t : TA) : TE := fun σ H Q => t σ H fun vs H1 => sp (vs ++ dvs) H1 Q fun cls dd H' => W cls dd σ H'
theorem pe_callW {x : Str} {p pos : Pos} {es : List Expr} {t : TA} (F : FnG X.prog X.w X.K X.mg X.base (CX X.prog X.w) k f fd ps sp) (hr : Rm k X.A) (hg : Gl X x) (hm : X.mg x = some (.ref f))
    (hk : PySem.W.keepIn X.K (.ref f) = true) (hb : Binds X.K fd ps ds) (hd : Vals dvs ds) (tk : Takes X W) (ha : PA X es t) (hdb : (x == ("__debug__" : Str)) = false)
    (hpl : ∀ y ∈ es, plainE y = true) (h0 : es = [] → t = tNil) : PE X (.Call (.Name x p) es [] pos) (tCallW sp dvs W t) := by
  constructor
  intro pins s σ H Q I h
  cases es with
  | nil =>
    rw [h0 rfl] at h
    exact wpAny_Call_Name_kw (ld_glob I hg hm (PySem.W.callWith_K0 I.kIn hk (run_gx (us := []) F hr hb hd tk (fun _ _ _ z => z) I .nil h)) hdb)
  | cons e es =>
    refine wpAny_Call_Name_kw (ld_glob I hg hm (PySem.W.callWith_K (h₀ := X.base) I.ok.mod.kin hk ?_ (plain_star (hpl e (by simp)) _ _) (any_plain fun y hy => hpl y (by simp [hy]))) hdb)
    refine thn (ha.run pos pins s σ H _ I h) ?_
    rintro us s1 ⟨vs, H1, I1, r, q⟩
    exact ⟨I1.kIn, run_gx F hr hb hd tk (fun _ _ _ z => z) I1 r q⟩
end
/-! ### arguments -/
section
variable {c : Str → List D → CRes} {X : Cx} {W : WX}
theorem R.bind_bind {α β γ : Type} (r : R α) (f : α → List D → R β) (k : β → List D → R γ) : (r.bind f).bind k = r.bind fun a g => (f a g).bind k := by cases r <;> rfl
theorem one_eq {m : E} (h : ∀ i, m ≠ .var i) : (den c m).one = oneOf (den c m).val := by
  have ob : ∀ (f : List D → R Bool), (Den.ofB f).one = oneOf (Den.ofB f).val := fun f => by
    funext g
    show (f g).bind _ = R.bind (R.bind (f g) _) _
    cases f g <;> rfl
  cases m <;> first | exact absurd rfl (h _) | exact ob _ | (funext g; first | rfl | (show R.bind _ _ = R.bind (R.bind _ _) _; rw [R.bind_bind]; rfl))
theorem so1_var {i : Nat} {x : Str} {p : Pos} (hN : X.N[i]? = some x) (hv : Vis X.env.scope x) (h1 : (x == ("__debug__" : Str)) = false) (h2 : (x == ("__classdict__" : Str)) = false) : SndOne c X W (.var i) (.Name x p) :=
  ⟨_, pe_var hN hv h1 h2, fun σ H Z g O Q s q => by
    have q : PR (Xp X W σ H Z O) ((varD i g).bind fun _ g => .ok (Arg.r i) g) _ := q
    unfold varD at q
    split at q
    · rename_i d hd
      obtain ⟨x, e, k⟩ := q.bind.ofO
      obtain ⟨nd, rfl⟩ := mkV_eq e
      obtain ⟨v, hs, r⟩ := s.get hd nd
      exact ⟨v, hs, k v H Z O none_ (.refl s fun b z => s.oz b z.2) ⟨fun _ z => z.elim, hs⟩⟩
    · exact q.elim⟩
theorem so1_val {m : E} {e : Expr} (nv : ∀ i, m ≠ .var i) (h : SndV c X W m e) : SndOne c X W m e := by
  obtain ⟨t, p, s⟩ := h
  refine ⟨t, p, fun σ H Z g O Q st q => s σ H Z g O _ st ?_⟩
  rw [one_eq nv] at q
  refine (PR.bind q).mono (fun _ _ z => z) fun x g' _ k v H' Z' O' R o va => ?_
  split at k
  · rename_i hx
    exact k v H' Z' O' R o ⟨fun b z => ⟨va.rz b z, va.own hx b z⟩, va.rep⟩
  · exact k.elim
theorem sa_nil : SndA c X W .nil [] := ⟨_, pa_nil, fun σ H Z g O Q s q => q [] H Z O (fun _ => none_) (.refl s fun b z => s.oz b z.2) ⟨rfl, fun _ _ _ z => z.elim, fun _ _ z => z.elim, fun i a v e => by simp at e⟩⟩
theorem sa_cons {a b : E} {e : Expr} {es : List Expr} (pl : plainE e = true) (ha : SndOne c X W a e) (hb : SndA c X W b es) : SndA c X W (.cons a b) (e :: es) := by
  obtain ⟨ta, pa, sa⟩ := ha
  obtain ⟨tb, pb, sb⟩ := hb
  refine ⟨_, pa_cons pa pb (plain_star pl _ _), fun σ H Z g O Q s q => sa σ H Z g O _ s ?_⟩
  have q : PR (Xp X W σ H Z O) (consA (den c a) (den c b) g) _ := q
  refine (PR.bind q).mono (fun _ _ z => z) fun x g1 _ h v H1 Z1 O1 R1 o1 ar => sb σ H1 Z1 g1 O1 _ o1.sit ?_
  refine (PR.bind h).mono (fun e g' q => Xp.step s o1 q) fun ys g2 _ k us H2 Z2 O2 F o2 av => ?_
  have o3 : Out (Wq (quiet a && quiet b) O) H Z O σ g2 H2 Z2 O2 := o1.trans s.zok s.oz o2 (fun z => by simp [z]) (fun z => by simp [z])
  refine k (v :: us) H2 Z2 O2 (fun i => match i with
    | 0 => R1
    | i + 1 => F i) o3 ?_
  have rz : ∀ b, R1 b → Z2 b ∧ ¬ O2 b := fun b z => ⟨o2.ext.zkeep b (ar.z b z).1 fun w => (ar.z b z).2.1 w.2, fun w => (o2.bnd b w).elim (ar.z b z).2.1 fun w => not_Z o1.sit.zok w (ar.z b z).1⟩
  have dj : ∀ i b, F i b → ¬ R1 b := fun i b z w => (av.fz i b z).2.2.elim (ar.z b w).2.1 fun e => not_Z o1.sit.zok e (ar.z b w).1
  refine ⟨by simp [av.len], fun i j b z1 z2 => ?_, fun i b z => ?_, fun i a v e1 e2 => ?_⟩
  · cases i with
    | zero =>
      cases j with
      | zero => rfl
      | succ j => exact absurd z1 (dj j b z2)
    | succ i =>
      cases j with
      | zero => exact absurd z2 (dj i b z1)
      | succ j => rw [av.dj i j b z1 z2]
  · cases i with
    | zero => exact ⟨(rz b z).1, (rz b z).2, (ar.z b z).2.2⟩
    | succ i => exact ⟨(av.fz i b z).1, (av.fz i b z).2.1, o1.bnd' (fun _ z => z.2) (av.fz i b z).2.2⟩
  · cases i with
    | zero =>
      simp at e1 e2
      subst e1 e2
      have r := ar.r
      cases x with
      | v d => exact Rep.ext r o1.sit.zok o2.ext fun b z w => (ar.z b z).2.1 w.2
      | r i => exact r
    | succ i =>
      simp at e1 e2
      exact av.at_ i a v e1 e2
theorem RepA.cons {H : Hp} {Z : AS} {xs : List D} {vs : List V} {R R2 : AS} {y : D} {v : V} (r : Rep H Z y v R2) (h : RepA H Z xs vs R) (dj : ∀ b, R2 b → ¬ R b) : RepA H Z (y :: xs) (v :: vs) (fun b => R2 b ∨ R b) := by
  obtain ⟨l, F, f1, f2, rr⟩ := h
  refine ⟨by simp [l], fun i => match i with
    | 0 => R2
    | i + 1 => F i, fun i b z => ?_, fun i j b z1 z2 => ?_, fun i d w e1 e2 => ?_⟩
  · cases i with
    | zero => exact .inl z
    | succ i => exact .inr (f1 i b z)
  · cases i with
    | zero =>
      cases j with
      | zero => rfl
      | succ j => exact absurd (f1 j b z2) (dj b z1)
    | succ i =>
      cases j with
      | zero => exact absurd (f1 i b z1) (dj b z2)
      | succ j => rw [f2 i j b z1 z2]
  · cases i with
    | zero =>
      simp at e1 e2
      subst e1 e2
      exact r
    | succ i =>
      simp at e1 e2
      exact rr i d w e1 e2
theorem RepA.tail {H : Hp} {Z : AS} {xs : List D} {vs : List V} {R : AS} {y : D} {v : V} (h : RepA H Z (y :: xs) (v :: vs) R) : ∃ R1 R2, Rep H Z y v R1 ∧ RepA H Z xs vs R2 ∧ (∀ b, R1 b → R b ∧ ¬ R2 b) ∧ ∀ b, R2 b → R b := by
  obtain ⟨l, F, f1, f2, rr⟩ := h
  refine ⟨F 0, fun b => ∃ i, F (i + 1) b, rr 0 y v rfl rfl, ⟨by simpa using l, fun i => F (i + 1), fun i b z => ⟨i, z⟩, fun i j b z1 z2 => ?_, fun i d w e1 e2 => rr (i + 1) d w (by simpa using e1) (by simpa using e2)⟩, fun b z => ⟨f1 0 b z, fun ⟨i, w⟩ => ?_⟩, fun b ⟨i, z⟩ => f1 _ b z⟩
  · have := f2 _ _ b z1 z2
    omega
  · have := f2 _ _ b z w
    omega
theorem RepA.nil {H : Hp} {Z : AS} {R : AS} : RepA H Z [] [] R := ⟨rfl, fun _ => none_, fun _ _ z => z.elim, fun _ _ _ z => z.elim, fun i d v e => by simp at e⟩
theorem dead_pers {d : D} (h : d.pers = true) : d.isDead = false := by cases d <;> first | rfl | cases h
theorem take_sit {H : Hp} {Z : AS} {σ : Sg} : ∀ {as : List Arg} {vs : List V} {g : List D} {O : AS} {F : Nat → AS} {ds : List D} {g1 : List D}, Sit H Z σ g O → takeA as g = some (ds, g1) → as.length = vs.length →
    (∀ i j b, F i b → F j b → i = j) → (∀ i b, F i b → Z b ∧ ¬ O b) → (∀ i a v, as[i]? = some a → vs[i]? = some v → ArgAt H Z σ a v (F i)) →
    ∃ O1 OA, Sit H Z σ g1 O1 ∧ RepA H Z ds vs OA ∧ (∀ b, O1 b → O b) ∧ ∀ b, OA b → (O b ∧ ¬ O1 b) ∨ ∃ i, F i b
  | [], [], g, O, F, ds, g1, s, e, _, _, _, _ => by
    simp only [takeA] at e
    cases e
    exact ⟨O, none_, s, .nil, fun _ z => z, fun _ z => z.elim⟩
  | .v d :: as, v :: vs, g, O, F, ds, g1, s, e, l, dj, fz, at_ => by
    simp only [takeA] at e
    obtain ⟨⟨ds', g1'⟩, e1, e2⟩ := Option.map_eq_some_iff.mp e
    cases e2
    obtain ⟨O1, OA, s1, ra, h1, h2⟩ := take_sit s e1 (by simpa using l) (F := fun i => F (i + 1)) (fun i j b z1 z2 => by have := dj _ _ b z1 z2; omega) (fun i b z => fz _ b z) fun i a v e1 e2 => at_ (i + 1) a v (by simpa using e1) (by simpa using e2)
    refine ⟨O1, _, s1, RepA.cons (at_ 0 _ v rfl rfl) ra fun b z w => ?_, h1, fun b z => ?_⟩
    · rcases h2 b w with q | ⟨i, q⟩
      · exact (fz 0 b z).2 q.1
      · have := dj _ _ b z q; omega
    · rcases z with z | z
      · exact .inr ⟨0, z⟩
      · exact (h2 b z).imp id fun ⟨i, q⟩ => ⟨i + 1, q⟩
  | .r k :: as, v :: vs, g, O, F, ds, g1, s, e, l, dj, fz, at_ => by
    simp only [takeA] at e
    split at e
    · rename_i d hd
      split at e
      · cases e
      · rename_i nd
        have nd : d.isDead = false := by simpa using nd
        have hs : σ[k]? = some (some v) := at_ 0 _ v rfl rfl
        split at e
        · rename_i hp
          obtain ⟨⟨ds', g1'⟩, e1, e2⟩ := Option.map_eq_some_iff.mp e
          cases e2
          obtain ⟨u, hu, r⟩ := s.get hd nd
          obtain rfl : v = u := by rw [hs] at hu; injection hu with hu; injection hu
          obtain ⟨O1, OA, s1, ra, h1, h2⟩ := take_sit s e1 (by simpa using l) (F := fun i => F (i + 1)) (fun i j b z1 z2 => by have := dj _ _ b z1 z2; omega) (fun i b z => fz _ b z) fun i a v e1 e2 => at_ (i + 1) a v (by simpa using e1) (by simpa using e2)
          refine ⟨O1, _, s1, RepA.cons (r.pers hp) ra fun b z => z.elim, h1, fun b z => ?_⟩
          rcases z with z | z
          · exact z.elim
          · exact (h2 b z).imp id fun ⟨i, q⟩ => ⟨i + 1, q⟩
        · obtain ⟨⟨ds', g1'⟩, e1, e2⟩ := Option.map_eq_some_iff.mp e
          cases e2
          obtain ⟨u, R, O', hu, r, s', hR, hO⟩ := s.take hd nd
          obtain rfl : v = u := by rw [hs] at hu; injection hu with hu; injection hu
          obtain ⟨O1, OA, s1, ra, h1, h2⟩ := take_sit s' e1 (by simpa using l) (F := fun i => F (i + 1)) (fun i j b z1 z2 => by have := dj _ _ b z1 z2; omega) (fun i b z => ⟨(fz _ b z).1, fun w => (fz _ b z).2 (hO b w)⟩) fun i a v e1 e2 => at_ (i + 1) a v (by simpa using e1) (by simpa using e2)
          refine ⟨O1, _, s1, RepA.cons r ra fun b z w => ?_, fun b z => hO b (h1 b z), fun b z => ?_⟩
          · rcases h2 b w with q | ⟨i, q⟩
            · exact (hR b z).2 q.1
            · exact (fz _ b q).2 (hR b z).1
          · rcases z with z | z
            · exact .inl ⟨(hR b z).1, fun w => (hR b z).2 (h1 b w)⟩
            · exact (h2 b z).imp (fun q => ⟨hO b q.1, q.2⟩) fun ⟨i, q⟩ => ⟨i + 1, q⟩
    · cases e
  | [], _ :: _, _, _, _, _, _, _, _, l, _, _, _ => by simp at l
  | _ :: _, [], _, _, _, _, _, _, _, l, _, _, _ => by simp at l
theorem Sit.put {H : Hp} {Z O R : AS} {σ : Sg} {g : List D} {i : Nat} {d : D} {v : V} (s : Sit H Z σ g O) (hs : σ[i]? = some (some v)) (r : Rep H Z d v R) (rz : ∀ b, R b → Z b ∧ ¬ O b) : Sit H Z σ (g.set i d) (fun b => O b ∨ R b) := by
  obtain ⟨z, oz, l, F, f1, f2, rr⟩ := s
  refine ⟨z, fun b q => q.elim (oz b) fun q => (rz b q).1, by simpa using l, fun j b => if j = i then R b else F j b, fun j b q => ?_, fun j k b q1 q2 => ?_, fun j x q => ?_⟩
  · by_cases hj : j = i
    · simp only [hj, if_true] at q; exact .inr q
    · simp only [if_neg hj] at q; exact .inl (f1 j b q)
  · by_cases hj : j = i
    · by_cases hk : k = i
      · rw [hj, hk]
      · simp only [hj, if_true] at q1
        simp only [if_neg hk] at q2
        exact absurd (f1 k b q2) (rz b q1).2
    · by_cases hk : k = i
      · simp only [hk, if_true] at q2
        simp only [if_neg hj] at q1
        exact absurd (f1 j b q1) (rz b q2).2
      · simp only [if_neg hj] at q1
        simp only [if_neg hk] at q2
        exact f2 j k b q1 q2
  · rcases get_set q with ⟨rfl, rfl, _⟩ | ⟨ne, q⟩
    · refine .inr ⟨v, hs, ?_⟩
      simp only [if_true]
      exact r
    · rcases rr j x q with h | ⟨w, h3, h4⟩
      · exact .inl h
      · refine .inr ⟨w, h3, ?_⟩
        simp only [if_neg (Ne.symm ne)]
        exact h4
theorem Sit.mono {H : Hp} {Z O O' : AS} {σ : Sg} {g : List D} (s : Sit H Z σ g O) (h : ∀ b, O b → O' b) (oz : ∀ b, O' b → Z b) : Sit H Z σ g O' := by
  obtain ⟨z, _, l, F, f1, f2, rr⟩ := s
  exact ⟨z, oz, l, F, fun i b q => h b (f1 i b q), f2, rr⟩
def RefAt (σ : Sg) (a : Arg) (v : V) : Prop := match a with
  | .r i => σ[i]? = some (some v)
  | .v _ => True
theorem back_sit {H : Hp} {Z : AS} {σ : Sg} : ∀ {as : List Arg} {vs : List V} {ds ds' g : List D} {O OA : AS} {g2 : List D}, Sit H Z σ g O → backA as ds ds' g = some g2 →
    (∀ (i : Nat) (a : Arg) (v : V), as[i]? = some a → vs[i]? = some v → RefAt σ a v) → RepA H Z ds' vs OA → (∀ b, OA b → Z b ∧ ¬ O b) → Sit H Z σ g2 (fun b => O b ∨ OA b)
  | [], vs, [], [], g, O, OA, g2, s, e, _, ra, hz => by
    simp only [backA] at e
    cases e
    exact s.mono (fun b z => .inl z) fun b z => z.elim (s.oz b) fun z => (hz b z).1
  | .v _ :: as, [], _ :: ds, d' :: ds', g, O, OA, g2, s, e, at_, ra, hz => by have := ra.len; simp at this
  | .v _ :: as, v :: vs, _ :: ds, d' :: ds', g, O, OA, g2, s, e, at_, ra, hz => by
    simp only [backA] at e
    obtain ⟨R1, R2, r, rt, h1, h2⟩ := ra.tail
    have := back_sit s e (fun i a v e1 e2 => at_ (i + 1) a v (by simpa using e1) (by simpa using e2)) rt fun b z => hz b (h2 b z)
    exact this.mono (fun b z => z.imp id (h2 b)) fun b z => z.elim (s.oz b) fun z => (hz b z).1
  | .r i :: as, [], d :: ds, d' :: ds', g, O, OA, g2, s, e, at_, ra, hz => by have := ra.len; simp at this
  | .r i :: as, v :: vs, d :: ds, d' :: ds', g, O, OA, g2, s, e, at_, ra, hz => by
    simp only [backA] at e
    obtain ⟨R1, R2, r, rt, h1, h2⟩ := ra.tail
    have fin : ∀ b, O b ∨ OA b → Z b := fun b z => z.elim (s.oz b) fun z => (hz b z).1
    split at e
    · have := back_sit s e (fun i a v e1 e2 => at_ (i + 1) a v (by simpa using e1) (by simpa using e2)) rt fun b z => hz b (h2 b z)
      exact this.mono (fun b z => z.imp id (h2 b)) fin
    · have hs : σ[i]? = some (some v) := at_ 0 _ v rfl rfl
      have s1 := s.put hs r fun b z => hz b (h1 b z).1
      have := back_sit s1 e (fun i a v e1 e2 => at_ (i + 1) a v (by simpa using e1) (by simpa using e2)) rt fun b z => ⟨(hz b (h2 b z)).1, fun w => w.elim (hz b (h2 b z)).2 fun w => (h1 b w).2 z⟩
      exact this.mono (fun b z => z.elim (fun z => z.imp id fun z => (h1 b z).1) fun z => .inr (h2 b z)) fin
  | [], _, [], _ :: _, _, _, _, _, _, e, _, _, _ => by simp [backA] at e
  | [], _, _ :: _, _, _, _, _, _, _, e, _, _, _ => by simp [backA] at e
  | .v _ :: _, _, [], _, _, _, _, _, _, e, _, _, _ => by simp [backA] at e
  | .v _ :: _, _, _ :: _, [], _, _, _, _, _, e, _, _, _ => by simp [backA] at e
  | .r _ :: _, _, [], _, _, _, _, _, _, e, _, _, _ => by simp [backA] at e
  | .r _ :: _, _, _ :: _, [], _, _, _, _, _, e, _, _, _ => by simp [backA] at e
theorem Sit.extD {W : AS} {H H' : Hp} {Z Z' O : AS} {σ : Sg} {g : List D} (s : Sit H Z σ g O) (zk : ZOk H' Z') (e : Ext W H Z H' Z') (dj : ∀ b, O b → ¬ W b) : Sit H' Z' σ g O := by
  obtain ⟨z, oz, l, F, f1, f2, rr⟩ := s
  refine ⟨zk, fun b q => e.zkeep b (oz b q) (dj b q), l, F, f1, f2, fun i d q => ?_⟩
  rcases rr i d q with h | ⟨w, h3, h4⟩
  · exact .inl h
  · exact .inr ⟨w, h3, h4.ext z e fun b q => dj b (f1 i b q)⟩
theorem spD_call {F : List D → CRes} {H H1 : Hp} {Z O Z1 O1 : AS} {σ : Sg} {g g1 : List D} {as : List Arg} {vs : List V} {Fo : Nat → AS} {q : Bool} {Q : VK} {K : D → List D → Prop} (s : Sit H Z σ g O) (o1 : Out (Wq q O) H Z O σ g1 H1 Z1 O1) (av : ArgsR H O H1 Z1 O1 σ as vs Fo)
    (k : PR (Xp X W σ H Z O) (match takeA as g1 with
      | some (ds, g) => (match F ds with
        | .ok d ds' => (match backA as ds ds' g with
          | some g => .ok d g
          | none => .no)
        | .ex e ds' => (match backA as ds ds' g with
          | some g => .ex e g
          | none => .no)
        | .no => .no)
      | none => .no) K) (hq : ∀ d g3 v H' Z' O' R, K d g3 → Out (Wq false O) H Z O σ g3 H' Z' O' → Rep H' Z' d v R → (∀ b, R b → Z' b ∧ ¬ O' b ∧ (O b ∨ H b = none)) → Q v H') :
    spD X.mg F vs H1 Q fun cls dd H' => W cls dd σ H' := by
  split at k
  · rename_i ds g2 et
    obtain ⟨O2, OA, s2, ra, h1, h2⟩ := take_sit o1.sit et av.len av.dj (fun i b z => ⟨(av.fz i b z).1, (av.fz i b z).2.1⟩) av.at_
    have oaz : ∀ b, OA b → Z1 b := fun b z => (h2 b z).elim (fun z => o1.sit.oz b z.1) fun ⟨i, z⟩ => (av.fz i b z).1
    have oab : ∀ b, OA b → O b ∨ H b = none := fun b z => (h2 b z).elim (fun z => o1.bnd b z.1) fun ⟨i, z⟩ => (av.fz i b z).2.2
    have oad : ∀ b, O2 b → ¬ OA b := fun b z w => (h2 b w).elim (fun w => w.2 z) fun ⟨i, w⟩ => (av.fz i b w).2.1 (h1 b z)
    have new : ∀ b, OA b ∨ H1 b = none → O b ∨ H b = none := fun b z => z.elim (oab b) fun e => o1.bnd' (fun _ z => z.2) (.inr e)
    have refs : ∀ (i : Nat) (a : Arg) (v : V), as[i]? = some a → vs[i]? = some v → RefAt σ a v := fun i a v e1 e2 => by
      have := av.at_ i a v e1 e2
      cases a with
      | v d => exact trivial
      | r j => exact this
    have fin : ∀ {H' : Hp} {Z' O' : AS} {ds' g3 : List D}, ZOk H' Z' → Ext OA H1 Z1 H' Z' → (∀ b, O' b → Z' b ∧ (OA b ∨ H1 b = none)) → RepA H' Z' ds' vs O' → backA as ds ds' g2 = some g3 →
        Out (Wq false O) H Z O σ g3 H' Z' (fun b => O2 b ∨ O' b) := fun {H' Z' O' ds' g3} zk ex bo ra' eb => by
      have s3 := back_sit (s2.extD zk ex oad) eb refs ra' fun b z => ⟨(bo b z).1, fun w => (bo b z).2.elim (oad b w) fun e => not_Z o1.sit.zok e (s2.oz b w)⟩
      refine ⟨s3, o1.ext.trans s.zok ex (fun x z => ⟨rfl, z.2⟩) (fun x z => (oab x z).imp (fun z => ⟨rfl, z⟩) id) fun x z => s.oz x z.2, fun b z => ?_⟩
      rcases z with z | z
      · exact o1.bnd b (h1 b z)
      · exact new b (bo b z).2
    have finR : ∀ {Z' O' R : AS}, (∀ b, R b → Z' b ∧ ¬ O' b ∧ (OA b ∨ H1 b = none)) → ∀ b, R b → Z' b ∧ ¬ (O2 b ∨ O' b) ∧ (O b ∨ H b = none) := fun hr b z =>
      ⟨(hr b z).1, fun w => w.elim (fun w => (hr b z).2.2.elim (oad b w) fun e => not_Z o1.sit.zok e (s2.oz b w)) (hr b z).2.1, new b (hr b z).2.2⟩
    refine ⟨Z1, ds, OA, o1.sit.zok, oaz, ra, ?_⟩
    split at k
    · rename_i d ds' ec
      try rw [ec]
      split at k
      · rename_i g3 eb
        intro v H' Z' O' R zk ex bo ra' rd hr
        exact hq d g3 v H' Z' _ R k (fin zk ex bo ra' eb) rd (finR hr)
      · exact k.elim
    · rename_i e ds' ec
      try rw [ec]
      split at k
      · rename_i g3 eb
        intro cls dd H' Z' O' R zk ex bo ra' rd hr
        exact k cls dd H' Z' _ R (fin zk ex bo ra' eb) rd (finR hr)
      · exact k.elim
    · exact k.elim
  · exact k.elim
theorem sv_call {f : Str} {m : E} {es : List Expr} {p pos : Pos} (hc : Callee X (c f) f .fn) (hg : Gl X f) (tk : Takes X W) (hdb : (f == ("__debug__" : Str)) = false) (pl : ∀ y ∈ es, plainE y = true) (ha : SndA c X W m es) (h0 : es = [] → m = .nil) :
    SndV c X W (.call f m) (.Call (.Name f p) es [] pos) := by
  obtain ⟨k, fa, fd, ps, ⟨hm, hk⟩, FG, hr, hb⟩ := hc
  have hr := hr.mono (Nat.le_succ k)
  obtain ⟨ta, pa, sa, ht⟩ : ∃ t, PA X es t ∧ (∀ σ H Z g O Q, Sit H Z σ g O →
      PR (Xp X W σ H Z O) ((den c m).arg g) (fun as g' => ∀ vs H' Z' O' F, Out (Wq (quiet m) O) H Z O σ g' H' Z' O' → ArgsR H O H' Z' O' σ as vs F → Q vs H') → t σ H Q) ∧ (es = [] → t = tNil) := by
    cases es with
    | nil =>
      rw [h0 rfl]
      exact ⟨tNil, pa_nil, fun σ H Z g O Q s q => q [] H Z O (fun _ => none_) (.refl s fun b z => s.oz b z.2) ⟨rfl, fun _ _ _ z => z.elim, fun _ _ z => z.elim, fun i a v e => by simp at e⟩, fun _ => rfl⟩
    | cons e es =>
      obtain ⟨t, p, s⟩ := ha
      exact ⟨t, p, s, fun e => nomatch e⟩
  refine ⟨_, pe_callW FG hr hg hm hk hb .nil tk pa hdb pl ht, fun σ H Z g O Q s q => sa σ H Z g O _ s ?_⟩
  have q : PR (Xp X W σ H Z O) (((den c m).arg g).bind fun as g => callD c f as g) _ := q
  refine (PR.bind q).mono (fun _ _ z => z) fun as g1 _ k vs H1 Z1 O1 F o1 av => ?_
  show spD X.mg (c f) (vs ++ []) H1 Q _
  rw [List.append_nil]
  refine spD_call (K := fun d g3 => ∀ v H' Z' O' R, Out (Wq (quiet (.call f m)) O) H Z O σ g3 H' Z' O' → Val H O H' Z' O' σ (.call f m) (d, false) v R → Q v H') s o1 av ?_ fun d g3 v H' Z' O' R hK o r hr => hK v H' Z' O' R o ⟨r, fun b z => (hr b z).1, fun _ b z => (hr b z).2, fun _ e => by cases e⟩
  unfold callD at k
  split at k
  · rename_i ds g2 et
    try rw [et]
    cases hcf : c f ds with
    | ok d ds' =>
      simp only [hcf] at k ⊢
      cases hb2 : backA as ds ds' g2 with
      | some g3 => simp only [hb2] at k ⊢; exact k
      | none => simp only [hb2] at k; exact k.elim
    | ex e ds' =>
      simp only [hcf] at k ⊢
      cases hb2 : backA as ds ds' g2 with
      | some g3 => simp only [hb2] at k ⊢; exact k
      | none => simp only [hb2] at k; exact k.elim
    | no => simp only [hcf] at k; exact k.elim
  · exact k.elim
end
end Bm

set_option maxHeartbeats 1000000
/-! B14: what loops walk. -/
namespace Bm
open PySem PySem.Spec PyProof.Rows L2
variable [TheK]
abbrev IT := Nat → Sg → Hp → AS → AS → Prop
structure Steady (src : Src) (I : IT) : Prop where
  ext : ∀ k σ σ' H Z H' Z' R W, I k σ H Z R → ZOk H Z → Ext W H Z H' Z' → (∀ b, R b → ¬ W b) → (∀ i ∈ src.names, σ'[i]? = σ[i]?) → I k σ' H' Z' R
/-- a list (or what `Sq` says) at a that gives, turn by turn, what the source gives -/
structure LSrc (Sq : Hp → List V → Prop) (src : Src) (I : IT) : Prop where
  at_ : ∀ k σ H Z R g O r, I k σ H Z R → Sit H Z σ g O → src.at g k = some r → match r with
    | none => ∃ vs, Sq H vs ∧ vs.length ≤ k
    | some d => ∃ vs v Rd R', Sq H vs ∧ vs[k]? = some v ∧ Rep H Z d v Rd ∧ I (k + 1) σ H Z R' ∧ (∀ b, Rd b → R b ∧ ¬ R' b) ∧ ∀ b, R' b → R b
  st : Steady src I
structure ISrc (J : It) (src : Src) (I : IT) : Prop where
  stop : ∀ k σ H Z R g O, I k σ H Z R → Sit H Z σ g O → src.at g k = some none → J.stop k H
  go : ∀ k σ H Z R g O d, I k σ H Z R → Sit H Z σ g O → src.at g k = some (some d) → J.go k H
  yld : ∀ k σ H Z R g O d x H', I k σ H Z R → Sit H Z σ g O → src.at g k = some (some d) → J.yld k H x H' → ZOk H' Z ∧ Bm.Ext none_ H Z H' Z ∧ ∃ Rd R', Rep H' Z d x Rd ∧ I (k + 1) σ H' Z R' ∧ (∀ b, Rd b → R b ∧ ¬ R' b) ∧ ∀ b, R' b → R b
  st : Steady src I
theorem ext_refl0 {H : Hp} {Z : AS} : Bm.Ext none_ H Z H Z := .refl fun _ z => z.elim
/-! ### the sources -/
def seqI (a : Addr) (o : HO) (xs : List D) (vs : List V) : IT := fun k _ H Z R => H a = some o ∧ (R a ∨ ¬ Z a) ∧ ∃ F : Nat → AS, (∀ j b, F j b → R b ∧ b ≠ a) ∧ (∀ i j b, F i b → F j b → i = j) ∧
  ∀ j d v, k ≤ j → xs[j]? = some d → vs[j]? = some v → Rep H Z d v (F j)
theorem seq_steady {a : Addr} {o : HO} {xs : List D} {vs : List V} : Steady (.fix xs) (seqI a o xs vs) := by
  refine ⟨fun k σ σ' H Z H' Z' R W h zk ex dj _ => ?_⟩
  obtain ⟨h1, h2, F, f1, f2, r⟩ := h
  refine ⟨ex.same a o h1 fun w => h2.elim (fun z => dj a z w) fun n => n (ex.wz a w), h2.imp id fun n z => ?_, F, f1, f2, fun j d v hj e1 e2 => (r j d v hj e1 e2).ext zk ex fun b z => dj b (f1 j b z).1⟩
  rcases ex.zold a z with q | q
  · exact n q
  · rw [h1] at q; cases q
theorem seq_src {Sq : Hp → List V → Prop} {a : Addr} {o : HO} {xs : List D} {vs : List V} (l : xs.length = vs.length) (sq : ∀ H, H a = some o → Sq H vs) : LSrc Sq (.fix xs) (seqI a o xs vs) := by
  refine ⟨fun k σ H Z R g O r h s e => ?_, seq_steady⟩
  obtain ⟨h1, h2, F, f1, f2, rr⟩ := h
  simp only [Src.at] at e
  cases e
  cases hx : xs[k]? with
  | none => exact ⟨vs, sq H h1, by have := List.getElem?_eq_none_iff.mp hx; omega⟩
  | some d =>
    have hk : k < vs.length := by rw [← l]; exact (List.getElem?_eq_some_iff.mp hx).1
    refine ⟨vs, vs[k], F k, fun b => R b ∧ ¬ F k b, sq H h1, by simp [hk], rr k d _ (Nat.le_refl _) hx (by simp [hk]), ⟨h1, ?_, fun j b => j ≠ k ∧ F j b, fun j b z => ⟨⟨(f1 j b z.2).1, fun w => z.1 (f2 j k b z.2 w)⟩, (f1 j b z.2).2⟩, fun i j b z1 z2 => f2 i j b z1.2 z2.2, fun j d v hj e1 e2 => ?_⟩, fun b z => ⟨(f1 k b z).1, fun w => w.2 z⟩, fun b z => z.1⟩
    · exact h2.imp (fun z => ⟨z, fun w => (f1 k a w).2 rfl⟩) id
    · exact (rr j d v (by omega) e1 e2).mono fun b z => ⟨by omega, z⟩
def liveI (a : Addr) (i : Nat) : IT := fun _ σ _ _ _ => σ[i]? = some (some (.ref a))
theorem live_src {K : PySem.W.Frag} {a : Addr} {i : Nat} : LSrc (fun H => SqL K H a) (.live i) (liveI a i) := by
  refine ⟨fun k σ H Z R g O r h s e => ?_, ⟨fun k σ σ' H Z H' Z' R W h _ _ _ hn => by
    show σ'[i]? = _
    rw [hn i (by simp [Src.names])]
    exact h⟩⟩
  have h : σ[i]? = some (some (.ref a)) := h
  simp only [Src.at] at e
  split at e
  · rename_i xs hg
    obtain ⟨v, hv, rr⟩ := s.get hg rfl
    rw [h] at hv
    obtain rfl : V.ref a = v := by injection hv with hv; injection hv
    obtain ⟨a', vs, ea, hh, ra, _⟩ := rep_lst rr
    cases ea
    split at e
    · rename_i d hd
      split at e
      · rename_i p
        cases e
        obtain ⟨v, h1, h2⟩ := ra.get hd
        exact ⟨vs, v, none_, R, SqL.of hh, h1, h2.pers p, h, fun _ z => z.elim, fun _ z => z⟩
      · cases e
    · rename_i hd
      cases e
      refine ⟨vs, SqL.of hh, ?_⟩
      have := List.getElem?_eq_none_iff.mp hd
      rw [← ra.len]; exact this
  · cases e
theorem LSrc.list {K : PySem.W.Frag} {a : Addr} {src : Src} {I : IT} (h : LSrc (fun H => SqL K H a) src I) : ISrc (Itl K a) src I := by
  refine ⟨fun k σ H Z R g O i s e => h.at_ k σ H Z R g O _ i s e, fun k σ H Z R g O d i s e => ?_, fun k σ H Z R g O d x H' i s e y => ?_, h.st⟩
  · obtain ⟨vs, v, _, _, h1, h2, _⟩ := h.at_ k σ H Z R g O _ i s e
    exact ⟨vs, v, h1, h2⟩
  · obtain ⟨vs, v, Rd, R', h1, h2, h3, h4, h5, h6⟩ := h.at_ k σ H Z R g O _ i s e
    obtain ⟨rfl, y⟩ := y
    have := y vs h1
    rw [h2] at this
    cases this
    exact ⟨s.zok, ext_refl0, Rd, R', h3, h4, h5, h6⟩
theorem LSrc.tup {K : PySem.W.Frag} {a : Addr} {src : Src} {I : IT} (h : LSrc (fun H => SqT K H a) src I) : ISrc (Itt K a) src I := by
  refine ⟨fun k σ H Z R g O i s e => h.at_ k σ H Z R g O _ i s e, fun k σ H Z R g O d i s e => ?_, fun k σ H Z R g O d x H' i s e y => ?_, h.st⟩
  · obtain ⟨vs, v, _, _, h1, h2, _⟩ := h.at_ k σ H Z R g O _ i s e
    exact ⟨vs, v, h1, h2⟩
  · obtain ⟨vs, v, Rd, R', h1, h2, h3, h4, h5, h6⟩ := h.at_ k σ H Z R g O _ i s e
    obtain ⟨rfl, y⟩ := y
    have := y vs h1
    rw [h2] at this
    cases this
    exact ⟨s.zok, ext_refl0, Rd, R', h3, h4, h5, h6⟩
theorem range_src {J : It} {xs : List D} {n : Nat} {f : Nat → Int} (hx : xs = (List.range n).map fun i => .int (f i)) (h1 : ∀ i H, n ≤ i → J.stop i H) (h2 : ∀ i H, i < n → J.go i H) (h3 : ∀ i H x H', J.yld i H x H' → H' = H ∧ x = .int (f i)) : ISrc J (.fix xs) (fun _ _ _ _ _ => True) := by
  have len : xs.length = n := by rw [hx]; simp
  refine ⟨fun k σ H Z R g O i s e => ?_, fun k σ H Z R g O d i s e => ?_, fun k σ H Z R g O d x H' i s e y => ?_, ⟨fun _ _ _ _ _ _ _ _ _ _ _ _ _ _ => trivial⟩⟩
  · simp only [Src.at] at e
    injection e with e
    exact h1 k H (by have := List.getElem?_eq_none_iff.mp e; omega)
  · simp only [Src.at] at e
    injection e with e
    exact h2 k H (by have := (List.getElem?_eq_some_iff.mp e).1; omega)
  · simp only [Src.at] at e
    injection e with e
    obtain ⟨rfl, rfl⟩ := h3 k H x H' y
    have hk : k < n := by have := (List.getElem?_eq_some_iff.mp e).1; omega
    rw [hx, List.getElem?_map, List.getElem?_range hk] at e
    cases e
    exact ⟨s.zok, ext_refl0, none_, R, .at (.int (f k)) _, trivial, fun _ z => z.elim, fun _ z => z⟩
/-! ### pairs -/
theorem new_pair {H : Hp} {Z : AS} {d e : D} {v u : V} {R1 R2 : AS} {T : Addr} (zk : ZOk H Z) (h1 : Rep H Z d v R1) (h2 : Rep H Z e u R2) (dj : ∀ b, R1 b → ¬ R2 b) (hT : H T = none) :
    ZOk (upd H T (.tup [v, u])) Z ∧ Bm.Ext none_ H Z (upd H T (.tup [v, u])) Z ∧ Rep (upd H T (.tup [v, u])) Z (.nd .tup [d, e]) (.ref T) (fun b => R1 b ∨ R2 b) := by
  refine ⟨zok_new zk hT, ext_new hT, ?_⟩
  have ra := RepA.cons h1 (RepA.cons h2 (.nil (R := none_)) fun _ _ z => z) fun b z w => w.elim (dj b z) id
  exact (new_tup zk ra hT).mono fun b z => z.imp id fun z => z.elim id fun z => z.elim
theorem LSrc.enum {K : PySem.W.Frag} {a : Addr} {src : Src} {I : IT} (h : LSrc (fun H => SqL K H a) src I) : ISrc (Ite K a) (.enum src) I := by
  refine ⟨fun k σ H Z R g O i s e => ?_, fun k σ H Z R g O d i s e => ?_, fun k σ H Z R g O d x H' i s e y => ?_, ⟨h.st.ext⟩⟩
  · simp only [Src.at] at e
    obtain ⟨r, e1, e2⟩ := Option.map_eq_some_iff.mp e
    cases r with
    | none => exact h.at_ k σ H Z R g O _ i s e1
    | some d => cases e2
  · simp only [Src.at] at e
    obtain ⟨r, e1, e2⟩ := Option.map_eq_some_iff.mp e
    cases r with
    | none => cases e2
    | some d =>
      obtain ⟨vs, v, _, _, h1, h2, _⟩ := h.at_ k σ H Z R g O _ i s e1
      exact ⟨vs, v, h1, h2⟩
  · simp only [Src.at] at e
    obtain ⟨r, e1, e2⟩ := Option.map_eq_some_iff.mp e
    cases r with
    | none => cases e2
    | some d =>
      cases e2
      obtain ⟨vs, v, Rd, R', h1, h2, h3, h4, h5, h6⟩ := h.at_ k σ H Z R g O _ i s e1
      obtain ⟨T, u, rfl, hT, rfl, y⟩ := y
      have := y vs h1
      rw [h2] at this
      cases this
      obtain ⟨z1, z2, z3⟩ := new_pair (d := .int (k : Int)) (R1 := none_) s.zok (.at (.int (k : Int)) _) h3 (fun _ z => z.elim) hT
      exact ⟨z1, z2, Rd, R', z3.mono fun b z => z.elim (fun z => z.elim) id, h.st.ext _ σ σ _ _ _ _ _ _ h4 s.zok z2 (fun _ _ z => z) fun _ _ => rfl, h5, h6⟩
def zipI (I1 I2 : IT) : IT := fun k σ H Z R => ∃ R1 R2 : AS, I1 k σ H Z R1 ∧ I2 k σ H Z R2 ∧ (∀ b, R1 b → ¬ R2 b) ∧ (∀ b, R1 b → R b) ∧ ∀ b, R2 b → R b
theorem zip_at {g : List D} {k : Nat} {s t : Src} {r : Option D} (e : (Src.zip s t).at g k = some r) : ∃ r1 r2, s.at g k = some r1 ∧ t.at g k = some r2 ∧ match r1, r2 with
    | some a, some b => r = some (.tup [a, b])
    | _, _ => r = none := by
  simp only [Src.at] at e
  split at e
  · rename_i a b h1 h2
    cases e
    exact ⟨_, _, h1, h2, rfl⟩
  · rename_i x h1 h2
    cases e
    exact ⟨_, _, ‹_›, ‹_›, by cases ‹Option D› <;> rfl⟩
  · rename_i a h1 h2
    cases e
    exact ⟨_, _, h1, h2, rfl⟩
  · cases e
theorem LSrc.zip {K : PySem.W.Frag} {a b : Addr} {s t : Src} {I1 I2 : IT} (h1 : LSrc (fun H => SqL K H a) s I1) (h2 : LSrc (fun H => SqL K H b) t I2) : ISrc (Itz K a b) (.zip s t) (zipI I1 I2) := by
  have st : Steady (.zip s t) (zipI I1 I2) := by
    refine ⟨fun k σ σ' H Z H' Z' R W h zk ex dj hn => ?_⟩
    obtain ⟨R1, R2, i1, i2, d, s1, s2⟩ := h
    refine ⟨R1, R2, h1.st.ext _ σ σ' _ _ _ _ _ W i1 zk ex (fun b z => dj b (s1 b z)) fun i hi => hn i (by simp [Src.names, hi]), h2.st.ext _ σ σ' _ _ _ _ _ W i2 zk ex (fun b z => dj b (s2 b z)) fun i hi => hn i (by simp [Src.names, hi]), d, s1, s2⟩
  refine ⟨fun k σ H Z R g O i s' e => ?_, fun k σ H Z R g O d i s' e => ?_, fun k σ H Z R g O d x H' i s' e y => ?_, st⟩
  · obtain ⟨R1, R2, i1, i2, _, _, _⟩ := i
    obtain ⟨r1, r2, e1, e2, e3⟩ := zip_at e
    have q1 := h1.at_ k σ H Z R1 g O _ i1 s' e1
    have q2 := h2.at_ k σ H Z R2 g O _ i2 s' e2
    cases r1 with
    | none =>
      obtain ⟨vs, s1, l1⟩ := q1
      cases r2 with
      | none =>
        obtain ⟨us, s2, l2⟩ := q2
        exact ⟨vs, us, s1, s2, .inl l1⟩
      | some d =>
        obtain ⟨us, _, _, _, s2, _⟩ := q2
        exact ⟨vs, us, s1, s2, .inl l1⟩
    | some d =>
      obtain ⟨vs, _, _, _, s1, _⟩ := q1
      cases r2 with
      | none =>
        obtain ⟨us, s2, l2⟩ := q2
        exact ⟨vs, us, s1, s2, .inr l2⟩
      | some d => cases e3
  · obtain ⟨R1, R2, i1, i2, _, _, _⟩ := i
    obtain ⟨r1, r2, e1, e2, e3⟩ := zip_at e
    have q1 := h1.at_ k σ H Z R1 g O _ i1 s' e1
    have q2 := h2.at_ k σ H Z R2 g O _ i2 s' e2
    cases r1 with
    | none => cases e3
    | some d1 =>
      cases r2 with
      | none => cases e3
      | some d2 =>
        obtain ⟨vs, v, _, _, s1, v1, _⟩ := q1
        obtain ⟨us, u, _, _, s2, v2, _⟩ := q2
        exact ⟨vs, us, v, u, s1, s2, v1, v2⟩
  · obtain ⟨R1, R2, i1, i2, dj, sub1, sub2⟩ := i
    obtain ⟨r1, r2, e1, e2, e3⟩ := zip_at e
    have q1 := h1.at_ k σ H Z R1 g O _ i1 s' e1
    have q2 := h2.at_ k σ H Z R2 g O _ i2 s' e2
    cases r1 with
    | none => cases e3
    | some d1 =>
      cases r2 with
      | none => cases e3
      | some d2 =>
        cases e3
        obtain ⟨vs, v, Rd1, R1', s1, v1, p1, j1, m1, n1⟩ := q1
        obtain ⟨us, u, Rd2, R2', s2, v2, p2, j2, m2, n2⟩ := q2
        obtain ⟨T, v', u', rfl, hT, rfl, y1, y2⟩ := y
        have := y1 vs s1
        rw [v1] at this
        cases this
        have := y2 us s2
        rw [v2] at this
        cases this
        obtain ⟨z1, z2, z3⟩ := new_pair s'.zok p1 p2 (fun b z w => dj b (m1 b z).1 (m2 b w).1) hT
        refine ⟨z1, z2, _, fun b => R1' b ∨ R2' b, z3, ⟨R1', R2', h1.st.ext _ σ σ _ _ _ _ _ _ j1 s'.zok z2 (fun _ _ z => z) fun _ _ => rfl, h2.st.ext _ σ σ _ _ _ _ _ _ j2 s'.zok z2 (fun _ _ z => z) fun _ _ => rfl, fun b z w => dj b (n1 b z) (n2 b w), fun b z => .inl z, fun b z => .inr z⟩, fun b z => ?_, fun b z => z.elim (fun z => sub1 b (n1 b z)) fun z => sub2 b (n2 b z)⟩
        rcases z with z | z
        · exact ⟨sub1 b (m1 b z).1, fun w => w.elim (m1 b z).2 fun w => dj b (m1 b z).1 (n2 b w)⟩
        · exact ⟨sub2 b (m2 b z).1, fun w => w.elim (fun w => dj b (n1 b w) (m2 b z).1) (m2 b z).2⟩
end Bm

set_option maxHeartbeats 1000000
/-! B15: expressions that a loop walks. -/
namespace Bm
open PySem PySem.Spec PyProof.Rows L2
variable [TheK]
theorem no_mut {H : Hp} {Z : AS} {a : Addr} {o : HO} (zk : ZOk H Z) (h : H a = some o) (n : ¬ Mut (some o)) : ¬ Z a := fun z => by
  obtain ⟨u, q, m⟩ := zk a z
  rw [h] at q
  cases q
  exact n m
theorem iterL_src {K : PySem.W.Frag} {σ : Sg} {H : Hp} {Z R : AS} {x : VD} {xs : List D} {v : V} (zk : ZOk H Z) (r : Rep H Z x.1 v R) (rz : ∀ b, R b → Z b) (e : iterL x = some xs) :
    ∃ a vs I R', v = .ref a ∧ SqL K H a vs ∧ LSrc (fun H => SqL K H a) (.fix xs) I ∧ I 0 σ H Z R' ∧ ∀ b, R' b → R b ∧ x.2 = false := by
  unfold iterL at e
  split at e
  · rename_i m xs l
    split at e
    · rename_i c
      cases e
      cases r with
      | nd _ _ a vs _ F n len f1 f2 rr =>
        cases m with
        | true =>
          have hl : l = false := c.elim id fun z => by cases z
          refine ⟨a, vs, _, R, rfl, SqL.of n.1, seq_src (o := .lst vs) len fun H h => SqL.of h, ⟨n.1, .inl n.2, F, fun j b z => (f1 j b z), f2, fun j d v _ e1 e2 => rr j d v e1 e2⟩, fun b z => ⟨z, hl⟩⟩
        | false =>
          refine ⟨a, vs, _, none_, rfl, SqL.of n.1, seq_src (o := .lst vs) len fun H h => SqL.of h, ⟨n.1, .inr n.2, F, fun j b z => (f1 j b z).elim, f2, fun j d v _ e1 e2 => rr j d v e1 e2⟩, fun b z => z.elim⟩
    · cases e
  · cases e
theorem iterV_src {K : PySem.W.Frag} {σ : Sg} {H : Hp} {Z R : AS} {x : VD} {xs : List D} {v : V} (zk : ZOk H Z) (r : Rep H Z x.1 v R) (rz : ∀ b, R b → Z b) (e : iterV x = some xs) :
    ∃ a I R', v = .ref a ∧ ((∃ vs, SqL K H a vs) ∧ ISrc (Itl K a) (.fix xs) I ∨ (∃ vs, SqT K H a vs) ∧ ISrc (Itt K a) (.fix xs) I) ∧ I 0 σ H Z R' ∧ ∀ b, R' b → R b ∧ x.2 = false := by
  unfold iterV at e
  split at e
  · rename_i xs l
    split at e
    · rename_i c
      cases e
      cases r with
      | nd _ _ a vs _ F n len f1 f2 rr =>
        have n : H a = some (.tup vs) := n
        have na : ∀ b, R b → b ≠ a := fun b z e => no_mut zk n (fun z => z) (rz a (by rw [← e]; exact z))
        by_cases hl : l = false
        · exact ⟨a, _, R, rfl, .inr ⟨⟨vs, SqT.of n⟩, LSrc.tup (seq_src (o := .tup vs) len fun H h => SqT.of h)⟩, ⟨n, .inr (no_mut zk n fun z => z), F, fun j b z => ⟨f1 j b z, na b (f1 j b z)⟩, f2, fun j d v _ e1 e2 => rr j d v e1 e2⟩, fun b z => ⟨z, hl⟩⟩
        · have hp : persL xs = true := c.resolve_left hl
          exact ⟨a, _, none_, rfl, .inr ⟨⟨vs, SqT.of n⟩, LSrc.tup (seq_src (o := .tup vs) len fun H h => SqT.of h)⟩, ⟨n, .inr (no_mut zk n fun z => z), fun _ => none_, fun j b z => z.elim, fun _ _ _ z => z.elim, fun j d v _ e1 e2 => (rr j d v e1 e2).pers (persL_mem hp e1)⟩, fun b z => z.elim⟩
    · cases e
  · obtain ⟨a, vs, I, R', h1, h2, h3, h4, h5⟩ := iterL_src (K := K) (σ := σ) zk r rz e
    exact ⟨a, I, R', h1, .inl ⟨⟨vs, h2⟩, h3.list⟩, h4, h5⟩
section
variable {c : Str → List D → CRes} {X : Cx} {W : WX}
def OwnR (H : Hp) (O : AS) (Z' O' R : AS) : Prop := ∀ b, R b → Z' b ∧ ¬ O' b ∧ (O b ∨ H b = none)
def SndSr (c : Str → List D → CRes) (X : Cx) (W : WX) (m : E) (e : Expr) : Prop := ∃ t, PE X e t ∧ ∀ σ H Z g O Q, Sit H Z σ g O →
  PR (Xp X W σ H Z O) ((den c m).lsr g) (fun src g' => ∀ a vs H' Z' O' I R, Out (Wq (quiet m) O) H Z O σ g' H' Z' O' → LSrc (fun H => SqL X.K H a) src I → I 0 σ H' Z' R → OwnR H O Z' O' R → SqL X.K H' a vs → Q (.ref a) H') → t σ H Q
def SndI (c : Str → List D → CRes) (X : Cx) (W : WX) (tg : Expr) (m : E) (iter : Expr) : Prop := ∃ wi, PI X tg iter wi ∧ ∀ σ H Z g O R, Sit H Z σ g O →
  PR (Xp X W σ H Z O) ((den c m).itr g) (fun src g' => ∀ J H' Z' O' I Ro, Out (Wq (quiet m) O) H Z O σ g' H' Z' O' → ISrc J src I → I 0 σ H' Z' Ro → OwnR H O Z' O' Ro → R J H') → wi σ H R
theorem ssr_val {m : E} {e : Expr} (h : SndV c X W m e) (hl : (den c m).lsr = lsrOf (den c m).val) : SndSr c X W m e := by
  obtain ⟨t, p, s⟩ := h
  refine ⟨t, p, fun σ H Z g O Q st q => s σ H Z g O _ st ?_⟩
  rw [hl] at q
  refine (PR.bind q).mono (fun _ _ z => z) fun x g' _ k v H' Z' O' R o va => ?_
  obtain ⟨src, e, k⟩ := k.ofO
  obtain ⟨xs, e1, e2⟩ := Option.map_eq_some_iff.mp e
  subst e2
  obtain ⟨a, vs, I, R', rfl, h2, h3, h4, h5⟩ := iterL_src (K := X.K) (σ := σ) o.sit.zok va.rep va.rz e1
  exact k a vs H' Z' O' I R' o h3 h4 (fun b z => ⟨va.rz b (h5 b z).1, va.own (h5 b z).2 b (h5 b z).1⟩) h2
theorem live_get {H : Hp} {Z O : AS} {σ : Sg} {g : List D} {i : Nat} (s : Sit H Z σ g O) (h : isLive g i = true) : ∃ a vs, σ[i]? = some (some (.ref a)) ∧ H a = some (.lst vs) := by
  unfold isLive at h
  split at h
  · rename_i xs hg
    obtain ⟨v, hv, rr⟩ := s.get hg rfl
    obtain ⟨a, vs, rfl, hh, _⟩ := rep_lst rr
    exact ⟨a, vs, hv, hh⟩
  · cases h
theorem ssr_var {i : Nat} {x : Str} {p : Pos} (hN : X.N[i]? = some x) (hv : Vis X.env.scope x) (h1 : (x == ("__debug__" : Str)) = false) (h2 : (x == ("__classdict__" : Str)) = false) : SndSr c X W (.var i) (.Name x p) :=
  ⟨_, pe_var hN hv h1 h2, fun σ H Z g O Q s q => by
    have q : PR (Xp X W σ H Z O) (if isLive g i = true then .ok (.live i) g else lsrOf (varD i) g) _ := q
    by_cases hl : isLive g i = true
    · rw [if_pos hl] at q
      obtain ⟨a, vs, ha, hh⟩ := live_get s hl
      exact ⟨_, ha, q a vs H Z O (liveI a i) none_ (.refl s fun b z => s.oz b z.2) live_src ha (fun _ z => z.elim) (SqL.of hh)⟩
    · rw [if_neg hl] at q
      have q : PR (Xp X W σ H Z O) ((varD i g).bind _) _ := q
      have q := PR.bind q
      unfold varD at q
      split at q
      · rename_i d hd
        obtain ⟨y, e, k⟩ := q.ofO
        obtain ⟨nd, rfl⟩ := mkV_eq e
        obtain ⟨v, hs, r⟩ := s.get hd nd
        obtain ⟨src, e, k⟩ := k.ofO
        obtain ⟨xs, e1, e2⟩ := Option.map_eq_some_iff.mp e
        subst e2
        have r' : ∃ R, Rep H Z d v R ∧ (∀ b, R b → Z b) ∧ ((true && !d.pers) = false → ∀ b, ¬ R b) := by
          by_cases p : d.pers = true
          · exact ⟨none_, r.pers p, fun _ z => z.elim, fun _ _ z => z⟩
          · exact ⟨O, r, s.oz, fun z => by simp [p] at z⟩
        obtain ⟨R, r, rz, rn⟩ := r'
        obtain ⟨a, vs, I, R', rfl, h2, h3, h4, h5⟩ := iterL_src (K := X.K) (σ := σ) s.zok r rz e1
        exact ⟨_, hs, k a vs H Z O I R' (.refl s fun b z => s.oz b z.2) h3 h4 (fun b z => absurd (h5 b z).1 (rn (h5 b z).2 b)) h2⟩
      · exact q.elim⟩
/-! ### the iterators -/
def iAny (K : PySem.W.Frag) (tl : TE) : TI := fun σ H R => tl σ H fun x H1 => ∃ a, x = .ref a ∧ ((∃ vs, SqL K H1 a vs) ∧ R (Itl K a) H1 ∨ (∃ vs, SqT K H1 a vs) ∧ R (Itt K a) H1)
theorem pi_any {l tg : Expr} {tl : TE} (hl : PE X l tl) : PI X tg l (iAny X.K tl) := by
  constructor
  intro pins s σ H R inv want
  apply thn (hl.run pins s σ H _ inv want)
  rintro u s2 ⟨y, H2, inv2, rel, a, rfl, alt⟩
  have lay : ∀ b ∈ [s2.heap.objs.size], FpOk X pins H2 b := fun b hb => by
    cases List.mem_singleton.mp hb
    exact inv2.fpOk (Nat.le_refl _) (inv2.hok.fresh (Nat.le_refl _))
  have more : ∀ (o : Obj), Inv X pins σ H2 { s2 with heap := s2.heap.push o } := fun o => inv2.kept (t' := s2.toks) fun b ob q => Heap.get?_push_of_some _ q
  cases rel
  rcases alt with ⟨⟨vs, sq⟩, w⟩ | ⟨⟨vs, sq⟩, w⟩
  · obtain ⟨is, _, pl, _⟩ := inv2.list sq
    exact wpAny_pyIter_list pl.isList ⟨_, _, _, _, H2, rfl, more _, turn_list a _, ⟨_, Heap.get?_push_size _ rfl, rfl, rfl⟩, lay, w⟩
  · obtain ⟨is, _, pl, _⟩ := inv2.tuple sq
    exact wpAny_pyIter_tuple (show s2.heap.IsTuple a is.toArray from pl) ⟨_, _, _, _, H2, rfl, more _, turn_tuple a _, ⟨_, Heap.get?_push_size _ rfl, rfl, rfl⟩, lay, w⟩
theorem si_val {tg : Expr} {m : E} {e : Expr} (h : SndV c X W m e) (hl : ∀ g, (den c m).itr g = itrOf (den c m).val g ∨ (den c m).itr g = .no) : SndI c X W tg m e := by
  obtain ⟨t, p, s⟩ := h
  refine ⟨_, pi_any p, fun σ H Z g O R st q => s σ H Z g O _ st ?_⟩
  rcases hl g with hl | hl
  · rw [hl] at q
    refine (PR.bind q).mono (fun _ _ z => z) fun x g' _ k v H' Z' O' R o va => ?_
    obtain ⟨src, e, k⟩ := k.ofO
    obtain ⟨xs, e1, e2⟩ := Option.map_eq_some_iff.mp e
    subst e2
    obtain ⟨a, I, R', rfl, h3, h4, h5⟩ := iterV_src (K := X.K) (σ := σ) o.sit.zok va.rep va.rz e1
    have own : OwnR H O Z' O' R' := fun b z => ⟨va.rz b (h5 b z).1, va.own (h5 b z).2 b (h5 b z).1⟩
    exact ⟨a, rfl, h3.imp (fun h => ⟨h.1, k _ H' Z' O' I R' o h.2 h4 own⟩) fun h => ⟨h.1, k _ H' Z' O' I R' o h.2 h4 own⟩⟩
  · rw [hl] at q
    exact q.elim
theorem si_var {tg : Expr} {i : Nat} {x : Str} {p : Pos} (hN : X.N[i]? = some x) (hv : Vis X.env.scope x) (h1 : (x == ("__debug__" : Str)) = false) (h2 : (x == ("__classdict__" : Str)) = false) : SndI c X W tg (.var i) (.Name x p) :=
  ⟨_, pi_any (pe_var hN hv h1 h2), fun σ H Z g O Rr s q => by
    have q : PR (Xp X W σ H Z O) (if isLive g i = true then .ok (.live i) g else itrOf (varD i) g) _ := q
    by_cases hl : isLive g i = true
    · rw [if_pos hl] at q
      obtain ⟨a, vs, ha, hh⟩ := live_get s hl
      exact ⟨_, ha, a, rfl, .inl ⟨⟨vs, SqL.of hh⟩, q _ H Z O (liveI a i) none_ (.refl s fun b z => s.oz b z.2) live_src.list ha (fun _ z => z.elim)⟩⟩
    · rw [if_neg hl] at q
      have q : PR (Xp X W σ H Z O) ((varD i g).bind _) _ := q
      have q := PR.bind q
      unfold varD at q
      split at q
      · rename_i d hd
        obtain ⟨y, e, k⟩ := q.ofO
        obtain ⟨nd, rfl⟩ := mkV_eq e
        obtain ⟨v, hs, r⟩ := s.get hd nd
        obtain ⟨src, e, k⟩ := k.ofO
        obtain ⟨xs, e1, e2⟩ := Option.map_eq_some_iff.mp e
        subst e2
        have r' : ∃ R, Rep H Z d v R ∧ (∀ b, R b → Z b) ∧ ((true && !d.pers) = false → ∀ b, ¬ R b) := by
          by_cases p : d.pers = true
          · exact ⟨none_, r.pers p, fun _ z => z.elim, fun _ _ z => z⟩
          · exact ⟨O, r, s.oz, fun z => by simp [p] at z⟩
        obtain ⟨R, r, rz, rn⟩ := r'
        obtain ⟨a, I, R', rfl, h3, h4, h5⟩ := iterV_src (K := X.K) (σ := σ) s.zok r rz e1
        have own : OwnR H O Z O R' := fun b z => absurd (h5 b z).1 (rn (h5 b z).2 b)
        exact ⟨_, hs, a, rfl, h3.imp (fun h => ⟨h.1, k _ H Z O I R' (.refl s fun b z => s.oz b z.2) h.2 h4 own⟩) fun h => ⟨h.1, k _ H Z O I R' (.refl s fun b z => s.oz b z.2) h.2 h4 own⟩⟩
      · exact q.elim⟩
/-! ### range, enumerate, zip -/
def LenL (c : Str → List D → CRes) (m : E) (n : Nat) : Prop := ∀ g xs g', (den c m).lst g = .ok xs g' → xs.length = n
theorem plain_is {a : Expr} (h : plainE a = true) (env : Env) : starEach [a] env = [(false, eval a env)] := plain_star h [] env
theorem plain_is2 {a b : Expr} (h : plainE a = true) (h2 : plainE b = true) (env : Env) : starEach [a, b] env = [(false, eval a env), (false, eval b env)] := by rw [plain_star h, plain_is h2]
theorem small_is {i : Int} (h : smallI i = true) : -(2 ^ 62) ≤ i ∧ i < 2 ^ 62 := of_decide_eq_true h
theorem vls_ints1 {H H' : Hp} {O Z' O' : AS} {vs : List V} {F : Nat → AS} {i : Int} {l : Bool} (h : Vls H O H' Z' O' [(.int i, l)] vs F) : vs = [.int i] := by
  obtain ⟨v, R, rfl, _, r⟩ := h.args.one
  rw [rep_at r]; rfl
theorem vls_ints2 {H H' : Hp} {O Z' O' : AS} {vs : List V} {F : Nat → AS} {i j : Int} {l l' : Bool} (h : Vls H O H' Z' O' [(.int i, l), (.int j, l')] vs F) : vs = [.int i, .int j] := by
  obtain ⟨v, u, R, R', rfl, r, r'⟩ := h.args.two
  rw [rep_at r, rep_at r']; rfl
theorem vls_ints3 {H H' : Hp} {O Z' O' : AS} {vs : List V} {F : Nat → AS} {i j k : Int} {l l' l'' : Bool} (h : Vls H O H' Z' O' [(.int i, l), (.int j, l'), (.int k, l'')] vs F) : vs = [.int i, .int j, .int k] := by
  obtain ⟨v, u, w, R, R', R'', rfl, r, r', r''⟩ := h.args.three
  rw [rep_at r, rep_at r', rep_at r'']; rfl
theorem si_range {tg : Expr} {m : E} {es : List Expr} {p pos : Pos} (hg : Gl X "range") (hm : X.mg "range" = none) (h : SndL c X W m es) (hl : LenL c m es.length) (hn : es.length = 1 ∨ es.length = 2 ∨ es.length = 3) (pl : ∀ y ∈ es, plainE y = true) :
    SndI c X W tg (.blt .range m) (.Call (.Name "range" p) es [] pos) := by
  obtain ⟨t, pa, s⟩ := h
  have go : ∀ σ H Z g O (R : It → Hp → Prop), Sit H Z σ g O → PR (Xp X W σ H Z O) ((den c (.blt .range m)).itr g) (fun src g' => ∀ J H' Z' O' I Ro, Out (Wq (quiet m) O) H Z O σ g' H' Z' O' → ISrc J src I → I 0 σ H' Z' Ro → OwnR H O Z' O' Ro → R J H') →
      PR (Xp X W σ H Z O) ((den c m).lst g) fun xs g' => ∃ src, xs.length = es.length ∧ rangeS xs = some src ∧ ∀ J H' Z' O' I Ro, Out (Wq (quiet m) O) H Z O σ g' H' Z' O' → ISrc J src I → I 0 σ H' Z' Ro → OwnR H O Z' O' Ro → R J H' := fun σ H Z g O R st q => by
    refine (PR.bind (show PR (Xp X W σ H Z O) (((den c m).lst g).bind _) _ from q)).mono (fun _ _ z => z) fun xs g' e k => ?_
    obtain ⟨src, e2, k⟩ := k.ofO
    exact ⟨src, hl _ _ _ e, e2, k⟩
  rcases hn with hn | hn | hn
  · match es, hn with
    | [a], _ =>
      refine ⟨_, pi_range1 hg hm pa (plain_is (pl a (by simp)) _), fun σ H Z g O R st q => s σ H Z g O _ st ((go σ H Z g O R st q).mono (fun _ _ z => z) fun xs g' _ ⟨src, l, e, k⟩ vs H' Z' O' F o vl => ?_)⟩
      unfold rangeS at e
      split at e
      · rename_i j l _ _
        split at e
        · rename_i sj
          cases e
          obtain ⟨a1, a2⟩ := small_is sj
          refine ⟨j, vls_ints1 vl, a1, a2, k (Itr 0 j.toNat) H' Z' O' _ none_ o (range_src (n := j.toNat) (f := fun i => 0 + (i : Int)) rfl (fun i H h => h) (fun i H h => h) fun i H x H' y => y) trivial fun _ z => z.elim⟩
        · cases e
      · simp at l
      · simp at l
      · cases e
  · match es, hn with
    | [a, b], _ =>
      refine ⟨_, pi_range2 hg hm pa (plain_is2 (pl a (by simp)) (pl b (by simp)) _) (plain_is (pl b (by simp)) _), fun σ H Z g O R st q => s σ H Z g O _ st ((go σ H Z g O R st q).mono (fun _ _ z => z) fun xs g' _ ⟨src, l, e, k⟩ vs H' Z' O' F o vl => ?_)⟩
      unfold rangeS at e
      split at e
      · simp at l
      · rename_i i l1 j l2 _ _
        split at e
        · rename_i sj
          cases e
          obtain ⟨a1, a2⟩ := small_is sj.1
          obtain ⟨b1, b2⟩ := small_is sj.2
          exact ⟨i, j, vls_ints2 vl, ⟨a1, a2, b1, b2⟩, k (Itr i (j - i).toNat) H' Z' O' _ none_ o (range_src (n := (j - i).toNat) (f := fun k => i + (k : Int)) rfl (fun i H h => h) (fun i H h => h) fun i H x H' y => y) trivial fun _ z => z.elim⟩
        · cases e
      · simp at l
      · cases e
  · match es, hn with
    | [a, b, d], _ =>
      refine ⟨_, pi_range3 hg hm pa (plain_star (pl a (by simp)) _ _) (any_plain fun y hy => pl y (by simp at hy; rcases hy with rfl | rfl <;> simp)), fun σ H Z g O R st q => s σ H Z g O _ st ((go σ H Z g O R st q).mono (fun _ _ z => z) fun xs g' _ ⟨src, l, e, k⟩ vs H' Z' O' F o vl => ?_)⟩
      unfold rangeS at e
      split at e
      · simp at l
      · simp at l
      · rename_i i l1 j l2 cc l3 _ _
        split at e
        · rename_i sj
          cases e
          obtain ⟨rfl, s1, s2⟩ := sj
          obtain ⟨a1, a2⟩ := small_is s1
          obtain ⟨b1, b2⟩ := small_is s2
          exact ⟨i, j, -1, (i - j).toNat, vls_ints3 vl, RgC.neg a1 a2 b1 b2, k (Itc i (-1) (i - j).toNat) H' Z' O' _ none_ o (range_src (n := (i - j).toNat) (f := fun k => i + (k : Int) * -1) rfl (fun i H h => h) (fun i H h => h) fun i H x H' y => y) trivial fun _ z => z.elim⟩
        · cases e
      · cases e
theorem si_enum {m : E} {e : Expr} {p pos tpos : Pos} {elts : List Expr} {kk : Nat} (hg : Gl X "enumerate") (hm : X.mg "enumerate" = none) (h : SndSr c X W m e) (pl : plainE e = true) :
    SndI c X W (.Tuple elts kk tpos) (.blt .enumerate (.cons m .nil)) (.Call (.Name "enumerate" p) [e] [] pos) := by
  obtain ⟨t, pe, s⟩ := h
  refine ⟨_, pi_enum hg hm (pa_cons pe pa_nil (plain_star pl _ _)) (plain_is pl _), fun σ H Z g O R st q => s σ H Z g O _ st ?_⟩
  have q : PR (Xp X W σ H Z O) (Bm.R.bind (if isNil .nil = true then (den c m).lsr g else .no) fun s g => .ok (Src.enum s) g) _ := q
  rw [if_pos (show isNil E.nil = true from rfl)] at q
  refine (PR.bind q).mono (fun _ _ z => z) fun src g' _ k a vs H' Z' O' I Ro o ls i own sq => ?_
  refine ⟨a, vs, rfl, sq, k _ H' Z' O' I Ro (o.weak st fun z => ?_) ls.enum i own⟩
  show (quiet m && true) = false
  rw [z]; rfl
theorem si_zip {m m2 : E} {e e2 : Expr} {p pos tpos : Pos} {elts : List Expr} {kk : Nat} (hg : Gl X "zip") (hm : X.mg "zip" = none) (h : SndSr c X W m e) (h2 : SndSr c X W m2 e2) (pl : plainE e = true) (pl2 : plainE e2 = true) :
    SndI c X W (.Tuple elts kk tpos) (.blt .zip (.cons m (.cons m2 .nil))) (.Call (.Name "zip" p) [e, e2] [] pos) := by
  obtain ⟨t, pe, s⟩ := h
  obtain ⟨t2, pe2, s2⟩ := h2
  refine ⟨_, pi_zip hg hm (pa_cons pe (pa_cons pe2 pa_nil (plain_star pl2 _ _)) (plain_star pl _ _)) (plain_star pl _ _) (any_plain fun y hy => by cases List.mem_singleton.mp hy; exact pl2), fun σ H Z g O R st q => s σ H Z g O _ st ?_⟩
  have q : PR (Xp X W σ H Z O) (Bm.R.bind (((den c m).lsr g).bind fun s g => Bm.R.bind (if isNil .nil = true then (den c m2).lsr g else .no) fun t g => if (s.at g 0).isSome = true then .ok (s, t) g else .no) fun p g => .ok (Src.zip p.1 p.2) g) _ := q
  refine (PR.bind (PR.bind q)).mono (fun _ _ z => z) fun src g1 _ k a vs H1 Z1 O1 I1 R1 o1 ls1 i1 own1 sq1 => s2 σ H1 Z1 g1 O1 _ o1.sit ?_
  rw [if_pos (show isNil E.nil = true from rfl)] at k
  refine (PR.bind k).mono (fun e g' q => Xp.step st o1 q) fun src2 g2 _ k b us H2 Z2 O2 I2 R2 o2 ls2 i2 own2 sq2 => ?_
  have nw : ∀ x, R1 x → ¬ Wq (quiet m2) O1 x := fun x z w => (own1 x z).2.1 w.2
  have i1' := ls1.st.ext 0 σ σ _ _ _ _ _ _ i1 o1.sit.zok o2.ext nw fun _ _ => rfl
  split at k
  case isFalse => exact k.elim
  rename_i hs
  obtain ⟨vs', hv'⟩ : ∃ vs', SqL X.K H2 a vs' := by
    obtain ⟨r, hr⟩ := Option.isSome_iff_exists.mp hs
    have := ls1.at_ 0 σ H2 Z2 R1 g2 O2 r i1' o2.sit hr
    cases r with
    | none => exact ⟨_, this.choose_spec.1⟩
    | some d =>
      obtain ⟨vs, _, _, _, h, _⟩ := this
      exact ⟨vs, h⟩
  refine ⟨a, b, vs', us, rfl, hv', sq2, k _ H2 Z2 O2 (zipI I1 I2) (fun x => R1 x ∨ R2 x) (o1.trans st.zok st.oz o2 (fun z => ?_) fun z => ?_) (ls1.zip ls2) ⟨R1, R2, i1', i2, fun x z w => ?_, fun _ z => .inl z, fun _ z => .inr z⟩ fun x z => ?_⟩
  · show (quiet m && (quiet m2 && true)) = false
    rw [z]; rfl
  · show (quiet m && (quiet m2 && true)) = false
    rw [z]; simp
  · rcases (own2 x w).2.2 with q | q
    · exact (own1 x z).2.1 q
    · exact not_Z o1.sit.zok q (own1 x z).1
  · rcases z with z | z
    · exact ⟨o2.ext.zkeep x (own1 x z).1 (nw x z), fun w => (o2.bnd x w).elim (own1 x z).2.1 fun q => not_Z o1.sit.zok q (own1 x z).1, (own1 x z).2.2⟩
    · exact ⟨(own2 x z).1, (own2 x z).2.1, o1.bnd' (fun _ z => z.2) (own2 x z).2.2⟩
end
end Bm

set_option maxHeartbeats 1000000
/-! B16: targets. -/
namespace Bm
open PySem PySem.Spec PyProof.Rows L2
variable [TheK]
def Or (O R : AS) : AS := fun b => O b ∨ R b
theorem sit_asg {H : Hp} {Z O R : AS} {σ : Sg} {g : List D} {i : Nat} {d : D} {v : V} (s : Sit H Z σ g O) (hi : i < g.length) (r : Rep H Z d v R) (rz : ∀ b, R b → Z b ∧ ¬ O b) : Sit H Z (σ.set i (some v)) (g.set i d) (Or O R) := by
  obtain ⟨z, oz, l, F, f1, f2, rr⟩ := s
  refine ⟨z, fun b q => q.elim (oz b) fun q => (rz b q).1, by simpa using l, fun j b => if j = i then R b else F j b, fun j b q => ?_, fun j k b q1 q2 => ?_, fun j x q => ?_⟩
  · by_cases hj : j = i
    · simp only [hj, if_true] at q; exact .inr q
    · simp only [if_neg hj] at q; exact .inl (f1 j b q)
  · by_cases hj : j = i
    · by_cases hk : k = i
      · rw [hj, hk]
      · simp only [hj, if_true] at q1
        simp only [if_neg hk] at q2
        exact absurd (f1 k b q2) (rz b q1).2
    · by_cases hk : k = i
      · simp only [hk, if_true] at q2
        simp only [if_neg hj] at q1
        exact absurd (f1 j b q1) (rz b q2).2
      · simp only [if_neg hj] at q1
        simp only [if_neg hk] at q2
        exact f2 j k b q1 q2
  · rcases get_set q with ⟨rfl, rfl, _⟩ | ⟨ne, q⟩
    · refine .inr ⟨v, by rw [List.getElem?_set_self (by rw [l]; exact hi)], ?_⟩
      simp only [if_true]
      exact r
    · rcases rr j x q with h | ⟨w, h3, h4⟩
      · exact .inl h
      · refine .inr ⟨w, by rw [List.getElem?_set_ne ne]; exact h3, ?_⟩
        simp only [if_neg (Ne.symm ne)]
        exact h4
/-- outside those names nothing is stored -/
structure Agree (ns : List Nat) (σ σ' : Sg) : Prop where
  len : σ'.length = σ.length
  at_ : ∀ i, i ∉ ns → σ'[i]? = σ[i]?
theorem Agree.refl {ns : List Nat} {σ : Sg} : Agree ns σ σ := ⟨rfl, fun _ _ => rfl⟩
theorem Agree.trans {a b ns : List Nat} {σ σ' σ'' : Sg} (h : Agree a σ σ') (k : Agree b σ' σ'') (ha : ∀ i, i ∈ a → i ∈ ns) (hb : ∀ i, i ∈ b → i ∈ ns) : Agree ns σ σ'' := ⟨k.len.trans h.len, fun i hi => by
  rw [k.at_ i fun q => hi (hb i q), h.at_ i fun q => hi (ha i q)]⟩
/-- one part's work behind another's, what both own being P -/
theorem Out.glue {H H1 H2 : Hp} {Z Z1 Z2 O O1 P P1 O2 : AS} {σ1 σ2 : Sg} {g1 g2 : List D} {q q2 : Bool} (zk : ZOk H Z) (pz : ∀ b, P b → Z b) (op : ∀ b, O b → P b) (o1 : Out (Wq q O) H Z O σ1 g1 H1 Z1 O1) (hp : ∀ b, P1 b → P b ∨ H b = none)
    (o2 : Out (Wq q2 P1) H1 Z1 P1 σ2 g2 H2 Z2 O2) : Out (Wq false P) H Z P σ2 g2 H2 Z2 O2 := by
  refine ⟨o2.sit, o1.ext.trans zk o2.ext (fun x z => ⟨rfl, op x z.2⟩) (fun x z => (hp x z.2).imp (fun z => ⟨rfl, z⟩) id) fun x z => pz x z.2, fun b z => ?_⟩
  rcases o2.bnd b z with z | z
  · exact hp b z
  · exact (o1.bnd' (fun _ z => z.2) (.inr z)).imp (op b) id
theorem Out.big {H : Hp} {Z O P Z' O' : AS} {σ : Sg} {g' : List D} {H' : Hp} {q : Bool} (pz : ∀ b, P b → Z b) (op : ∀ b, O b → P b) (o : Out (Wq q O) H Z O σ g' H' Z' O') : Out (Wq false P) H Z P σ g' H' Z' O' :=
  ⟨o.sit, ⟨fun b z => pz b z.2, fun a u q n => o.ext.same a u q fun w => n ⟨rfl, op a w.2⟩, o.ext.zold, fun a z n => o.ext.zkeep a z fun w => n ⟨rfl, op a w.2⟩⟩, fun b z => (o.bnd b z).imp (op b) id⟩
/-- an exception behind which those names may have been stored -/
def XpS (X : Cx) (W : WX) (ns : List Nat) (σ : Sg) (H : Hp) (Z O : AS) (e : Ex) (g : List D) : Prop := ∀ cls dd σ' H' Z' O' R, Out (Wq false O) H Z O σ' g H' Z' O' → Agree ns σ σ' → ExAt X.mg e cls dd H' Z' R →
  (∀ b, R b → Z' b ∧ ¬ O' b ∧ (O b ∨ H b = none)) → W cls dd σ' H'
theorem XpS.xp {X : Cx} {W : WX} {ns : List Nat} {σ : Sg} {H : Hp} {Z O P : AS} {e : Ex} {g : List D} (pz : ∀ b, P b → Z b) (op : ∀ b, O b → P b) (h : XpS X W ns σ H Z P e g) : Xp X W σ H Z O e g :=
  fun cls dd H' Z' O' R o x hr => h cls dd σ H' Z' O' R (o.big pz op) .refl x fun b z => ⟨(hr b z).1, (hr b z).2.1, (hr b z).2.2.imp (op b) id⟩
theorem XpS.step {X : Cx} {W : WX} {a b ns : List Nat} {σ σ1 : Sg} {H H1 : Hp} {Z O P P1 Z1 O1 : AS} {g1 g : List D} {q : Bool} {e : Ex} (zk : ZOk H Z) (pz : ∀ b, P b → Z b) (op : ∀ b, O b → P b) (o1 : Out (Wq q O) H Z O σ1 g1 H1 Z1 O1) (ag : Agree a σ σ1) (hp : ∀ b, P1 b → P b ∨ H b = none)
    (ha : ∀ i, i ∈ a → i ∈ ns) (hb : ∀ i, i ∈ b → i ∈ ns) (h : XpS X W ns σ H Z P e g) : XpS X W b σ1 H1 Z1 P1 e g :=
  fun cls dd σ' H' Z' O' R o2 ag2 x hr => h cls dd σ' H' Z' O' R (Out.glue zk pz op o1 hp o2) (ag.trans ag2 ha hb) x fun c hc => ⟨(hr c hc).1, (hr c hc).2.1, (hr c hc).2.2.elim (hp c) fun z => (o1.bnd' (fun _ z => z.2) (.inr z)).imp (op c) id⟩
section
variable {c : Str → List D → CRes} {X : Cx} {W : WX}
def SndG (c : Str → List D → CRes) (X : Cx) (W : WX) (m : E) (tg : Expr) : Prop := ∃ t, PG X tg t ∧ ∀ σ H Z g O d v R (Q : Sg → Hp → Prop), Sit H Z σ g O → Rep H Z d v R → (∀ b, R b → Z b ∧ ¬ O b) →
  PR (XpS X W (asgE m) σ H Z (Or O R)) ((den c m).asg d g) (fun _ g' => ∀ σ' H' Z' O', Out (Wq false (Or O R)) H Z (Or O R) σ' g' H' Z' O' → Agree (asgE m) σ σ' → Q σ' H') → t v σ H Q
def SndGs (c : Str → List D → CRes) (X : Cx) (W : WX) (m : E) (tgs : List Expr) : Prop := ∃ t, PGs X tgs t ∧ ∀ σ H Z g O xs vs R (Q : Sg → Hp → Prop), Sit H Z σ g O → RepA H Z xs vs R → (∀ b, R b → Z b ∧ ¬ O b) →
  PR (XpS X W (asgE m) σ H Z (Or O R)) ((den c m).asg (.nd .tup xs) g) (fun _ g' => ∀ σ' H' Z' O', Out (Wq false (Or O R)) H Z (Or O R) σ' g' H' Z' O' → Agree (asgE m) σ σ' → Q σ' H') → t vs σ H Q
theorem sg_no {m : E} {tg : Expr} (h : ∀ d g, (den c m).asg d g = .no) : SndG c X W m tg := ⟨fun _ _ _ _ => False, ⟨fun _ _ _ _ _ _ _ _ _ h => h.elim⟩, fun _ _ _ _ _ _ _ _ _ _ _ _ q => by rw [h] at q; exact q⟩
theorem sg_var {i : Nat} {x : Str} {p : Pos} (hN : X.N.Nodup) (hi : X.N[i]? = some x) (hx : Loc X.env.scope x) (hf : X.fn x = true ∨ X.env.scope.names.lookup x = some .local) : SndG c X W (.var i) (.Name x p) :=
  ⟨_, pg_name hN hi hx hf, fun σ H Z g O d v R Q s r rz q => by
    have q : PR (XpS X W (asgE (.var i)) σ H Z (Or O R)) (if i < g.length then .ok () (g.set i d) else .no) _ := q
    split at q
    · rename_i hi
      refine q (σ.set i (some v)) H Z (Or O R) ⟨sit_asg s hi r rz, .refl fun b z => z.2.elim (s.oz b) fun z => (rz b z).1, fun b z => .inl z⟩ ⟨by simp, fun j hj => ?_⟩
      rw [List.getElem?_set_ne (fun e => hj (by simp [asgE, e]))]
    · exact q.elim⟩
theorem sgs_nil : SndGs c X W .nil [] :=
  ⟨_, pgs_nil, fun σ H Z g O xs vs R Q s r rz q => by
    have q : PR (XpS X W (asgE .nil) σ H Z (Or O R)) (asgNil (.nd .tup xs) g) _ := q
    cases xs with
    | nil =>
      obtain rfl : vs = [] := List.length_eq_zero_iff.mp r.len.symm
      exact ⟨rfl, q σ H Z (Or O R) ⟨s.mono (fun b z => .inl z) fun b z => z.elim (s.oz b) fun z => (rz b z).1, .refl fun b z => z.2.elim (s.oz b) fun z => (rz b z).1, fun b z => .inl z⟩ .refl⟩
    | cons x xs => exact q.elim⟩
theorem sgs_cons {a b : E} {e : Expr} {es : List Expr} (pl : plainE e = true) (ha : SndG c X W a e) (hb : SndGs c X W b es) : SndGs c X W (.cons a b) (e :: es) := by
  obtain ⟨ta, pa, sa⟩ := ha
  obtain ⟨tb, pb, sb⟩ := hb
  refine ⟨_, pgs_cons pa pb (by cases e <;> first | rfl | (simp [plainE] at pl)), fun σ H Z g O xs vs R Q s r rz q => ?_⟩
  have q : PR (XpS X W (asgE (.cons a b)) σ H Z (Or O R)) (asgCons (den c a) (den c b) (.nd .tup xs) g) _ := q
  cases xs with
  | nil => exact q.elim
  | cons x xs =>
    cases vs with
    | nil => have := r.len; simp at this
    | cons v vs =>
      obtain ⟨R1, R2, r1, r2, h1, h2⟩ := r.tail
      have oz1 : ∀ b, Or O R b → Z b := fun b z => z.elim (s.oz b) fun z => (rz b z).1
      refine ⟨v, vs, rfl, sa σ H Z g O x v R1 _ s r1 (fun b z => rz b (h1 b z).1) ?_⟩
      have sub : ∀ b, Or O R1 b → Or O R b := fun b z => z.imp id fun z => (h1 b z).1
      have ia : ∀ i, i ∈ asgE a → i ∈ asgE (.cons a b) := fun i hi => by simp [asgE, hi]
      have ib : ∀ i, i ∈ asgE b → i ∈ asgE (.cons a b) := fun i hi => by simp [asgE, hi]
      have sid : Out (Wq true (Or O R1)) H Z (Or O R1) σ g H Z (Or O R1) := ⟨s.mono (fun b z => .inl z) fun b z => oz1 b (sub b z), .refl fun b z => oz1 b (sub b z.2), fun b z => .inl z⟩
      refine (PR.bind q).mono (fun e g' q => XpS.step s.zok oz1 sub sid .refl (fun b z => .inl (sub b z)) (a := []) (fun i hi => nomatch hi) ia q) fun _ g1 _ k σ1 H1 Z1 O1 o1 ag1 => ?_
      have n2 : ∀ b, R2 b → ¬ Wq false (Or O R1) b := fun b z w => w.2.elim (rz b (h2 b z)).2 fun w => (h1 b w).2 z
      have r2' : RepA H1 Z1 xs vs R2 := r2.ext s.zok o1.ext n2
      have rz2 : ∀ b, R2 b → Z1 b ∧ ¬ O1 b := fun b z => ⟨o1.ext.zkeep b (rz b (h2 b z)).1 (n2 b z), fun w => (o1.bnd b w).elim (fun w => n2 b z ⟨rfl, w⟩) fun e => not_Z s.zok e (rz b (h2 b z)).1⟩
      have bw : ∀ b, Or O1 R2 b → Or O R b ∨ H b = none := fun b z => z.elim (fun z => (o1.bnd b z).imp (sub b) id) fun z => .inl (.inr (h2 b z))
      exact sb σ1 H1 Z1 g1 O1 xs vs R2 Q o1.sit r2' rz2 (k.mono (fun e g' q => XpS.step s.zok oz1 sub o1 ag1 bw ia ib q) fun _ g2 _ k σ2 H2 Z2 O2 o2 ag2 => k σ2 H2 Z2 O2 (Out.glue s.zok oz1 sub o1 bw o2) (ag1.trans ag2 ia ib))
theorem each_len {env : Env} : ∀ {es : List Expr}, (∀ y ∈ es, plainE y = true) → (assignEach es env).length = es.length ∧ (assignEach es env).findIdx? (·.1) = none
  | [], _ => ⟨rfl, rfl⟩
  | e :: es, h => by
    have ih := each_len (env := env) (es := es) fun y hy => h y (by simp [hy])
    have : assignEach (e :: es) env = (false, assign e env) :: assignEach es env := by
      have := h e (by simp)
      cases e <;> first | rfl | (simp [plainE] at this)
    rw [this]
    refine ⟨by simp [ih.1], ?_⟩
    rw [List.findIdx?_cons]
    simp [ih.2]
theorem sg_tup {m : E} {es : List Expr} {k : Nat} {p : Pos} (hc : X.calm = true) (pl : ∀ y ∈ es, plainE y = true) (hn : cntE m = es.length) (h : SndGs c X W m es) : SndG c X W (.tupE m) (.Tuple es k p) := by
  obtain ⟨t, pg, s⟩ := h
  refine ⟨_, pg_tup (n := es.length) hc pg (each_len pl).1 (each_len pl).2, fun σ H Z g O d v R Q st r rz q => ?_⟩
  have q : PR (XpS X W (asgE (.tupE m)) σ H Z (Or O R)) (asgTup m (den c m) d g) _ := q
  unfold asgTup at q
  split at q
  · rename_i xs _
    split at q
    · rename_i hl
      obtain ⟨a, vs, rfl, ha, ra⟩ := rep_tup r
      exact ⟨a, vs, rfl, SqT.of ha, by rw [← ra.len, hl, hn], s σ H Z g O xs vs R Q st ra rz q⟩
    · exact q.elim
  · exact q.elim
theorem Out.carry {H H1 : Hp} {Z O Z1 O1 R : AS} {σ : Sg} {g1 : List D} {q : Bool} (zk : ZOk H Z) (o : Out (Wq q O) H Z O σ g1 H1 Z1 O1) (rz : ∀ b, R b → Z b ∧ ¬ O b) : (∀ b, R b → Z1 b ∧ ¬ O1 b) ∧ ∀ d v, Rep H Z d v R → Rep H1 Z1 d v R := by
  have n : ∀ b, R b → ¬ Wq q O b := fun b z w => (rz b z).2 w.2
  exact ⟨fun b z => ⟨o.ext.zkeep b (rz b z).1 (n b z), fun w => (o.bnd b w).elim (rz b z).2 fun e => not_Z zk e (rz b z).1⟩, fun d v r => r.ext zk o.ext n⟩
theorem RepA.set {H : Hp} {Z : AS} {xs : List D} {vs : List V} {R R2 : AS} {y : D} {v : V} {k : Nat} (h : RepA H Z xs vs R) (r : Rep H Z y v R2) (dj : ∀ b, R b → ¬ R2 b) : RepA H Z (xs.set k y) (vs.set k v) (fun b => R b ∨ R2 b) := by
  obtain ⟨l, F, f1, f2, rr⟩ := h
  refine ⟨by simp [l], fun i b => if i = k then R2 b else F i b, fun i b z => ?_, fun i j b z1 z2 => ?_, fun i d w e1 e2 => ?_⟩
  · by_cases hi : i = k
    · simp only [if_pos hi] at z; exact .inr z
    · simp only [if_neg hi] at z; exact .inl (f1 i b z)
  · by_cases hi : i = k
    · by_cases hj : j = k
      · rw [hi, hj]
      · simp only [if_pos hi] at z1
        simp only [if_neg hj] at z2
        exact absurd z1 (dj b (f1 j b z2))
    · by_cases hj : j = k
      · simp only [if_pos hj] at z2
        simp only [if_neg hi] at z1
        exact absurd z2 (dj b (f1 i b z1))
      · simp only [if_neg hi] at z1
        simp only [if_neg hj] at z2
        exact f2 i j b z1 z2
  · rcases get_set e1 with ⟨rfl, rfl, _⟩ | ⟨ne, e1⟩
    · rcases get_set e2 with ⟨_, rfl, _⟩ | ⟨ne, _⟩
      · simp only [if_true]; exact r
      · exact absurd rfl ne
    · rcases get_set e2 with ⟨rfl, _, _⟩ | ⟨_, e2⟩
      · exact absurd rfl ne
      · simp only [if_neg (Ne.symm ne)]
        exact rr i d w e1 e2
theorem asg_idx {a j : E} {A J : Den} {d : D} {g : List D} {xp : Ex → List D → Prop} {K : Unit → List D → Prop} (h : PR xp (asgIdx a j A J d g) K) :
    PR xp (A.plc g) fun q g => (quiet j = true ∨ isVar a = true) ∧ PR xp (J.val g) fun y g => ∃ n k xs, y.1 = .at (.int n) ∧ getG g q.1 q.2 = some (.lst true xs) ∧ ixN xs.length n = some k ∧ K () (setG g q.1 q.2 (.lst true (xs.set k d))) := by
  refine (PR.bind h).mono (fun _ _ z => z) fun q g _ h => ?_
  split at h
  · rename_i w
    refine ⟨w, (PR.bind h).mono (fun _ _ z => z) fun y g _ h => ?_⟩
    split at h
    · rename_i n xs e1 e2
      split at h
      · rename_i k hk
        exact ⟨n, k, xs, e1, e2, hk, h⟩
      · exact h.elim
    · exact h.elim
  · exact h.elim
theorem sg_idx {a j : E} {ea ej : Expr} {p : Pos} (pl : plainE ej = true) (ha : SndP c X W a ea) (hj : SndV c X W j ej) : SndG c X W (.idx a j) (.Subscript ea ej p) := by
  obtain ⟨ta, pa, sa⟩ := ha
  obtain ⟨tj, pj, sj⟩ := hj
  refine ⟨_, pg_sub pa pj set_list (by intro v; cases ej <;> first | rfl | (simp [plainE] at pl)), fun σ H Z g O d v R Q s r rz q => sa σ H Z g O _ s ?_⟩
  have pz : ∀ b, Or O R b → Z b := fun b z => z.elim (s.oz b) fun z => (rz b z).1
  have op : ∀ b, O b → Or O R b := fun b z => .inl z
  refine (asg_idx q).mono (fun e g q => XpS.xp pz op q) fun q g1 _ h va H1 Z1 O1 o1 pat iv => sj σ H1 Z1 g1 O1 _ o1.sit ?_
  refine h.2.mono (fun e g' q => Xp.step s o1 (XpS.xp pz op q)) fun y g2 ey h2 u H2 Z2 O2 R2 o2 vy => ?_
  obtain ⟨n, k, xs, e1, e2, e3, K⟩ := h2
  have pat2 : PAt H2 σ g2 q.1 q.2 va := pat.step o2 (h.1.imp (fun z => ⟨z, quiet_val z ey⟩) fun z => iv z)
  have o3 : Out (Wq false O) H Z O σ g2 H2 Z2 O2 := o1.trans s.zok s.oz o2 (fun _ => rfl) fun _ => rfl
  obtain ⟨rz2, rep2⟩ := o3.carry s.zok rz
  obtain ⟨Rp, sub, rr, back⟩ := o2.sit.focus pat2 e2 fun _ => rfl
  have ru := vy.rep
  rw [e1] at ru
  have ru := rep_at ru
  subst ru
  obtain ⟨ad, vs0, rfl, hb, _⟩ := rep_lst rr
  obtain ⟨vs, hb, ra, rx⟩ := rep_lstM rr
  have npz : ∀ b, Rp b → Z2 b := fun b z => o2.sit.oz b (sub b z)
  have exA : Bm.Ext (fun b => b = ad) H2 Z2 (upd H2 ad (.lst (vs.set k v))) Z2 := ext_at rfl fun b z => by rw [z]; exact npz ad ra
  have nR : ∀ b, R b → b ≠ ad := fun b z e => (rz2 b z).2 (by rw [e]; exact sub ad ra)
  have r3 := (rx.ext o2.sit.zok exA fun b z => z.2).set (k := k) ((rep2 d v r).ext o2.sit.zok exA nR) fun b z w => (rz2 b w).2 (sub b z.1)
  have sit := back _ Z2 _ _ (zok_at (o := .lst (vs.set k v)) o2.sit.zok trivial) (ext_at ra npz) (fun b z => ⟨?_, fun w => ?_⟩) (mk_lst upd_same r3 fun b z => z.elim (fun z => z.2) (nR b))
  · refine ⟨ad, vs, n, k, rfl, rfl, hb, by rw [← rx.len]; exact e3, K σ _ Z2 _ ⟨sit, ?_, fun b z => ?_⟩ .refl⟩
    · refine o3.ext.trans s.zok (ext_at ra npz) (fun x z => ⟨rfl, .inl z.2⟩) (fun x z => (o3.bnd x (sub x z)).imp (fun z => ⟨rfl, .inl z⟩) id) fun x z => pz x z.2
    · rcases z with z | z | z | z
      · exact (o3.bnd b z.1).imp .inl id
      · rw [z]; exact (o3.bnd ad (sub ad ra)).imp .inl id
      · exact (o3.bnd b (sub b z.1)).imp .inl id
      · exact .inl (.inr z)
  · rcases z with z | z | z
    · rw [z]; exact npz ad ra
    · exact npz b z.1
    · exact (rz2 b z).1
  · rcases z with z | z | z
    · rw [z]; exact ra
    · exact z.1
    · exact absurd w (rz2 b z).2
end
end Bm

set_option maxHeartbeats 1000000
/-! B17: comprehensions. -/
namespace Bm
open PySem PySem.Spec PyProof.Rows L2
variable [TheK]
theorem PR.noex {α : Type} {xp : Ex → List D → Prop} {r : R α} {K : α → List D → Prop} (h : PR xp r.noex K) : PR (fun _ _ => False) r K := by
  cases r with
  | ok a g => exact h
  | ex e g => exact h.elim
  | no => exact h
theorem PR.ok {α : Type} {r : R α} {K : α → List D → Prop} (h : PR (fun _ _ => False) r K) : ∃ a g, r = .ok a g ∧ K a g := by
  cases r with
  | ok a g => exact ⟨a, g, rfl, h⟩
  | ex e g => exact h.elim
  | no => exact h.elim
theorem PR.any {α : Type} {xp : Ex → List D → Prop} {r : R α} {K : α → List D → Prop} (h : PR (fun _ _ => False) r K) : PR xp r K := h.mono (fun _ _ z => z.elim) fun _ _ _ z => z
/-! ### names that are wiped -/
theorem sit_wipe1 {H : Hp} {Z O : AS} {σ : Sg} {g : List D} (s : Sit H Z σ g O) (i : Nat) : Sit H Z (σ.set i none) (g.set i .dead) O := by
  obtain ⟨z, oz, l, F, f1, f2, rr⟩ := s
  refine ⟨z, oz, by simpa using l, F, f1, f2, fun j x q => ?_⟩
  rcases get_set q with ⟨rfl, rfl, _⟩ | ⟨ne, q⟩
  · exact .inl rfl
  · rcases rr j x q with h | ⟨w, h3, h4⟩
    · exact .inl h
    · exact .inr ⟨w, by rw [List.getElem?_set_ne ne]; exact h3, h4⟩
theorem sit_wipe {H : Hp} {Z O : AS} {σ : Sg} {g : List D} (s : Sit H Z σ g O) : ∀ own : List Nat, Sit H Z (L2.wipe σ own) (Bm.wipe g own) O
  | [] => s
  | v :: vs => sit_wipe1 (sit_wipe s vs) v
theorem sit_drop1 {H : Hp} {Z O : AS} {σ : Sg} {g : List D} (s : Sit H Z σ g O) (i : Nat) : Sit H Z σ (g.set i .dead) O := by
  obtain ⟨z, oz, l, F, f1, f2, rr⟩ := s
  refine ⟨z, oz, by simpa using l, F, f1, f2, fun j x q => ?_⟩
  rcases get_set q with ⟨rfl, rfl, _⟩ | ⟨ne, q⟩
  · exact .inl rfl
  · exact rr j x q
theorem sit_drop {H : Hp} {Z O : AS} {σ : Sg} {g : List D} (s : Sit H Z σ g O) : ∀ own : List Nat, Sit H Z σ (Bm.wipe g own) O
  | [] => s
  | v :: vs => sit_drop1 (sit_drop s vs) v
theorem wipe_get (σ : Sg) : ∀ (vs : List Nat) (i : Nat), (L2.wipe σ vs)[i]? = if i ∈ vs then (if i < σ.length then some none else none) else σ[i]?
  | [], i => by simp [L2.wipe]
  | v :: vs, i => by
    unfold L2.wipe
    rw [List.getElem?_set, wipe_length, wipe_get σ vs i]
    by_cases h : v = i
    · subst h
      simp
    · rw [if_neg h]
      by_cases hi : i ∈ vs
      · simp [hi]
      · rw [if_neg hi, if_neg (by simp [hi, Ne.symm h])]
theorem wipe_same {σ σ2 : Sg} {vs : List Nat} (l : σ2.length = σ.length) (h : ∀ i, i ∉ vs → σ2[i]? = (L2.wipe σ vs)[i]?) : L2.wipe σ2 vs = L2.wipe σ vs := by
  apply List.ext_getElem?
  intro i
  rw [wipe_get, wipe_get]
  by_cases hi : i ∈ vs
  · rw [if_pos hi, if_pos hi, l]
  · rw [if_neg hi, if_neg hi, h i hi, wipe_get, if_neg hi]
def restD (g0 : List D) (v : Nat) : D := match g0[v]? with
  | some d => if d.pers = true then d else .dead
  | none => .dead
theorem rest_get {g0 g : List D} : ∀ {own : List Nat} {i : Nat} {d : D}, (rest g0 g own)[i]? = some d → (i ∈ own ∧ d = restD g0 i) ∨ (i ∉ own ∧ g[i]? = some d)
  | [], i, d, e => .inr ⟨by simp, e⟩
  | v :: vs, i, d, e => by
    have e : ((rest g0 g vs).set v (restD g0 v))[i]? = some d := e
    rcases get_set e with ⟨rfl, h, _⟩ | ⟨ne, h⟩
    · exact .inl ⟨by simp, h⟩
    · rcases rest_get h with ⟨h1, h2⟩ | ⟨h1, h2⟩
      · exact .inl ⟨by simp [h1], h2⟩
      · exact .inr ⟨by simp [h1, Ne.symm ne], h2⟩
theorem rest_len (g0 g : List D) : ∀ own : List Nat, (rest g0 g own).length = g.length
  | [] => rfl
  | v :: vs => by
    show ((rest g0 g vs).set v (restD g0 v)).length = _
    rw [List.length_set, rest_len g0 g vs]
theorem sit_rest {H : Hp} {Z O : AS} {σ : Sg} {g g0 : List D} {own : List Nat} (s : Sit H Z (L2.wipe σ own) g O) (h : ∀ (v : Nat) (d : D), g0[v]? = some d → d.pers = true → ∃ u, σ[v]? = some (some u) ∧ Rep H Z d u none_) : Sit H Z σ (rest g0 g own) O := by
  obtain ⟨z, oz, l, F, f1, f2, rr⟩ := s
  refine ⟨z, oz, by rw [rest_len, ← l, wipe_length], F, f1, f2, fun j x q => ?_⟩
  rcases rest_get q with ⟨h1, rfl⟩ | ⟨h1, h2⟩
  · unfold restD
    split
    · rename_i d hd
      split
      · rename_i p
        obtain ⟨u, hu, r⟩ := h j d hd p
        exact .inr ⟨u, hu, r.mono fun _ z => z.elim⟩
      · exact .inl rfl
    · exact .inl rfl
  · rcases rr j x h2 with h | ⟨w, h3, h4⟩
    · exact .inl h
    · exact .inr ⟨w, (wipe_some h3).1, h4⟩
/-! ### readings without their contexts -/
section
variable {c : Str → List D → CRes} {X : Cx} {W : WX}
abbrev nox : Ex → List D → Prop := fun _ _ => False
def teV (c : Str → List D → CRes) (m : E) : TE := fun σ H Q => ∃ Z g O, Sit H Z σ g O ∧ PR nox ((den c m).val g) (fun x g' => ∀ v H' Z' O' R, Out (Wq (quiet m) O) H Z O σ g' H' Z' O' → Val H O H' Z' O' σ m x v R → Q v H')
theorem pe_teV {m : E} {e : Expr} (h : SndV c X W m e) : PE X e (teV c m) := by
  obtain ⟨t, p, s⟩ := h
  exact ⟨fun pins sh σ H Q I ⟨Z, g, O, st, q⟩ => p.run pins sh σ H Q I (s σ H Z g O Q st q.any)⟩
def SndTs (c : Str → List D → CRes) (X : Cx) (W : WX) (m : E) (ifs : List Expr) : Prop := ∃ t, PTs X ifs t ∧ ∀ σ H Z g O Q, Sit H Z σ g O →
  PR (Xp X W σ H Z O) ((den c m).tst g) (fun b g' => ∀ H' Z' O', Out (Wq (quiet m) O) H Z O σ g' H' Z' O' → Q b H') → t σ H Q
theorem sts_nil : SndTs c X W .nil [] := ⟨_, pts_nil, fun σ H Z g O Q s q => q H Z O (.refl s fun b z => s.oz b z.2)⟩
theorem sts_one {m : E} {e : Expr} (h : SndT c X W m e) : SndTs c X W m [e] := by
  obtain ⟨t, p, s⟩ := h
  exact ⟨t, pts_one p, s⟩
def ttT (c : Str → List D → CRes) (m : E) : TT := fun σ H Q => ∃ Z g O, Sit H Z σ g O ∧ PR nox ((den c m).tst g) (fun b g' => ∀ H' Z' O', Out (Wq (quiet m) O) H Z O σ g' H' Z' O' → Q b H')
theorem pts_ttT {m : E} {ifs : List Expr} (h : SndTs c X W m ifs) : PTs X ifs (ttT c m) := by
  obtain ⟨t, p, s⟩ := h
  exact ⟨fun pins sh σ H Q I ⟨Z, g, O, st, q⟩ => p.run pins sh σ H Q I (s σ H Z g O Q st q.any)⟩
def tgG (c : Str → List D → CRes) (m : E) : TG := fun v σ H Q => ∃ Z g O d R, Sit H Z σ g O ∧ Rep H Z d v R ∧ (∀ b, R b → Z b ∧ ¬ O b) ∧
  PR nox ((den c m).asg d g) (fun _ g' => ∀ σ' H' Z' O', Out (Wq false (Or O R)) H Z (Or O R) σ' g' H' Z' O' → Agree (asgE m) σ σ' → Q σ' H')
theorem pg_tgG {m : E} {tg : Expr} (h : SndG c X W m tg) : PG X tg (tgG c m) := by
  obtain ⟨t, p, s⟩ := h
  exact ⟨fun pins sh σ H v u Q I r ⟨Z, g, O, d, R, st, rd, rz, q⟩ => p.run pins sh σ H v u Q I r (s σ H Z g O d v R Q st rd rz q.any)⟩
theorem apart {H : Hp} {Z O R R' : AS} (zk : ZOk H Z) (h : ∀ b, R b → O b ∨ H b = none) (h' : ∀ b, R' b → Z b ∧ ¬ O b) : ∀ b, R b → ¬ R' b := fun b z w => (h b z).elim (h' b w).2 fun e => not_Z zk e (h' b w).1
/-- what is held beside the names stays -/
theorem Out.keep {H H1 : Hp} {Z O Z1 O1 R : AS} {σ : Sg} {g1 : List D} {q : Bool} (zk : ZOk H Z) (o : Out (Wq q O) H Z O σ g1 H1 Z1 O1) (rz : ∀ b, R b → Z b ∧ ¬ O b) : (∀ b, R b → Z1 b ∧ ¬ O1 b) ∧ ∀ b, R b → ¬ Wq q O b :=
  ⟨(o.carry zk rz).1, fun b z w => (rz b z).2 w.2⟩
/-- the comprehension's loop: turn i, n turns left at most -/
structure CompI (c : Str → List D → CRes) (elt tg tst : E) (own : List Nat) (src : Src) (I : IT) (σw : Sg) (H0 : Hp) (Z0 O0 : AS) (D0 : Addr) (K : List D → List D → Hp → Prop) (i n : Nat) (H : Hp) (Z : AS) (g : List D) (O Ro RA : AS) (acc : List V) (ys : List D) : Prop where
  sit : Sit H Z σw g O
  ext : Bm.Ext (Wq false O0) H0 Z0 H Z
  bnd : ∀ b, O b → O0 b ∨ H0 b = none
  it : I i σw H Z Ro
  ro : ∀ b, Ro b → Z b ∧ ¬ O b
  ra : ∀ b, RA b → Z b ∧ ¬ O b
  dz : Z D0 ∧ ¬ O D0
  dn : O0 D0 ∨ H0 D0 = none
  sep : (∀ b, Ro b → ¬ RA b) ∧ ¬ Ro D0 ∧ ¬ RA D0
  bnds : ∀ b, Ro b ∨ RA b → O0 b ∨ H0 b = none
  hd : H D0 = some (.lst acc)
  rep : RepA H Z ys acc RA
  go : PR nox (compGo (den c tg) (den c tst) (den c elt) own src n i g) fun rest g' => (ys ++ rest).length ≤ sizeLine ∧ ∀ H' Z' O' RA', Sit H' Z' σw g' O' → Bm.Ext (Wq false O0) H0 Z0 H' Z' → (∀ b, O' b → O0 b ∨ H0 b = none) →
    Rep H' Z' (.lst true (ys ++ rest)) (.ref D0) RA' → (∀ b, RA' b → Z' b ∧ ¬ O' b ∧ (O0 b ∨ H0 b = none)) → K (ys ++ rest) g' H'
theorem ext_go {H H1 H2 : Hp} {Z Z1 Z2 P W2 : AS} (zk : ZOk H Z) (pz : ∀ x, P x → Z x) (a : Bm.Ext (Wq false P) H Z H1 Z1) (b : Bm.Ext W2 H1 Z1 H2 Z2) (h : ∀ x, W2 x → P x ∨ H x = none) : Bm.Ext (Wq false P) H Z H2 Z2 :=
  a.trans zk b (fun _ z => z) (fun x z => (h x z).imp (fun z => ⟨rfl, z⟩) id) fun x z => pz x z.2
theorem ext_new0 {H H1 : Hp} {Z Z1 P : AS} (a : Bm.Ext (Wq false P) H Z H1 Z1) {b : Addr} (h : H1 b = none) : P b ∨ H b = none := by
  cases e : H b with
  | none => exact .inr rfl
  | some o =>
    by_cases hp : P b
    · exact .inl hp
    · rw [a.same b o e fun z => hp z.2] at h
      cases h
theorem comp_step {elt tg tst : E} {own : List Nat} {src : Src} {I : IT} {σw : Sg} {H0 : Hp} {Z0 O0 : AS} {D0 : Addr} {K : List D → List D → Hp → Prop} {J : It} (is : ISrc J src I) (zk0 : ZOk H0 Z0) (oz0 : ∀ b, O0 b → Z0 b) (tgo : ∀ i, i ∈ asgE tg → i ∈ own) (hw : L2.wipe σw own = σw)
    {i n : Nat} {H : Hp} {Z O Ro RA : AS} {g : List D} {acc : List V} {ys : List D} (C : CompI c elt tg tst own src I σw H0 Z0 O0 D0 K i n H Z g O Ro RA acc ys) :
    (J.stop i H ∧ ∃ rest g', K rest g' H) ∨ (J.go i H ∧ ∃ n', n = n' + 1 ∧ ∀ x H', J.yld i H x H' → tgG c tg x σw H' fun σ2 H2 => L2.wipe σ2 own = σw ∧ ttT c tst σ2 H2 fun b H3 =>
      if b = true then teV c elt σ2 H3 fun y H4 => ∃ acc, H4 D0 = some (.lst acc) ∧ acc.length < sizeLine ∧ ∃ Z g O Ro RA acc' ys, CompI c elt tg tst own src I σw H0 Z0 O0 D0 K (i + 1) n' (upd H4 D0 (.lst (acc ++ [y]))) Z g O Ro RA acc' ys
      else ∃ Z g O Ro RA acc ys, CompI c elt tg tst own src I σw H0 Z0 O0 D0 K (i + 1) n' H3 Z g O Ro RA acc ys) := by
  obtain ⟨sit, ext, bnd, it, ro, ra, dz, hD0, sep, bnds, hd, rep, go⟩ := C
  unfold compGo at go
  cases e : src.at g i with
  | none => rw [e] at go; exact go.elim
  | some r =>
    rw [e] at go
    cases r with
    | none =>
      refine .inl ⟨is.stop i σw H Z Ro g O it sit e, ys ++ [], g, ?_⟩
      have go : (ys ++ []).length ≤ sizeLine ∧ _ := go
      refine go.2 H Z O (fun b => b = D0 ∨ RA b) sit ext bnd ?_ fun b z => ?_
      · rw [List.append_nil]
        exact mk_lst hd rep fun b z e => sep.2.2 (by rw [← e]; exact z)
      · rcases z with z | z
        · rw [z]; exact ⟨dz.1, dz.2, hD0⟩
        · exact ⟨(ra b z).1, (ra b z).2, bnds b (.inr z)⟩
    | some d =>
      refine .inr ⟨is.go i σw H Z Ro g O d it sit e, ?_⟩
      cases n with
      | zero => exact go.elim
      | succ n' =>
        refine ⟨n', rfl, fun x H1 y => ?_⟩
        obtain ⟨zk1, ex1, Rd, Ro', rd, it1, hRd, hRo⟩ := is.yld i σw H Z Ro g O d x H1 it sit e y
        have go := PR.bind go
        -- behind the turn
        have s1 : Sit H1 Z σw g O := sit.ext0 zk1 ex1
        have e01 : Bm.Ext (Wq false O0) H0 Z0 H1 Z := ext_go zk0 oz0 ext ex1 fun _ z => z.elim
        have hd1 : H1 D0 = some (.lst acc) := ex1.same D0 _ hd fun z => z
        have rep1 : RepA H1 Z ys acc RA := rep.ext sit.zok ex1 fun _ _ z => z
        have P1 : ∀ b, Or O Rd b → Z b := fun b z => z.elim (s1.oz b) fun z => (ro b (hRd b z).1).1
        refine ⟨Z, g, O, d, Rd, s1, rd, fun b z => ro b (hRd b z).1, go.mono (fun _ _ z => z) fun _ g2 _ go σ2 H2 Z2 O2 o2 ag => ?_⟩
        have hσ2 : L2.wipe σ2 own = σw := by
          have := wipe_same (σ := σw) (σ2 := σ2) (vs := own) ag.len fun i hi => by rw [ag.at_ i fun z => hi (tgo i z), hw]
          rw [this, hw]
        have r2 : ∀ b, RA b → Z b ∧ ¬ Or O Rd b := fun b z => ⟨(ra b z).1, fun w => w.elim (ra b z).2 fun w => sep.1 b (hRd b w).1 z⟩
        have i2 : ∀ b, Ro' b → Z b ∧ ¬ Or O Rd b := fun b z => ⟨(ro b (hRo b z)).1, fun w => w.elim (ro b (hRo b z)).2 fun w => (hRd b w).2 z⟩
        have d2 : ∀ b, b = D0 → Z b ∧ ¬ Or O Rd b := fun b z => by rw [z]; exact ⟨dz.1, fun w => w.elim dz.2 fun w => sep.2.1 (hRd D0 w).1⟩
        have e02 : Bm.Ext (Wq false O0) H0 Z0 H2 Z2 := ext_go zk0 oz0 e01 o2.ext fun b z => z.2.elim (bnd b) fun z => bnds b (.inl (hRd b z).1)
        have bnd2 : ∀ b, O2 b → O0 b ∨ H0 b = none := fun b z => (o2.bnd b z).elim (fun z => z.elim (bnd b) fun z => bnds b (.inl (hRd b z).1)) fun z => ext_new0 e01 z
        obtain ⟨r2', n2⟩ := o2.keep zk1 r2
        obtain ⟨i2', m2⟩ := o2.keep zk1 i2
        obtain ⟨d2', k2⟩ := o2.keep zk1 d2
        have rep2 : RepA H2 Z2 ys acc RA := rep1.ext zk1 o2.ext n2
        have it2 : I (i + 1) σw H2 Z2 Ro' := is.st.ext _ _ _ _ _ _ _ _ _ it1 zk1 o2.ext m2 fun _ _ => rfl
        have hd2 : H2 D0 = some (.lst acc) := o2.ext.same D0 _ hd1 (k2 D0 rfl)
        have go := PR.bind go
        refine ⟨hσ2, Z2, g2, O2, o2.sit, go.mono (fun _ _ z => z) fun b g3 _ go H3 Z3 O3 o3 => ?_⟩
        obtain ⟨r3', n3⟩ := o3.keep o2.sit.zok r2'
        obtain ⟨i3', m3⟩ := o3.keep o2.sit.zok i2'
        obtain ⟨d3', k3⟩ := o3.keep o2.sit.zok d2'
        have rep3 : RepA H3 Z3 ys acc RA := rep2.ext o2.sit.zok o3.ext n3
        have it3 : I (i + 1) σw H3 Z3 Ro' := is.st.ext _ _ _ _ _ _ _ _ _ it2 o2.sit.zok o3.ext m3 fun _ _ => rfl
        have hd3 : H3 D0 = some (.lst acc) := o3.ext.same D0 _ hd2 (k3 D0 rfl)
        have e03 : Bm.Ext (Wq false O0) H0 Z0 H3 Z3 := ext_go zk0 oz0 e02 o3.ext fun b z => bnd2 b z.2
        have bnd3 : ∀ b, O3 b → O0 b ∨ H0 b = none := fun b z => (o3.bnd b z).elim (bnd2 b) fun z => ext_new0 e02 z
        have sep' : (∀ b, Ro' b → ¬ RA b) ∧ ¬ Ro' D0 ∧ ¬ RA D0 := ⟨fun b z => sep.1 b (hRo b z), fun z => sep.2.1 (hRo D0 z), sep.2.2⟩
        have bnds' : ∀ b, Ro' b ∨ RA b → O0 b ∨ H0 b = none := fun b z => bnds b (z.imp (hRo b) id)
        cases b with
        | false =>
          rw [if_neg Bool.false_ne_true] at go ⊢
          refine ⟨Z3, Bm.wipe g3 own, O3, Ro', RA, acc, ys, ?_, e03, bnd3, it3, i3', r3', d3' D0 rfl, hD0, sep', bnds', hd3, rep3, go⟩
          rw [← hσ2]
          exact sit_wipe o3.sit own
        | true =>
          rw [if_pos rfl] at go ⊢
          have go := PR.bind go
          refine ⟨Z3, g3, O3, o3.sit, go.mono (fun _ _ z => z) fun y g4 _ go v H4 Z4 O4 R4 o4 v4 => ?_⟩
          split at go
          case isFalse => exact go.elim
          rename_i hy
          obtain ⟨r4', n4⟩ := o4.keep o3.sit.zok r3'
          obtain ⟨i4', m4⟩ := o4.keep o3.sit.zok i3'
          obtain ⟨d4', k4⟩ := o4.keep o3.sit.zok d3'
          have rep4 : RepA H4 Z4 ys acc RA := rep3.ext o3.sit.zok o4.ext n4
          have it4 : I (i + 1) σw H4 Z4 Ro' := is.st.ext _ _ _ _ _ _ _ _ _ it3 o3.sit.zok o4.ext m4 fun _ _ => rfl
          have hd4 : H4 D0 = some (.lst acc) := o4.ext.same D0 _ hd3 (k4 D0 rfl)
          have e04 : Bm.Ext (Wq false O0) H0 Z0 H4 Z4 := ext_go zk0 oz0 e03 o4.ext fun b z => bnd3 b z.2
          have bnd4 : ∀ b, O4 b → O0 b ∨ H0 b = none := fun b z => (o4.bnd b z).elim (bnd3 b) fun z => ext_new0 e03 z
          have ow := v4.own hy
          have a1 : ∀ b, R4 b → ¬ RA b := apart o3.sit.zok (fun b z => (ow b z).2) r3'
          have a2 : ∀ b, R4 b → ¬ Ro' b := apart o3.sit.zok (fun b z => (ow b z).2) i3'
          have a3 : ∀ b, R4 b → ¬ b = D0 := apart o3.sit.zok (fun b z => (ow b z).2) d3'
          have go := PR.bind go
          obtain ⟨rest, g5, ec, go⟩ := go.ok
          have go : (ys ++ (y.1 :: rest)).length ≤ sizeLine ∧ _ := go
          refine ⟨acc, hd4, ?_, ?_⟩
          · have := go.1
            rw [← rep4.len]
            simp at this
            omega
          have exD : Bm.Ext (fun b => b = D0) H4 Z4 (upd H4 D0 (.lst (acc ++ [v]))) Z4 := ext_at rfl fun b z => by rw [z]; exact (d4' D0 rfl).1
          refine ⟨Z4, Bm.wipe g4 own, O4, Ro', fun b => RA b ∨ R4 b, acc ++ [v], ys ++ [y.1], ?_, ext_go zk0 oz0 e04 exD fun b z => by rw [z]; exact hD0, bnd4, ?_, i4', fun b z => z.elim (r4' b) fun z => ⟨v4.rz b z, (ow b z).1⟩, d4' D0 rfl, hD0, ⟨fun b z w => w.elim (sep'.1 b z) fun w => a2 b w z, sep'.2.1, fun w => w.elim sep'.2.2 fun w => a3 D0 w rfl⟩, fun b z => ?_, upd_same, ?_, ?_⟩
          · rw [← hσ2]
            exact sit_wipe (o4.sit.extD (zok_at (o := .lst (acc ++ [v])) o4.sit.zok trivial) exD fun b z w => (d4' b w).2 z) own
          · exact is.st.ext _ _ _ _ _ _ _ _ _ it4 o4.sit.zok exD (fun b z w => sep'.2.1 (by rw [← w]; exact z)) fun _ _ => rfl
          · rcases z with z | z | z
            · exact bnds' b (.inl z)
            · exact bnds' b (.inr z)
            · exact ((ow b z).2).elim (bnd3 b) fun z => ext_new0 e03 z
          · exact (rep4.ext o4.sit.zok exD fun b z w => sep'.2.2 (by rw [← w]; exact z)).push (v4.rep.ext o4.sit.zok exD fun b z w => a3 b z w) fun b z w => a1 b w z
          · rw [ec]
            have app : ys ++ (y.1 :: rest) = (ys ++ [y.1]) ++ rest := by simp
            rw [app] at go
            exact go
theorem comp_sem {elt tg it tst : E} {own : List Nat} {etg eit : Expr} (hi : SndI c X W etg it eit) (tgo : ∀ i, i ∈ asgE tg → i ∈ own) : ∃ wi, PI X etg eit wi ∧ ∀ σ H Z g O Q, Sit H Z σ g O →
    PR (Xp X W σ H Z O) ((den c (.comp elt tg it tst own)).val g) (fun x g' => ∀ v H' Z' O' R, Out (Wq false O) H Z O σ g' H' Z' O' → Val H O H' Z' O' σ (.comp elt tg it tst own) x v R → Q v H') →
    tLc wi (tgG c tg) (ttT c tst) (teV c elt) own σ H Q := by
  obtain ⟨wi, pi, si⟩ := hi
  refine ⟨wi, pi, fun σ H Z g O Q s q => si σ H Z g O _ s ?_⟩
  have q : PR (Xp X W σ H Z O) (((den c it).itr g).bind fun s g0 =>
    if (s.names.all fun i => !own.contains i) = true then (compGo (den c tg) (den c tst) (den c elt) own s (s.len g0) 0 (Bm.wipe g0 own)).noex.bind fun ys g => if ys.length ≤ sizeLine then .ok ((D.lst true ys, false) : VD) (rest g0 g own) else .no
    else .no) _ := q
  refine (PR.bind q).mono (fun _ _ z => z) fun src g0 _ q J H1 Z1 O1 I Ro o1 is i0 own1 D hD => ?_
  split at q
  case isFalse => exact q.elim
  rename_i hn
  have q := (PR.bind q).noex
  have nZ : ¬ Z1 D := not_Z o1.sit.zok hD
  have hw : L2.wipe (L2.wipe σ own) own = L2.wipe σ own := wipe_same (by rw [wipe_length]) fun i hi => rfl
  have oz0 : ∀ b, Or O1 Ro b → Z1 b := fun b z => z.elim (o1.sit.oz b) fun z => (own1 b z).1
  have bw : ∀ b, Or O1 Ro b → O b ∨ H b = none := fun b z => z.elim (o1.bnd b) fun z => (own1 b z).2.2
  have zkN := zok_newO (o := .lst []) o1.sit.zok hD trivial
  have exN : Bm.Ext none_ H1 Z1 (upd H1 D (.lst [])) (Zn Z1 D) := ext_newO hD
  have init : CompI c elt tg tst own src I (L2.wipe σ own) H1 Z1 (Or O1 Ro) D (fun _ _ H => Q (.ref D) H) 0 (src.len g0) (upd H1 D (.lst [])) (Zn Z1 D) (Bm.wipe g0 own) O1 Ro none_ [] [] := by
    refine ⟨sit_wipe (o1.sit.ext0 zkN exN) own, ⟨fun b z => oz0 b z.2, fun a o e _ => exN.same a o e fun z => z, exN.zold, fun a z _ => exN.zkeep a z fun z => z⟩, fun b z => .inl (.inl z), ?_, fun b z => ⟨.inl (own1 b z).1, (own1 b z).2.1⟩, fun _ z => z.elim, ⟨.inr rfl, fun z => nZ (o1.sit.oz D z)⟩, .inr hD, ⟨fun _ _ z => z.elim, fun z => nZ (own1 D z).1, fun z => z.elim⟩, fun b z => z.elim (fun z => .inl (.inr z)) fun z => z.elim, upd_same, .nil, ?_⟩
    · refine is.st.ext 0 σ (L2.wipe σ own) _ _ _ _ _ _ i0 o1.sit.zok exN (fun _ _ z => z) fun i hi => ?_
      have := List.all_eq_true.mp hn i hi
      rw [wipe_get, if_neg (by simpa using this)]
    · refine q.mono (fun _ _ z => z) fun ys g' _ q => ?_
      split at q
      case isFalse => exact q.elim
      rename_i hl
      refine ⟨by simpa using hl, fun H' Z' O' RA' sit ext bnd rep ho => ?_⟩
      rw [List.nil_append] at rep
      refine q (.ref D) H' Z' O' RA' ⟨sit_rest sit fun v d hd hp => ?_, o1.ext.trans s.zok ext (fun x z => ⟨rfl, z.2⟩) (fun x z => (bw x z.2).imp (fun z => ⟨rfl, z⟩) id) fun x z => s.oz x z.2, fun b z => ?_⟩ ⟨rep, fun b z => (ho b z).1, fun _ b z => ⟨(ho b z).2.1, (ho b z).2.2.elim (bw b) fun e => o1.bnd' (fun _ z => z.2) (.inr e)⟩, fun _ e => by cases e⟩
      · obtain ⟨u, hu, r⟩ := o1.sit.get hd (dead_pers hp)
        exact ⟨u, hu, (r.pers hp).ext o1.sit.zok ext fun _ z => z.elim⟩
      · exact (bnd b z).elim (bw b) fun e => o1.bnd' (fun _ z => z.2) (.inr e)
  refine ⟨fun i m H => ∃ Z g O Ro' RA acc ys, CompI c elt tg tst own src I (L2.wipe σ own) H1 Z1 (Or O1 Ro) D (fun _ _ H => Q (.ref D) H) i m H Z g O Ro' RA acc ys, ⟨_, _, _, _, _, _, _, _, init⟩, ?_⟩
  rintro i m H2 ⟨Z2, g2, O2, Ro2, RA2, acc2, ys2, C⟩
  rcases comp_step is o1.sit.zok oz0 tgo hw C with ⟨h1, _, _, h2⟩ | ⟨h1, n', rfl, h2⟩
  · exact .inl ⟨h1, h2⟩
  · refine .inr ⟨h1, fun H' => ∃ Z g O Ro' RA acc ys, CompI c elt tg tst own src I (L2.wipe σ own) H1 Z1 (Or O1 Ro) D (fun _ _ H => Q (.ref D) H) (i + 1) n' H' Z g O Ro' RA acc ys, fun H' h => ⟨n', Nat.lt_succ_self _, h⟩, h2⟩
theorem sv_comp {elt tg it tst : E} {own : List Nat} {ownp : List (Str × Nat)} {etg eit eelt : Expr} {ifs : List Expr} {scope : Scope} {pos : Pos} (hc : X.calm = true) (hN : X.N.Nodup) (hi : SndI c X W etg it eit) (ok : BlkOk X.N X.env.scope scope ownp) (how : ownp.map (·.2) = own) (tgo : ∀ i, i ∈ asgE tg → i ∈ own)
    (hg : ∀ (s : Shared) (H : Hp) (C : Addr) (cl : List (Str × Addr)) (fp : List Addr), SndG c (X.blk s H scope (compEnvC scope cl C X.env) fp) (fun _ _ _ _ => False) tg etg)
    (ht : ∀ (s : Shared) (H : Hp) (C : Addr) (cl : List (Str × Addr)) (fp : List Addr), SndTs c (X.blk s H scope (compEnvC scope cl C X.env) fp) (fun _ _ _ _ => False) tst ifs)
    (he : ∀ (s : Shared) (H : Hp) (C : Addr) (cl : List (Str × Addr)) (fp : List Addr), SndV c (X.blk s H scope (compEnvC scope cl C X.env) fp) (fun _ _ _ _ => False) elt eelt)
    (hs : ∀ x, foldedSetIterable eit X.env x = pure x) : SndV c X W (.comp elt tg it tst own) (.ListComp eelt [⟨etg, eit, ifs, 0⟩] scope pos) := by
  subst how
  obtain ⟨wi, pi, sem⟩ := comp_sem (elt := elt) (tst := tst) hi tgo
  exact ⟨_, pe_lc hc hN pi ok (fun s H C cl fp => pg_tgG (hg s H C cl fp)) (fun s H C cl fp => pts_ttT (ht s H C cl fp)) (fun s H C cl fp => pe_teV (he s H C cl fp)) hs, sem⟩
end
end Bm

set_option maxHeartbeats 1000000
/-! B18: statements. -/
namespace Bm
open PySem PySem.Spec PyProof.Rows L2
variable [TheK]
def PostS (X : Cx) (W : WX) (ns : List Nat) (σ : Sg) (H : Hp) (Z O : AS) (D : Ends) (r : RS) : Prop := match r with
  | .nx g => ∀ σ' H' Z' O', Out (Wq false O) H Z O σ' g H' Z' O' → Agree ns σ σ' → D.nx σ' H'
  | .bk g => ∀ σ' H' Z' O', Out (Wq false O) H Z O σ' g H' Z' O' → Agree ns σ σ' → D.bk σ' H'
  | .ct g => ∀ σ' H' Z' O', Out (Wq false O) H Z O σ' g H' Z' O' → Agree ns σ σ' → D.ct σ' H'
  | .rt d g => ∀ v σ' H' Z' O' R, Out (Wq false O) H Z O σ' g H' Z' O' → Agree ns σ σ' → Rep H' Z' d v R → OwnR H O Z' O' R → D.rt v H'
  | .ex e g => XpS X W ns σ H Z O e g
  | .no => False
theorem OwnR.base {H H1 : Hp} {Z O P P1 Z1 O1 Z' O' R : AS} {σ1 : Sg} {g1 : List D} {q : Bool} (op : ∀ b, O b → P b) (o1 : Out (Wq q O) H Z O σ1 g1 H1 Z1 O1) (hp : ∀ b, P1 b → P b ∨ H b = none) (h : OwnR H1 P1 Z' O' R) : OwnR H P Z' O' R :=
  fun b z => ⟨(h b z).1, (h b z).2.1, (h b z).2.2.elim (hp b) fun z => (o1.bnd' (fun _ z => z.2) (.inr z)).imp (op b) id⟩
/-- a later part, seen from the begin -/
theorem PostS.step {X : Cx} {W : WX} {a b ns : List Nat} {σ σ1 : Sg} {H H1 : Hp} {Z O P P1 Z1 O1 : AS} {g1 : List D} {q : Bool} {D : Ends} {r : RS} (zk : ZOk H Z) (pz : ∀ b, P b → Z b) (op : ∀ b, O b → P b) (o1 : Out (Wq q O) H Z O σ1 g1 H1 Z1 O1) (ag : Agree a σ σ1) (hp : ∀ b, P1 b → P b ∨ H b = none)
    (ha : ∀ i, i ∈ a → i ∈ ns) (hb : ∀ i, i ∈ b → i ∈ ns) (h : PostS X W ns σ H Z P D r) : PostS X W b σ1 H1 Z1 P1 D r := by
  cases r with
  | nx g => exact fun σ' H' Z' O' o2 ag2 => h σ' H' Z' O' (Out.glue zk pz op o1 hp o2) (ag.trans ag2 ha hb)
  | bk g => exact fun σ' H' Z' O' o2 ag2 => h σ' H' Z' O' (Out.glue zk pz op o1 hp o2) (ag.trans ag2 ha hb)
  | ct g => exact fun σ' H' Z' O' o2 ag2 => h σ' H' Z' O' (Out.glue zk pz op o1 hp o2) (ag.trans ag2 ha hb)
  | rt d g => exact fun v σ' H' Z' O' R o2 ag2 rd ow => h v σ' H' Z' O' R (Out.glue zk pz op o1 hp o2) (ag.trans ag2 ha hb) rd (ow.base op o1 hp)
  | ex e g => exact XpS.step zk pz op o1 ag hp ha hb h
  | no => exact h
theorem PostS.st {α : Type} {X : Cx} {W : WX} {ns : List Nat} {σ : Sg} {H : Hp} {Z O : AS} {D : Ends} {r : R α} {f : α → List Bm.D → RS} (s : ∀ b, O b → Z b) (h : PostS X W ns σ H Z O D (r.st f)) : PR (XpS X W ns σ H Z O) r fun a g => PostS X W ns σ H Z O D (f a g) := by
  cases r with
  | ok a g => exact h
  | ex e g => exact h
  | no => exact h
theorem PR.xp {α : Type} {X : Cx} {W : WX} {ns : List Nat} {σ : Sg} {H : Hp} {Z O : AS} {r : R α} {K : α → List D → Prop} (oz : ∀ b, O b → Z b) (h : PR (XpS X W ns σ H Z O) r K) : PR (Xp X W σ H Z O) r K :=
  h.mono (fun _ _ z => z.xp oz fun _ z => z) fun _ _ _ z => z
theorem PostS.mono {X : Cx} {W : WX} {ns ms : List Nat} {σ : Sg} {H : Hp} {Z O : AS} {g : List D} {D : Ends} {r : RS} (s : Sit H Z σ g O) (hm : ∀ i, i ∈ ms → i ∈ ns) (h : PostS X W ns σ H Z O D r) : PostS X W ms σ H Z O D r :=
  h.step s.zok s.oz (fun _ z => z) (Out.refl (W := Wq true O) s fun b z => s.oz b z.2) (Agree.refl (ns := [])) (fun b z => .inl z) (fun i hi => nomatch hi) hm
section
variable {c : Str → List D → CRes} {X : Cx} {W : WX}
def SemS (c : Str → List D → CRes) (X : Cx) (W : WX) (m : S) (t : TS) : Prop := ∀ σ H Z g O D, Sit H Z σ g O → PostS X W (asgS m) σ H Z O D (sden c m g) → t D σ H
def Snd1 (c : Str → List D → CRes) (X : Cx) (W : WX) (m : S) (s : Stmt) : Prop := ∃ t, PS X s t ∧ SemS c X W m t
def SndS (c : Str → List D → CRes) (X : Cx) (W : WX) (m : S) (ss : List Stmt) : Prop := ∃ t, PSs X ss t ∧ SemS c X W m t
theorem Snd1.one {m : S} {s : Stmt} (h : Snd1 c X W m s) : SndS c X W m [s] := by
  obtain ⟨t, p, q⟩ := h
  exact ⟨t, pss_one p, q⟩
theorem sem_skip : SemS c X W .skip tNext := fun σ H Z g O D s q => q σ H Z O (.refl s fun b z => s.oz b z.2) .refl
theorem ss_nil : SndS c X W .skip [] := ⟨_, pss_nil, sem_skip⟩
theorem s1_pass {p : Pos} : Snd1 c X W .skip (.Pass p) := ⟨_, ps_pass, sem_skip⟩
theorem s1_never {s : Stmt} : Snd1 c X W .never s := ⟨_, ps_never, fun σ H Z g O D s q => q⟩
theorem ss_never {ss : List Stmt} : SndS c X W .never ss := ⟨_, pss_never, fun σ H Z g O D s q => q⟩
theorem s1_brk {p : Pos} : Snd1 c X W .brk (.Break p) := ⟨_, ps_break, fun σ H Z g O D s q => q σ H Z O (.refl s fun b z => s.oz b z.2) .refl⟩
theorem s1_cont {p : Pos} : Snd1 c X W .cont (.Continue p) := ⟨_, ps_continue, fun σ H Z g O D s q => q σ H Z O (.refl s fun b z => s.oz b z.2) .refl⟩
theorem s1_retN {p : Pos} : Snd1 c X W .retN (.Return none p) := ⟨_, ps_retN, fun σ H Z g O D s q => q .non σ H Z O none_ (.refl s fun b z => s.oz b z.2) .refl (.at .non _) fun _ z => z.elim⟩
theorem ss_seq {a b : S} {s : Stmt} {r : List Stmt} (ha : Snd1 c X W a s) (hb : SndS c X W b r) : SndS c X W (.seq a b) (s :: r) := by
  obtain ⟨ta, pa, sa⟩ := ha
  obtain ⟨tb, pb, sb⟩ := hb
  refine ⟨_, pss_cons pa pb, fun σ H Z g O D st q => sa σ H Z g O _ st ?_⟩
  have ia : ∀ i, i ∈ asgS a → i ∈ asgS (.seq a b) := fun i hi => by simp [asgS, hi]
  have ib : ∀ i, i ∈ asgS b → i ∈ asgS (.seq a b) := fun i hi => by simp [asgS, hi]
  have q : PostS X W (asgS (.seq a b)) σ H Z O D ((sden c a g).bind (sden c b)) := q
  cases e : sden c a g with
  | nx g1 =>
    rw [e] at q
    exact fun σ1 H1 Z1 O1 o1 ag => sb σ1 H1 Z1 g1 O1 D o1.sit (q.step st.zok st.oz (fun _ z => z) o1 ag (fun b z => o1.bnd b z) ia ib)
  | bk g1 => rw [e] at q; exact q.mono st ia
  | ct g1 => rw [e] at q; exact q.mono st ia
  | rt d g1 => rw [e] at q; exact q.mono st ia
  | ex x g1 => rw [e] at q; exact q.mono st ia
  | no => rw [e] at q; exact q
theorem sem_kill {is : List Nat} {a : S} {t : TS} (h : SemS c X W a t) : SemS c X W (.kill is a) t := fun σ H Z g O D st q => h σ H Z g O D st (by
  have q : PostS X W (asgS a) σ H Z O D (match sden c a g with
    | .nx g => .nx (Bm.wipe g is)
    | .ct g => .ct (Bm.wipe g is)
    | r => r) := q
  cases e : sden c a g with
  | nx g1 => rw [e] at q; exact fun σ1 H1 Z1 O1 o1 ag => q σ1 H1 Z1 O1 ⟨sit_drop o1.sit is, o1.ext, o1.bnd⟩ ag
  | ct g1 => rw [e] at q; exact fun σ1 H1 Z1 O1 o1 ag => q σ1 H1 Z1 O1 ⟨sit_drop o1.sit is, o1.ext, o1.bnd⟩ ag
  | bk g1 => rw [e] at q; exact q
  | rt d g1 => rw [e] at q; exact q
  | ex x g1 => rw [e] at q; exact q
  | no => rw [e] at q; exact q)
theorem s1_expr {m : E} {e : Expr} {p : Pos} (nc : noComp e = true) (h : SndV c X W m e) : Snd1 c X W (.expr m) (.Expr e p) := by
  obtain ⟨t, pe, s⟩ := h
  refine ⟨_, ps_expr pe (noComp_swap nc _ _ _), fun σ H Z g O D st q => s σ H Z g O _ st ?_⟩
  exact ((PostS.st st.oz q).xp st.oz).mono (fun _ _ z => z) fun x g1 _ k v H1 Z1 O1 R o va => k σ H1 Z1 O1 (o.weak st fun _ => rfl) .refl
theorem s1_ret {m : E} {e : Expr} {p : Pos} (h : SndV c X W m e) : Snd1 c X W (.ret m) (.Return (some e) p) := by
  obtain ⟨t, pe, s⟩ := h
  refine ⟨_, ps_ret pe, fun σ H Z g O D st q => s σ H Z g O _ st ?_⟩
  refine ((PostS.st st.oz q).xp st.oz).mono (fun _ _ z => z) fun x g1 _ k v H1 Z1 O1 R o va => ?_
  unfold own1 at k
  split at k
  · rename_i hx
    exact k v σ H1 Z1 O1 R (o.weak st fun _ => rfl) .refl va.rep fun b z => ⟨va.rz b z, va.own hx b z⟩
  · exact k.elim
theorem s1_if {m : E} {a b : S} {e : Expr} {sa sb : List Stmt} {p : Pos} (h : SndT c X W m e) (ha : SndS c X W a sa) (hb : SndS c X W b sb) : Snd1 c X W (.ifS m a b) (.If e sa sb p) := by
  obtain ⟨t, pe, s⟩ := h
  obtain ⟨ta, pa, qa⟩ := ha
  obtain ⟨tb, pb, qb⟩ := hb
  refine ⟨_, ps_if pe pa pb, fun σ H Z g O D st q => s σ H Z g O _ st ?_⟩
  have ia : ∀ i, i ∈ asgS a → i ∈ asgS (.ifS m a b) := fun i hi => by simp [asgS, hi]
  have ib : ∀ i, i ∈ asgS b → i ∈ asgS (.ifS m a b) := fun i hi => by simp [asgS, hi]
  refine ((PostS.st st.oz q).xp st.oz).mono (fun _ _ z => z) fun x g1 _ k H1 Z1 O1 o => ?_
  cases x with
  | true =>
    rw [if_pos rfl] at k ⊢
    exact qa σ H1 Z1 g1 O1 D o.sit (k.step st.zok st.oz (fun _ z => z) o (Agree.refl (ns := [])) (fun b z => o.bnd b z) (fun i hi => nomatch hi) ia)
  | false =>
    rw [if_neg Bool.false_ne_true] at k ⊢
    exact qb σ H1 Z1 g1 O1 D o.sit (k.step st.zok st.oz (fun _ z => z) o (Agree.refl (ns := [])) (fun b z => o.bnd b z) (fun i hi => nomatch hi) ib)
/-- target = value, by readings -/
theorem sem_asg {t m : E} {te : TE} {g : TG}
    (sv : ∀ σ H Z g O Q, Sit H Z σ g O → PR (Xp X W σ H Z O) ((den c m).val g) (fun x g' => ∀ v H' Z' O' R, Out (Wq (quiet m) O) H Z O σ g' H' Z' O' → Val H O H' Z' O' σ m x v R → Q v H') → te σ H Q)
    (sg : ∀ σ H Z g' O d v R (Q : Sg → Hp → Prop), Sit H Z σ g' O → Rep H Z d v R → (∀ b, R b → Z b ∧ ¬ O b) → PR (XpS X W (asgE t) σ H Z (Or O R)) ((den c t).asg d g') (fun _ g'' => ∀ σ' H' Z' O', Out (Wq false (Or O R)) H Z (Or O R) σ' g'' H' Z' O' → Agree (asgE t) σ σ' → Q σ' H') → g v σ H Q) :
    SemS c X W (.asg t m) (tAsg te g) := fun σ H Z g O D st q => sv σ H Z g O _ st (by
  refine ((PostS.st st.oz q).xp st.oz).mono (fun _ _ z => z) fun x g1 _ k v H1 Z1 O1 R o va => ?_
  unfold own1 at k
  split at k
  · rename_i hx
    have ow := va.own hx
    have hp : ∀ b, Or O1 R b → O b ∨ H b = none := fun b z => z.elim (o.bnd b) fun z => (ow b z).2
    have oz1 : ∀ b, Or O1 R b → Z1 b := fun b z => z.elim (o.sit.oz b) (va.rz b)
    have k := PostS.step (P1 := Or O1 R) (b := asgE t) st.zok st.oz (fun _ z => z) o (Agree.refl (ns := [])) hp (fun i hi => nomatch hi) (fun i hi => hi) k
    refine sg σ H1 Z1 g1 O1 x.1 v R _ o.sit va.rep (fun b z => ⟨va.rz b z, (ow b z).1⟩) ?_
    exact PostS.st oz1 k
  · exact k.elim)
/-- no two names are stored at once -/
def noSwap (tg x : Expr) : Bool := match tg, x with
  | .Tuple _ _ _, .Tuple _ _ _ => false
  | .List _ _, .Tuple _ _ _ => false
  | _, _ => true
theorem noSwap_is {tg x : Expr} (h : noSwap tg x = true) (env : Env) : swappedStores [tg] x env = pure none := by
  cases tg <;> first | rfl | (cases x <;> first | rfl | (simp [noSwap] at h))
theorem one_each {tg : Expr} (pl : plainE tg = true) (env : Env) : (assignEach [tg] env).map (·.2) = [assign tg env] := by
  cases tg <;> first | rfl | (simp [plainE] at pl)
theorem s1_asg {t m : E} {tg e : Expr} {p : Pos} (hs : swapsWithSole [tg] e p.line X.env = pure false) (hw : swappedStores [tg] e X.env = pure none) (pl : plainE tg = true) (h : SndV c X W m e) (hg : SndG c X W t tg) : Snd1 c X W (.asg t m) (.Assign [tg] e p) := by
  obtain ⟨te, pe, sv⟩ := h
  obtain ⟨g, pg, sg⟩ := hg
  exact ⟨_, ps_asg pe pg hs hw (one_each pl _), sem_asg sv sg⟩
end
end Bm

set_option maxHeartbeats 1000000
/-! B19: more statements: comprehensions that are named, stores in place, loops. -/
namespace Bm
open PySem PySem.Spec PyProof.Rows L2
variable [TheK]
section
variable {c : Str → List D → CRes} {X : Cx} {W : WX}
theorem semg_var {i : Nat} : ∀ σ H Z g O d v R (Q : Sg → Hp → Prop), Sit H Z σ g O → Rep H Z d v R → (∀ b, R b → Z b ∧ ¬ O b) →
    PR (XpS X W (asgE (.var i)) σ H Z (Or O R)) ((den c (.var i)).asg d g) (fun _ g' => ∀ σ' H' Z' O', Out (Wq false (Or O R)) H Z (Or O R) σ' g' H' Z' O' → Agree (asgE (.var i)) σ σ' → Q σ' H') → gName i v σ H Q :=
  fun σ H Z g O d v R Q s r rz q => by
    have q : PR (XpS X W (asgE (.var i)) σ H Z (Or O R)) (if i < g.length then .ok () (g.set i d) else .no) _ := q
    split at q
    · rename_i hi
      refine q (σ.set i (some v)) H Z (Or O R) ⟨sit_asg s hi r rz, .refl fun b z => z.2.elim (s.oz b) fun z => (rz b z).1, fun b z => .inl z⟩ ⟨by simp, fun j hj => ?_⟩
      rw [List.getElem?_set_ne (fun e => hj (by simp [asgE, e]))]
    · exact q.elim
theorem s1_setLc {i : Nat} {y : Str} {py : Pos} {elt tg it tst : E} {own : List Nat} {ownp : List (Str × Nat)} {etg eit eelt : Expr} {ifs : List Expr} {scope : Scope} {pos spos : Pos} (hc : X.calm = true) (hN : X.N.Nodup) (hy : X.N[i]? = some y) (hyl : X.env.scope.names.lookup y = some .local)
    (hsw : swapsWith (.ListComp eelt [⟨etg, eit, ifs, 0⟩] scope pos) (some (.Name y py)) spos.line X.env = pure true) (hi : SndI c X W etg it eit) (ok : BlkOk X.N X.env.scope scope ownp) (how : ownp.map (·.2) = own) (tgo : ∀ i, i ∈ asgE tg → i ∈ own)
    (hg : ∀ (s : Shared) (H : Hp) (C : Addr) (cl : List (Str × Addr)) (fp : List Addr), SndG c (X.blk s H scope (compEnvC scope cl C X.env) fp) (fun _ _ _ _ => False) tg etg)
    (ht : ∀ (s : Shared) (H : Hp) (C : Addr) (cl : List (Str × Addr)) (fp : List Addr), SndTs c (X.blk s H scope (compEnvC scope cl C X.env) fp) (fun _ _ _ _ => False) tst ifs)
    (he : ∀ (s : Shared) (H : Hp) (C : Addr) (cl : List (Str × Addr)) (fp : List Addr), SndV c (X.blk s H scope (compEnvC scope cl C X.env) fp) (fun _ _ _ _ => False) elt eelt)
    (hs : ∀ x, foldedSetIterable eit X.env x = pure x) : Snd1 c X W (.asg (.var i) (.comp elt tg it tst own)) (.Assign [.Name y py] (.ListComp eelt [⟨etg, eit, ifs, 0⟩] scope pos) spos) := by
  subst how
  obtain ⟨wi, pi, sem⟩ := comp_sem (elt := elt) (tst := tst) hi tgo
  exact ⟨_, ps_setLc hc hN hy hyl hsw pi ok (fun s H C cl fp => pg_tgG (hg s H C cl fp)) (fun s H C cl fp => pts_ttT (ht s H C cl fp)) (fun s H C cl fp => pe_teV (he s H C cl fp)) hs, sem_asg sem semg_var⟩
/-! ### in place -/
def augF : BOp → Int → Int → Int
  | .sub => fun i j => i - j
  | _ => fun i j => i + j
theorem ip_aug {o : BOp} (h : o = .add ∨ o = .sub) : PIp X (opOf o) (ipI (augF o)) := by
  rcases h with rfl | rfl
  · exact ip_add
  · exact ip_sub
theorem s1_aug {i : Nat} {x : Str} {o : BOp} {m : E} {e : Expr} {p pos' : Pos} (ho : o = .add ∨ o = .sub) (hN : X.N.Nodup) (hi : X.N[i]? = some x) (hx : Loc X.env.scope x) (hf : X.fn x = true ∨ X.env.scope.names.lookup x = some .local) (h : SndV c X W m e) :
    Snd1 c X W (.aug i o m) (.AugAssign (.Name x pos') (opOf o) e p) := by
  obtain ⟨t, pe, s⟩ := h
  refine ⟨_, ps_aug hN hi hx pe (ip_aug ho) hf, fun σ H Z g O Dd st q => ?_⟩
  have q : PostS X W (asgS (.aug i o m)) σ H Z O Dd (match g[i]? with
    | some (.at (.int _)) => ((den c m).val g).st fun y g => (match g[i]?, y.1 with
      | some (.at (.int u)), .at (.int w) => (match augV o u w with
        | some z => .nx (g.set i (.int z))
        | none => .no)
      | _, _ => .no)
    | _ => .no) := q
  split at q
  case h_2 => exact q.elim
  rename_i u0 h0
  obtain ⟨v, hv, _⟩ := st.get h0 rfl
  refine ⟨v, hv, s σ H Z g O _ st ?_⟩
  refine ((PostS.st st.oz q).xp st.oz).mono (fun _ _ z => z) fun y g1 _ k w H1 Z1 O1 R o1 va => ?_
  have fin : ∀ u n, g1[i]? = some (.int u) → y.1 = .int n → PostS X W (asgS (.aug i o m)) σ H Z O Dd (.nx (g1.set i (.int (augF o u n)))) → ipI (augF o) v w H1 fun z H2 => Dd.nx (σ.set i (some z)) H2 := fun u n e1 e2 k => by
    obtain ⟨v', hv', r'⟩ := o1.sit.get e1 rfl
    rw [hv] at hv'
    injection hv' with hv'
    injection hv' with hv'
    subst hv'
    have r2 := va.rep
    rw [e2] at r2
    refine ⟨u, n, rep_at r', rep_at r2, k _ H1 Z1 (Or O1 none_) ⟨sit_asg o1.sit (List.getElem?_eq_some_iff.mp e1).1 (.at (.int _) none_) fun _ z => z.elim, (o1.weak st fun _ => rfl).ext, fun b z => z.elim (o1.bnd b) fun z => z.elim⟩ ⟨by simp, fun j hj => ?_⟩⟩
    rw [List.getElem?_set_ne (fun e => hj (by simp [asgS, e]))]
  split at k
  · rename_i u n e1 e2
    split at k
    · rename_i z ez
      refine fin u n e1 e2 ?_
      rcases ho with rfl | rfl <;> (cases ez; exact k)
    · exact k.elim
  · exact k.elim
/-! ### for -/
def ForI (X : Cx) (W : WX) (ns : List Nat) (T : Den) (B : List D → RS) (src : Src) (I : IT) (σ : Sg) (H : Hp) (Z O : AS) (Dd : Ends) (i m : Nat) (σ' : Sg) (H' : Hp) : Prop :=
  ∃ Z' g' O' Ro, Out (Wq false O) H Z O σ' g' H' Z' O' ∧ Agree ns σ σ' ∧ I i σ' H' Z' Ro ∧ (∀ b, Ro b → Z' b ∧ ¬ O' b) ∧ (∀ b, Ro b → O b ∨ H b = none) ∧ PostS X W ns σ H Z O Dd (forGo T B src m i g')
theorem s1_for {t it : E} {b : S} {tg iter : Expr} {body : List Stmt} {p : Pos} (hp : PassesOwn (model X.prog X.w) X.A X.env X.xe) (hc : X.calm = true) (hi : SndI c X W tg it iter) (hg : SndG c X W t tg) (hb : SndS c X W b body) (hs : ∀ x, foldedSetIterable iter X.env x = pure x) :
    Snd1 c X W (.forS t it b) (.For tg iter body [] p) := by
  obtain ⟨wi, pi, si⟩ := hi
  obtain ⟨tt, pg, sg⟩ := hg
  obtain ⟨tb, pb, sb⟩ := hb
  refine ⟨_, ps_for hp hc pi pg pb hs, fun σ H Z g O Dd st q => si σ H Z g O _ st ?_⟩
  have q : PostS X W (asgS (.forS t it b)) σ H Z O Dd (((den c it).itr g).st fun s g => if (s.names.all fun i => !(asgE t ++ asgS b).contains i) = true then forGo (den c t) (sden c b) s (s.len g) 0 g else .no) := q
  refine ((PostS.st st.oz q).xp st.oz).mono (fun _ _ z => z) fun src g1 _ k J H1 Z1 O1 I Ro o1 is i0 own1 => ?_
  split at k
  case isFalse => exact k.elim
  rename_i hn
  have hn : ∀ i, i ∈ src.names → i ∉ asgE t ++ asgS b := fun i hi => by simpa using List.all_eq_true.mp hn i hi
  have ia : ∀ i, i ∈ asgE t → i ∈ asgS (.forS t it b) := fun i hi => by simp [asgS, hi]
  have ib : ∀ i, i ∈ asgS b → i ∈ asgS (.forS t it b) := fun i hi => by simp [asgS, hi]
  generalize hns : asgS (.forS t it b) = ns at k ia ib
  have ic : ∀ i, i ∈ ns → i ∈ ns := fun i hi => hi
  refine ⟨ForI X W ns (den c t) (sden c b) src I σ H Z O Dd, ⟨_, Z1, g1, O1, Ro, o1.weak st fun _ => rfl, .refl, i0, fun b z => ⟨(own1 b z).1, (own1 b z).2.1⟩, fun b z => (own1 b z).2.2, k⟩, ?_⟩
  rintro i m σ2 H2 ⟨Z2, g2, O2, Ro2, o2, ag2, it2, ro2, bn2, k⟩
  unfold forGo at k
  cases e : src.at g2 i with
  | none => rw [e] at k; exact k.elim
  | some r =>
    rw [e] at k
    cases r with
    | none => exact .inl ⟨is.stop i σ2 H2 Z2 Ro2 g2 O2 it2 o2.sit e, k σ2 H2 Z2 O2 o2 ag2⟩
    | some d =>
      refine .inr ⟨is.go i σ2 H2 Z2 Ro2 g2 O2 d it2 o2.sit e, ?_⟩
      cases m with
      | zero => exact k.elim
      | succ m =>
        refine ⟨ForI X W ns (den c t) (sden c b) src I σ H Z O Dd (i + 1) m, fun σ' H' h => ⟨m, Nat.lt_succ_self _, h⟩, fun x H3 y => ?_⟩
        obtain ⟨zk3, ex3, Rd, Ro3, rd, it3, hRd, hRo⟩ := is.yld i σ2 H2 Z2 Ro2 g2 O2 d x H3 it2 o2.sit e y
        have o3 : Out (Wq false O) H Z O σ2 g2 H3 Z2 O2 := ⟨o2.sit.ext0 zk3 ex3, o2.ext.trans st.zok ex3 (fun _ z => z) (fun _ z => z.elim) fun x z => st.oz x z.2, o2.bnd⟩
        have hp3 : ∀ b, Or O2 Rd b → O b ∨ H b = none := fun b z => z.elim (o2.bnd b) fun z => bn2 b (hRd b z).1
        have oz3 : ∀ b, Or O2 Rd b → Z2 b := fun b z => z.elim (o3.sit.oz b) fun z => (ro2 b (hRd b z).1).1
        refine sg σ2 H3 Z2 g2 O2 d x Rd _ o3.sit rd (fun b z => ro2 b (hRd b z).1) ?_
        refine PR.mono (PostS.st st.oz k) (fun e g q => XpS.step st.zok st.oz (fun _ z => z) o3 ag2 hp3 ic ia q) fun _ g4 _ k4 σ4 H4 Z4 O4 o4 ag4 => ?_
        have ri : ∀ b, Ro3 b → Z2 b ∧ ¬ Or O2 Rd b := fun b z => ⟨(ro2 b (hRo b z)).1, fun w => w.elim (ro2 b (hRo b z)).2 fun w => (hRd b w).2 z⟩
        obtain ⟨ri4, n4⟩ := o4.keep zk3 ri
        have it4 : I (i + 1) σ4 H4 Z4 Ro3 := is.st.ext _ _ _ _ _ _ _ _ _ it3 zk3 o4.ext n4 fun i hi => ag4.at_ i fun w => hn i hi (by simp [w])
        have o14 : Out (Wq false O) H Z O σ4 g4 H4 Z4 O4 := Out.glue st.zok st.oz (fun _ z => z) o3 hp3 o4
        have ag14 : Agree ns σ σ4 := ag2.trans ag4 ic ia
        refine sb σ4 H4 Z4 g4 O4 _ o4.sit ?_
        have next : ∀ g5 σ5 H5 Z5 O5, PostS X W ns σ H Z O Dd (forGo (den c t) (sden c b) src m (i + 1) g5) → Out (Wq false O4) H4 Z4 O4 σ5 g5 H5 Z5 O5 → Agree (asgS b) σ4 σ5 → ForI X W ns (den c t) (sden c b) src I σ H Z O Dd (i + 1) m σ5 H5 := fun g5 σ5 H5 Z5 O5 k5 o5 ag5 => by
          obtain ⟨ri5, n5⟩ := o5.keep o4.sit.zok ri4
          exact ⟨Z5, g5, O5, Ro3, Out.glue st.zok st.oz (fun _ z => z) o14 (fun b z => o14.bnd b z) o5, ag14.trans ag5 ic ib, is.st.ext _ _ _ _ _ _ _ _ _ it4 o4.sit.zok o5.ext n5 fun i hi => ag5.at_ i fun w => hn i hi (by simp [w]), ri5, fun b z => bn2 b (hRo b z), k5⟩
        cases eb : sden c b g4 with
        | nx g5 => rw [eb] at k4; exact fun σ5 H5 Z5 O5 o5 ag5 => next g5 σ5 H5 Z5 O5 k4 o5 ag5
        | ct g5 => rw [eb] at k4; exact fun σ5 H5 Z5 O5 o5 ag5 => next g5 σ5 H5 Z5 O5 k4 o5 ag5
        | bk g5 => rw [eb] at k4; exact fun σ5 H5 Z5 O5 o5 ag5 => k4 σ5 H5 Z5 O5 (Out.glue st.zok st.oz (fun _ z => z) o14 (fun b z => o14.bnd b z) o5) (ag14.trans ag5 ic ib)
        | rt d g5 => rw [eb] at k4; exact PostS.step (D := Dd) (r := .rt d g5) st.zok st.oz (fun _ z => z) o14 ag14 (fun b z => o14.bnd b z) ic ib k4
        | ex e g5 => rw [eb] at k4; exact PostS.step (D := Dd) (r := .ex e g5) st.zok st.oz (fun _ z => z) o14 ag14 (fun b z => o14.bnd b z) ic ib k4
        | no => rw [eb] at k4; exact k4
end
end Bm

set_option maxHeartbeats 1000000
/-! B20: o[i] += e. -/
namespace Bm
open PySem PySem.Spec PyProof.Rows L2
variable [TheK]
section
variable {c : Str → List D → CRes} {X : Cx} {W : WX}
theorem get_list : PGet X (rIxL X.K) := by
  rintro pins sh σ H o i ov iv Q inv ro ri ⟨p, vs, n, w, rfl, rfl, sq, at_, fin⟩
  cases ro
  obtain ⟨tk, rfl⟩ := ri
  obtain ⟨its, rel, pl, small⟩ := inv.list sq
  obtain ⟨k, e1, e2, _, e4, e5⟩ := atI_get at_
  obtain ⟨u, eu, ru⟩ := rel.get e2
  have len := rel.length
  have big := line63
  have done_ : EP X pins σ Q u sh := ⟨w, H, inv, ru, fin⟩
  cases Int.lt_or_le n 0 with
  | inl neg =>
    refine wpAny_getItem_list_neg pl.isList neg (by rw [List.size_toArray]; omega) (by omega) ?_ done_
    rw [seqIndex_neg neg e4] at e1
    rw [List.size_toArray, ← len, Option.some.inj e1]
    simpa using eu
  | inr pos =>
    refine wpAny_getItem_list pl.isList pos (by omega) ?_ done_
    rw [seqIndex_of pos e5] at e1
    rw [Option.some.inj e1]
    simpa using eu
theorem augI_parts {a j e : E} {o : BOp} {g : List D} {ns : List Nat} {σ : Sg} {H : Hp} {Z O : AS} {Dd : Ends} (oz : ∀ b, O b → Z b) (h : PostS X W ns σ H Z O Dd (sden c (.augI a j o e) g)) :
    PR (Xp X W σ H Z O) ((den c a).plc g) fun q g => PR (Xp X W σ H Z O) ((den c j).val g) fun m g => ∃ n xs k u, (quiet j = true ∨ isVar a = true) ∧ quiet e = true ∧ m.1 = .int n ∧ getG g q.1 q.2 = some (.lst true xs) ∧ ixN xs.length n = some k ∧ xs[k]? = some (.int u) ∧
      PR (Xp X W σ H Z O) ((den c e).val g) fun y g => ∃ w z, y.1 = .int w ∧ augV o u w = some z ∧ PostS X W ns σ H Z O Dd (.nx (setG g q.1 q.2 (.lst true (xs.set k (.int z))))) := by
  have h : PostS X W ns σ H Z O Dd (((den c a).plc g).st _) := h
  refine ((PostS.st oz h).xp oz).mono (fun _ _ z => z) fun q g _ h => ((PostS.st oz h).xp oz).mono (fun _ _ z => z) fun m g _ h => ?_
  split at h
  · rename_i n xs e1 e2
    split at h
    · rename_i k e3
      split at h
      · rename_i u e4
        split at h
        · rename_i cond
          refine ⟨n, xs, k, u, cond.1, cond.2, e1, e2, e3, e4, ((PostS.st oz h).xp oz).mono (fun _ _ z => z) fun y g _ h => ?_⟩
          split at h
          · rename_i w ew
            split at h
            · rename_i z ez
              exact ⟨w, z, ew, ez, h⟩
            · exact h.elim
          · exact h.elim
        · exact h.elim
      · exact h.elim
    · exact h.elim
  · exact h.elim
theorem augV_is {o : BOp} {u w z : Int} (ho : o = .add ∨ o = .sub) (e : augV o u w = some z) : z = augF o u w := by
  rcases ho with rfl | rfl <;> (cases e; rfl)
theorem s1_augI {a j m : E} {o : BOp} {ea ej e : Expr} {p tp : Pos} (ho : o = .add ∨ o = .sub) (pl : plainE ej = true) (ha : SndP c X W a ea) (hj : SndV c X W j ej) (he : SndV c X W m e) : Snd1 c X W (.augI a j o m) (.AugAssign (.Subscript ea ej tp) (opOf o) e p) := by
  obtain ⟨ta, pa, sa⟩ := ha
  obtain ⟨tj, pj, sj⟩ := hj
  obtain ⟨te, pe, se⟩ := he
  refine ⟨_, ps_augS pa pj get_list pe (ip_aug ho) set_list (by intro ov iv nw; cases ej <;> first | rfl | (simp [plainE] at pl)), fun σ H Z g O Dd st q => sa σ H Z g O _ st ?_⟩
  refine (augI_parts st.oz q).mono (fun _ _ z => z) fun q g1 _ h va H1 Z1 O1 o1 pat iv => sj σ H1 Z1 g1 O1 _ o1.sit ?_
  refine h.mono (fun e g' q => Xp.step st o1 q) fun y g2 ey h2 uj H2 Z2 O2 R2 o2 vy => ?_
  obtain ⟨n, xs, k, u, hq, hqe, e1, e2, e3, e4, h3⟩ := h2
  have pat2 : PAt H2 σ g2 q.1 q.2 va := pat.step o2 (hq.imp (fun z => ⟨z, quiet_val z ey⟩) fun z => iv z)
  have o12 : Out (Wq false O) H Z O σ g2 H2 Z2 O2 := o1.trans st.zok st.oz o2 (fun _ => rfl) fun _ => rfl
  have ru := vy.rep
  rw [e1] at ru
  have ru := rep_at ru
  subst ru
  obtain ⟨Rp, _, rr, _⟩ := o2.sit.focus pat2 e2 fun _ => rfl
  obtain ⟨p, vs, rfl, hb, ra, _⟩ := rep_lst rr
  obtain ⟨v0, hv0, rv0⟩ := ra.get e4
  have rv0 := rep_at rv0
  subst rv0
  refine ⟨p, vs, n, .int u, rfl, rfl, SqL.of hb, by unfold atI; rw [← ra.len, e3]; exact hv0, se σ H2 Z2 g2 O2 _ o2.sit ?_⟩
  refine h3.mono (fun e g' q => Xp.step st o12 q) fun y3 g3 ey3 h4 w4 H4 Z4 O4 R4 o4 v4 => ?_
  obtain ⟨w, z, ew, ez, K⟩ := h4
  obtain rfl := augV_is ho ez
  have g32 : g3 = g2 := quiet_val hqe ey3
  have pat4 : PAt H4 σ g3 q.1 q.2 (.ref p) := pat2.step o4 (.inl ⟨hqe, g32⟩)
  rw [← g32] at e2
  have o14 : Out (Wq false O) H Z O σ g3 H4 Z4 O4 := o12.trans st.zok st.oz o4 (fun _ => rfl) fun _ => rfl
  obtain ⟨R, sub, r4, back⟩ := o4.sit.focus pat4 e2 fun _ => rfl
  obtain ⟨vs4, hb4, ra4, rx4⟩ := rep_lstM r4
  have rw4 := v4.rep
  rw [ew] at rw4
  have rw4 := rep_at rw4
  subst rw4
  have npz : ∀ b, R b → Z4 b := fun b z => o4.sit.oz b (sub b z)
  have exA : Bm.Ext (fun b => b = p) H4 Z4 (upd H4 p (.lst (vs4.set k (.int (augF o u w))))) Z4 := ext_at rfl fun b z => by rw [z]; exact npz p ra4
  have r5 := (rx4.ext o4.sit.zok exA fun b z => z.2).set (k := k) (.at (.int (augF o u w)) none_) fun b z w => w
  have sit := back _ Z4 _ _ (zok_at (o := .lst (vs4.set k (.int (augF o u w)))) o4.sit.zok trivial) (ext_at ra4 npz) (fun b z => ⟨?_, fun w => ?_⟩) (mk_lst upd_same r5 fun b z => z.elim (fun z => z.2) fun z => z.elim)
  · refine ⟨u, w, rfl, rfl, p, vs4, n, k, rfl, rfl, hb4, by rw [← rx4.len]; exact e3, K σ _ Z4 _ ⟨sit, ?_, fun b z => ?_⟩ .refl⟩
    · exact o14.ext.trans st.zok (ext_at ra4 npz) (fun x z => z) (fun x z => (o14.bnd x (sub x z)).imp (fun z => ⟨rfl, z⟩) id) fun x z => st.oz x z.2
    · rcases z with z | z | z | z
      · exact o14.bnd b z.1
      · rw [z]; exact o14.bnd p (sub p ra4)
      · exact o14.bnd b (sub b z.1)
      · exact z.elim
  · rcases z with z | z | z
    · rw [z]; exact npz p ra4
    · exact npz b z.1
    · exact z.elim
  · rcases z with z | z | z
    · rw [z]; exact ra4
    · exact z.1
    · exact z.elim
end
end Bm

set_option maxHeartbeats 1000000
/-! B33: a part that reads a name alone; loops whose name is the item itself. -/
namespace Bm
open PySem PySem.Spec PyProof.Rows L2
variable [TheK]
mutual
theorem D.same_eq : ∀ (x y : D), D.same x y = true → x = y
  | .dead, .dead, _ => rfl
  | .at a, .at b, h => by simp [D.same] at h; rw [h]
  | .nd k xs, .nd k' ys, h => by
    simp [D.same] at h
    rw [h.1, sameL_eq xs ys h.2]
  | .dead, .at _, h => by simp [D.same] at h
  | .dead, .nd _ _, h => by simp [D.same] at h
  | .at _, .dead, h => by simp [D.same] at h
  | .at _, .nd _ _, h => by simp [D.same] at h
  | .nd _ _, .dead, h => by simp [D.same] at h
  | .nd _ _, .at _, h => by simp [D.same] at h
theorem sameL_eq : ∀ (xs ys : List D), sameL xs ys = true → xs = ys
  | [], [], _ => rfl
  | x :: xs, y :: ys, h => by
    simp [sameL] at h
    rw [D.same_eq x y h.1, sameL_eq xs ys h.2]
  | [], _ :: _, h => by simp [sameL] at h
  | _ :: _, [], h => by simp [sameL] at h
end
theorem cleanL_mem : ∀ {xs : List D} (_ : cleanL xs = true) {x : D} {i : Nat} (_ : xs[i]? = some x), x.clean = true
  | [], _, x, i, e => by simp at e
  | y :: ys, h, x, i, e => by
    simp [cleanL] at h
    cases i with
    | zero => simp at e; rw [← e]; exact h.1
    | succ i => exact cleanL_mem h.2 (by simpa using e)
theorem Rep.clean {H : Hp} {Z Z' : AS} {d : D} {v : V} {O : AS} (h : Rep H Z d v O) (cl : d.clean = true) : Rep H Z' d v O := by
  induction h with
  | dead v O => exact .dead v O
  | «at» a O => exact .at a O
  | nd k xs a vs O F n l f1 f2 r ih =>
    cases k with
    | tup =>
      have c : cleanL xs = true := by simpa [D.clean] using cl
      exact .nd .tup xs a vs O F n l f1 f2 fun i x v e1 e2 => ih i x v e1 e2 (cleanL_mem c e1)
    | lst m =>
      have c : m = true ∧ cleanL xs = true := by simpa [D.clean] using cl
      obtain ⟨rfl, c⟩ := c
      exact .nd (.lst true) xs a vs O F n l f1 f2 fun i x v e1 e2 => ih i x v e1 e2 (cleanL_mem c e1)
    | scr =>
      have c : cleanL xs = true := by simpa [D.clean] using cl
      exact .nd .scr xs a vs O F n l f1 f2 fun i x v e1 e2 => ih i x v e1 e2 (cleanL_mem c e1)
    | ins m C fs => simp [D.clean] at cl
theorem Rep.zsub {H : Hp} {Z Z' : AS} {d : D} {v : V} {O : AS} (h : Rep H Z d v O) (s : ∀ b, Z' b → Z b) : Rep H Z' d v O := by
  induction h with
  | dead v O => exact .dead v O
  | «at» a O => exact .at a O
  | nd k xs a vs O F n l f1 f2 r ih =>
    refine .nd k xs a vs O F ?_ l f1 f2 ih
    cases k with
    | tup => exact n
    | lst m =>
      cases m with
      | true => exact n
      | false => exact ⟨n.1, fun z => n.2 (s _ z)⟩
    | scr => exact n
    | ins m C fs =>
      cases m with
      | true => exact n
      | false => exact ⟨n.1, n.2.1, fun z => n.2.2 (s _ z)⟩
theorem RepA.clean {H : Hp} {Z Z' : AS} {xs : List D} {vs : List V} {R : AS} (h : RepA H Z xs vs R) (cl : cleanL xs = true) : RepA H Z' xs vs R := by
  obtain ⟨l, F, f1, f2, r⟩ := h
  exact ⟨l, F, f1, f2, fun i d v e1 e2 => (r i d v e1 e2).clean (cleanL_mem cl e1)⟩
theorem frz_dead {d : D} : d.frz.isDead = d.isDead := by cases d <;> rfl
/-- outside T -/
abbrev Less (O T : AS) : AS := fun b => O b ∧ ¬ T b
theorem held_is {g0 g : List D} {as ex : List Nat} (h : held g0 g as ex = true) {j : Nat} {d : D} (e : g[j]? = some d) (n : j ∉ ex) : d.clean = true ∨ (j ∉ as ∧ g0[j]? = some d ∧ d.pers = true) := by
  have hj : j < g.length := (List.getElem?_eq_some_iff.mp e).1
  have := List.all_eq_true.mp h j (List.mem_range.mpr hj)
  rw [Bool.or_eq_true, e] at this
  rcases this with q | q
  · exact absurd (by simpa using q) n
  · simp only [Bool.or_eq_true, Bool.and_eq_true] at q
    rcases q with q | ⟨q1, q2⟩
    · exact .inl q
    · refine .inr ⟨by simpa using q1, ?_⟩
      split at q2
      · rename_i x hx
        rw [Bool.and_eq_true] at q2
        obtain rfl := D.same_eq _ _ q2.2
        exact ⟨hx, q2.1⟩
      · cases q2
/-- what the name i owns is lent: to read -/
structure Lent (H : Hp) (Z O T : AS) (σ : Sg) (g : List D) (i : Nat) (t : D) : Prop where
  sub : ∀ b, T b → O b
  rep : t.isDead = true ∨ ∃ v, σ[i]? = some (some v) ∧ Rep H Z t v T
  sit : Sit H (Less Z T) σ (g.set i t.frz) (Less O T)
theorem Sit.lend {H : Hp} {Z O : AS} {σ : Sg} {g : List D} {i : Nat} {t : D} (s : Sit H Z σ g O) (e : g[i]? = some t) : ∃ T, Lent H Z O T σ g i t := by
  obtain ⟨z, oz, l, F, f1, f2, r⟩ := s
  refine ⟨F i, f1 i, r i t e, ⟨fun a h => z a h.1, fun b h => ⟨oz b h.1, h.2⟩, by simpa using l, fun j b => j ≠ i ∧ F j b, fun j b q => ⟨f1 j b q.2, fun q' => q.1 (f2 j i b q.2 q')⟩, fun a j b q q' => f2 a j b q.2 q'.2, fun j x q => ?_⟩⟩
  rcases get_set q with ⟨rfl, rfl, _⟩ | ⟨ne, q⟩
  · rcases r i t e with h | ⟨v, h1, h2⟩
    · exact .inl (by rw [frz_dead]; exact h)
    · exact .inr ⟨v, h1, (h2.frz (Less Z (F i)) fun b q => q).mono fun _ q => q.elim⟩
  · rcases r j x q with h | ⟨u, h3, h4⟩
    · exact .inl h
    · exact .inr ⟨u, h3, (h4.zsub fun b q => q.1).mono fun b q => ⟨Ne.symm ne, q⟩⟩
/-- .. and comes back -/
theorem Lent.back {H H' : Hp} {Z O T Z' O' : AS} {σ σ' : Sg} {g g1 : List D} {i : Nat} {t : D} {as : List Nat} (s : Sit H Z σ g O) (e : g[i]? = some t) (L : Lent H Z O T σ g i t) (o : Out (Wq false (Less O T)) H (Less Z T) (Less O T) σ' g1 H' Z' O') (ag : Agree as σ σ')
    (ni : i ∉ as) (h : held (g.set i t.frz) g1 as [i] = true) : Out (Wq false O) H Z O σ' (g1.set i t) H' (Or Z' T) (Or O' T) ∧ Bm.Ext (Wq false (Less O T)) H Z H' (Or Z' T) := by
  have ex : Bm.Ext (Wq false (Less O T)) H Z H' (Or Z' T) := by
    refine ⟨fun a w => s.oz a w.2.1, o.ext.same, fun a z => ?_, fun a z n => ?_⟩
    · rcases z with z | z
      · exact (o.ext.zold a z).imp (·.1) id
      · exact .inl (s.oz a (L.sub a z))
    · by_cases ta : T a
      · exact .inr ta
      · exact .inl (o.ext.zkeep a ⟨z, ta⟩ n)
  have nT : ∀ b, O' b → ¬ T b := fun b z w => (o.bnd b z).elim (fun z => z.2 w) fun q => not_Z s.zok q (s.oz b (L.sub b w))
  refine ⟨⟨?_, ⟨fun a w => s.oz a w.2, fun a u q n => ex.same a u q fun w => n ⟨rfl, w.2.1⟩, ex.zold, fun a z n => ex.zkeep a z fun w => n ⟨rfl, w.2.1⟩⟩, fun b z => z.elim (fun z => (o.bnd b z).imp (·.1) id) fun z => .inl (L.sub b z)⟩, ex⟩
  obtain ⟨z, oz, l, F, f1, f2, r⟩ := o.sit
  refine ⟨fun a q => ?_, fun b q => q.imp (oz b) id, by simpa using l, fun j b => if j = i then T b else F j b, fun j b q => ?_, fun j k b q1 q2 => ?_, fun j x q => ?_⟩
  · rcases q with q | q
    · exact z a q
    · obtain ⟨u, h1, h2⟩ := s.zok a (s.oz a (L.sub a q))
      exact ⟨u, ex.same a u h1 fun w => w.2.2 q, h2⟩
  · by_cases hj : j = i
    · simp only [hj, if_true] at q; exact .inr q
    · simp only [if_neg hj] at q; exact .inl (f1 j b q)
  · by_cases hj : j = i
    · by_cases hk : k = i
      · rw [hj, hk]
      · simp only [hj, if_true] at q1
        simp only [if_neg hk] at q2
        exact absurd q1 (nT b (f1 k b q2))
    · by_cases hk : k = i
      · simp only [hk, if_true] at q2
        simp only [if_neg hj] at q1
        exact absurd q2 (nT b (f1 j b q1))
      · simp only [if_neg hj] at q1
        simp only [if_neg hk] at q2
        exact f2 j k b q1 q2
  · rcases get_set q with ⟨rfl, rfl, _⟩ | ⟨ne, q⟩
    · rcases L.rep with hd | ⟨v, h1, h2⟩
      · exact .inl hd
      · refine .inr ⟨v, by rw [ag.at_ i ni]; exact h1, ?_⟩
        simp only [if_true]
        exact h2.ext s.zok ex fun b q w => w.2.2 q
    · rcases r j x q with hd | ⟨v, h3, h4⟩
      · exact .inl hd
      · refine .inr ⟨v, h3, ?_⟩
        simp only [if_neg (Ne.symm ne)]
        rcases held_is h q (by simpa using Ne.symm ne) with c | ⟨c1, c2, c3⟩
        · exact h4.clean c
        · rw [List.getElem?_set_ne ne] at c2
          obtain ⟨v0, h5, h6⟩ := s.get c2 (dead_pers c3)
          rw [ag.at_ j c1, h5] at h3
          cases h3
          exact ((h6.pers c3).ext s.zok ex fun _ q => q.elim).mono fun _ q => q.elim
section
variable {c : Str → List D → CRes} {X : Cx} {W : WX}
/-- a part's ends, carried back to the state ahead -/
theorem PostS.back {ns : List Nat} {σ : Sg} {H : Hp} {Z O Z0 O0 : AS} {Dd : Ends} {f : List D → Option (List D)} {r : RS} (oz : ∀ b, O b → Z b)
    (k : ∀ g1 g2 σ' H' Z' O', f g1 = some g2 → Out (Wq false O0) H Z0 O0 σ' g1 H' Z' O' → Agree ns σ σ' → ∃ (Z2 O2 T : AS), Out (Wq false O) H Z O σ' g2 H' Z2 O2 ∧ (∀ b, Z' b → Z2 b) ∧ (∀ b, O2 b → O' b ∨ T b) ∧ (∀ b, T b → O b) ∧ ∀ b, O0 b → O b ∧ ¬ T b) (zk : ZOk H Z)
    (h : PostS X W ns σ H Z O Dd (r.back f)) : PostS X W ns σ H Z0 O0 Dd r := by
  have own : ∀ {Z' O' R T Z2 O2 : AS}, (∀ b, Z' b → Z2 b) → (∀ b, O2 b → O' b ∨ T b) → (∀ b, T b → O b) → (∀ b, O0 b → O b ∧ ¬ T b) → OwnR H O0 Z' O' R → OwnR H O Z2 O2 R := fun z2 o2 t0 t1 h b z => by
    obtain ⟨h1, h2, h3⟩ := h b z
    refine ⟨z2 b h1, fun w => ?_, h3.imp (fun z => (t1 b z).1) id⟩
    rcases o2 b w with w | w
    · exact h2 w
    · rcases h3 with q | q
      · exact (t1 b q).2 w
      · exact not_Z zk q (oz b (t0 b w))
  cases r with
  | nx g =>
    unfold RS.back at h
    simp only at h
    cases e : f g with
    | none => rw [e] at h; exact h.elim
    | some g2 =>
      rw [e] at h
      intro σ' H' Z' O' o ag
      obtain ⟨Z2, O2, T, o2, _⟩ := k _ _ _ _ _ _ e o ag
      exact h σ' H' Z2 O2 o2 ag
  | bk g =>
    unfold RS.back at h
    simp only at h
    cases e : f g with
    | none => rw [e] at h; exact h.elim
    | some g2 =>
      rw [e] at h
      intro σ' H' Z' O' o ag
      obtain ⟨Z2, O2, T, o2, _⟩ := k _ _ _ _ _ _ e o ag
      exact h σ' H' Z2 O2 o2 ag
  | ct g =>
    unfold RS.back at h
    simp only at h
    cases e : f g with
    | none => rw [e] at h; exact h.elim
    | some g2 =>
      rw [e] at h
      intro σ' H' Z' O' o ag
      obtain ⟨Z2, O2, T, o2, _⟩ := k _ _ _ _ _ _ e o ag
      exact h σ' H' Z2 O2 o2 ag
  | rt d g =>
    unfold RS.back at h
    simp only at h
    split at h
    · rename_i cl
      cases e : f g with
      | none => rw [e] at h; exact h.elim
      | some g2 =>
        rw [e] at h
        intro v σ' H' Z' O' R o ag rd ow
        obtain ⟨Z2, O2, T, o2, z2, p2, t0, t1⟩ := k _ _ _ _ _ _ e o ag
        exact h v σ' H' Z2 O2 R o2 ag (rd.clean cl) (own z2 p2 t0 t1 ow)
    · exact h.elim
  | ex x g =>
    unfold RS.back at h
    simp only at h
    split at h
    · rename_i cl
      cases e : f g with
      | none => rw [e] at h; exact h.elim
      | some g2 =>
        rw [e] at h
        intro cls dd σ' H' Z' O' R o ag ea hr
        obtain ⟨Z2, O2, T, o2, z2, p2, t0, t1⟩ := k _ _ _ _ _ _ e o ag
        obtain ⟨ca, d, fs, h1, h2, h3, h4, h5⟩ := ea
        exact h cls dd σ' H' Z2 O2 R o2 ag ⟨ca, d, fs, h1, h2, h3, h4, h5.clean cl⟩ (own z2 p2 t0 t1 hr)
    · exact h.elim
  | no => exact h
theorem unpeek_is {g g1 g2 : List D} {as : List Nat} {i : Nat} {t : D} (h : unpeek g as i t g1 = some g2) : i ∉ as ∧ g1[i]? = some t.frz ∧ held g g1 as [i] = true ∧ g2 = g1.set i t := by
  unfold unpeek at h
  split at h
  · rename_i cc
    simp only [Bool.and_eq_true] at cc
    cases h
    refine ⟨by simpa using cc.1.1, ?_, cc.2, rfl⟩
    have := cc.1.2
    unfold sameO at this
    split at this
    · rename_i x y h1 h2
      cases h2
      rw [h1, D.same_eq _ _ this]
    · cases this
  · cases h
theorem sem_peek {i : Nat} {b : S} {t : TS} (h : SemS c X W b t) : SemS c X W (.peek i b) t := fun σ H Z g O Dd st q => by
  have q : PostS X W (asgS b) σ H Z O Dd (match g[i]? with
    | some t => (sden c b (g.set i t.frz)).back (unpeek (g.set i t.frz) (asgS b) i t)
    | none => .no) := q
  cases e : g[i]? with
  | none => rw [e] at q; exact q.elim
  | some t0 =>
    rw [e] at q
    obtain ⟨T, L⟩ := st.lend e
    refine h σ H (Less Z T) (g.set i t0.frz) (Less O T) Dd L.sit (PostS.back st.oz (fun g1 g2 σ' H' Z' O' ef o ag => ?_) st.zok q)
    obtain ⟨ni, h1, h2, rfl⟩ := unpeek_is ef
    obtain ⟨o2, _⟩ := L.back st e o ag ni h2
    exact ⟨_, _, T, o2, fun b z => .inl z, fun b z => z, L.sub, fun b z => z⟩
end
section
variable {c : Str → List D → CRes} {X : Cx} {W : WX}
theorem out_give {H H' : Hp} {Z O : AS} {σ' : Sg} (st : ZOk H Z) (oz : ∀ b, O b → Z b) : ∀ {is : List Nat} {g' : List D} {Z' O' : AS}, Out (Wq false O) H Z O σ' g' H' Z' O' → ∃ Z2 O2, Out (Wq false O) H Z O σ' (giveUp g' is) H' Z2 O2
  | [], g', Z', O', o => ⟨Z', O', o⟩
  | i :: is, g', Z', O', o => by
    unfold giveUp
    cases e : g'[i]? with
    | none => exact out_give st oz o
    | some d =>
      obtain ⟨T, L⟩ := o.sit.lend e
      refine out_give (Z' := Less Z' T) (O' := Less O' T) st oz ⟨L.sit, ⟨o.ext.wz, o.ext.same, fun a z => o.ext.zold a z.1, fun a z n => ⟨o.ext.zkeep a z n, fun t => ?_⟩⟩, fun b z => o.bnd b z.1⟩
      rcases o.bnd a (L.sub a t) with q | q
      · exact n ⟨rfl, q⟩
      · exact not_Z st q z
theorem sem_gift {is : List Nat} {a : S} {t : TS} (h : SemS c X W a t) : SemS c X W (.gift is a) t := fun σ H Z g O Dd st q => h σ H Z g O Dd st (by
  have q : PostS X W (asgS a) σ H Z O Dd (match sden c a g with
    | .nx g => .nx (giveUp g is)
    | r => r) := q
  cases e : sden c a g with
  | nx g1 =>
    rw [e] at q
    intro σ1 H1 Z1 O1 o1 ag
    obtain ⟨Z2, O2, o2⟩ := out_give (is := is) st.zok st.oz o1
    exact q σ1 H1 Z2 O2 o2 ag
  | ct g1 => rw [e] at q; exact q
  | bk g1 => rw [e] at q; exact q
  | rt d g1 => rw [e] at q; exact q
  | ex x g1 => rw [e] at q; exact q
  | no => rw [e] at q; exact q)
end
/-! ### paths -/
theorem VAt.put {H : Hp} {v u : V} {d : D} {p : List Nat} (h : VAt H v d p u) (q : List Nat) (y : D) : VAt H v (setP d (p ++ q) y) p u := by
  induction h with
  | nil v d => exact .nil v _
  | lst a vs xs n p x w u e1 e2 e3 _ ih =>
    have hn : n < xs.length := (List.getElem?_eq_some_iff.mp e2).1
    simp only [List.cons_append, setP, e2]
    exact .lst a vs _ n p _ w u e1 (by rw [List.getElem?_set_self hn]) e3 ih
  | tup a vs xs n p x w u e1 e2 e3 _ ih =>
    have hn : n < xs.length := (List.getElem?_eq_some_iff.mp e2).1
    simp only [List.cons_append, setP, e2]
    exact .tup a vs _ n p _ w u e1 (by rw [List.getElem?_set_self hn]) e3 ih
theorem VAt.ext {H H' : Hp} {Z Z' W : AS} {v u : V} {d : D} {p : List Nat} (h : VAt H v d p u) : ∀ {O : AS}, Rep H Z d v O → ZOk H Z → Bm.Ext W H Z H' Z' → (∀ b, O b → ¬ W b) → VAt H' v d p u := by
  induction h with
  | nil v d => exact fun _ _ _ _ => .nil v _
  | lst a vs xs n p x w u e1 e2 e3 _ ih =>
    intro O r zk e dj
    cases r with
    | nd _ _ _ vs2 _ F nd l f1 f2 rr =>
      obtain rfl : vs = vs2 := by
        have := nd.1
        rw [e1] at this
        injection this with this
        injection this
      exact .lst a vs xs n p x w u (e.same a _ e1 (dj a nd.2)) e2 e3 (ih (rr n x w e2 e3) zk e fun b z => dj b (subO_sub (f1 n b z)))
  | tup a vs xs n p x w u e1 e2 e3 _ ih =>
    intro O r zk e dj
    cases r with
    | nd _ _ _ vs2 _ F nd l f1 f2 rr =>
      obtain rfl : vs = vs2 := by
        have := nd
        unfold Node at this
        simp only at this
        rw [e1] at this
        injection this with this
        injection this
      refine .tup a vs xs n p x w u (e.same a _ e1 fun z => ?_) e2 e3 (ih (rr n x w e2 e3) zk e fun b z => dj b (subO_sub (f1 n b z)))
      exact no_mut zk e1 (fun z => z) (e.wz a z)
theorem getP_put {p : List Nat} : ∀ {d : D} {xs : List D}, getP d p = some (.lst true xs) → ∀ {k : Nat} {y : D}, k < xs.length → getP (setP d (p ++ [k]) y) p = some (.lst true (xs.set k y)) := by
  induction p with
  | nil =>
    intro d xs h k y hk
    simp only [getP] at h
    cases h
    simp only [List.nil_append, setP, List.getElem?_eq_getElem hk, getP]
  | cons n p ih =>
    intro d xs h k y hk
    cases d with
    | nd kd ys =>
      simp only [getP] at h
      cases e : ys[n]? with
      | none => rw [e] at h; cases h
      | some x =>
        rw [e] at h
        have hn : n < ys.length := (List.getElem?_eq_some_iff.mp e).1
        simp only [List.cons_append, setP, e, getP, List.getElem?_set_self hn]
        exact ih h hk
    | dead => simp [getP] at h
    | «at» a => simp [getP] at h
theorem getP_app {p : List Nat} : ∀ {d : D} {xs : List D}, getP d p = some (.lst true xs) → ∀ {k : Nat}, getP d (p ++ [k]) = xs[k]? := by
  induction p with
  | nil =>
    intro d xs h k
    simp only [getP] at h
    cases h
    simp only [List.nil_append, getP]
    cases xs[k]? <;> rfl
  | cons n p ih =>
    intro d xs h k
    cases d with
    | nd kd ys =>
      simp only [getP, List.cons_append] at h ⊢
      cases e : ys[n]? with
      | none => rw [e] at h; cases h
      | some x =>
        rw [e] at h
        exact ih h
    | dead => simp [getP] at h
    | «at» a => simp [getP] at h
/-- behind a turn -/
structure Turned (H : Hp) (Z O : AS) (σ2 : Sg) (T Z0 O0 : AS) (i x : Nat) (p : List Nat) (k : Nat) (xs : List D) (ad : Addr) (t : D) (g1 : List D) : Prop where
  out : ∀ as g3 g4 σ3 H3 Z3 O3, unhole g1 as i x (p ++ [k]) t g3 = some g4 → Out (Wq false O0) H Z0 O0 σ3 g3 H3 Z3 O3 → Agree as σ2 σ3 → ∃ O4, Out (Wq false O) H Z O σ3 g4 H3 (Or Z3 T) O4 ∧ (∀ b, O4 b → O3 b ∨ T b) ∧ PAt H3 σ3 g4 i p (.ref ad) ∧ ∃ y, getG g4 i p = some (.lst true (xs.set k y))
def setV (σ : Sg) (o : Option Nat) (v : V) : Sg := match o with
  | some i => σ.set i (some v)
  | none => σ
theorem unhole_is {g g3 g4 : List D} {as : List Nat} {i x : Nat} {p : List Nat} {t : D} (h : unhole g as i x p t g3 = some g4) : i ∉ as ∧ x ∉ as ∧ held g g3 as [i] = true ∧ ∃ d, g3[x]? = some d ∧ d.isDead = false ∧ g4 = setG ((g3.set i t).set x .dead) i p d := by
  unfold unhole at h
  split at h
  · rename_i cc
    simp only [Bool.and_eq_true] at cc
    split at h
    · rename_i d hd
      split at h
      · cases h
      · rename_i nd
        cases h
        exact ⟨by simpa using cc.1.1.1, by simpa using cc.1.1.2, cc.2, d, hd, by simpa using nd, rfl⟩
    · cases h
  · cases h
theorem hole_in {H : Hp} {Z O : AS} {σ : Sg} {g g1 : List D} {ko : Option Nat} {i x k : Nat} {p : List Nat} {ad : Addr} {t : D} (st : Sit H Z σ g O) (pa : PAt H σ g i p (.ref ad)) (hh : hole g ko i x p k = some (t, g1)) (ok : okR ko i x = true) (hx : x < g.length) (hko : ∀ j, ko = some j → j < g.length) :
    ∃ xs vs v T, getG g i p = some (.lst true xs) ∧ H ad = some (.lst vs) ∧ xs.length = vs.length ∧ k < xs.length ∧ vs[k]? = some v ∧ (∀ b, T b → O b) ∧
      Sit H (Less Z T) ((setV σ ko (.int (k : Int))).set x (some v)) g1 (Less O T) ∧ (∃ gC, Sit H Z ((setV σ ko (.int (k : Int))).set x (some v)) gC O) ∧ Turned H Z O ((setV σ ko (.int (k : Int))).set x (some v)) T (Less Z T) (Less O T) i x p k xs ad t g1 := by
  unfold hole at hh
  split at hh
  case h_2 => cases hh
  rename_i xs hxs
  split at hh
  case h_2 => cases hh
  rename_i d hd
  split at hh
  · cases hh
  rename_i nd
  have nd : d.isDead = false := by simpa using nd
  split at hh
  case h_2 => cases hh
  rename_i t' ht
  cases hh
  have hk : k < xs.length := (List.getElem?_eq_some_iff.mp hd).1
  have oix : i ≠ x := by
    unfold okR at ok
    rw [Bool.and_eq_true] at ok
    exact of_decide_eq_true ok.1
  have oko : ∀ j, ko = some j → j ≠ i ∧ j ≠ x := fun j e => by
    subst e
    unfold okR at ok
    simp only [Bool.and_eq_true, decide_eq_true_eq] at ok
    exact ok.2
  -- the list, the item
  obtain ⟨_, _, rl, _⟩ := st.focus pa hxs fun _ => rfl
  obtain ⟨ad', vs, ea, hh, ra, _⟩ := rep_lst rl
  cases ea
  obtain ⟨v, hv, _⟩ := ra.get hd
  obtain ⟨d0, hd0, hp0⟩ : ∃ d0, g[i]? = some d0 ∧ getP d0 p = some (.lst true xs) := by
    unfold getG at hxs
    split at hxs
    · rename_i d0 hd0; exact ⟨d0, hd0, hxs⟩
    · cases hxs
  have hi : i < g.length := (List.getElem?_eq_some_iff.mp hd0).1
  obtain ⟨v0, hv0, _, hva⟩ := pa
  have va0 : VAt H v0 d0 p (.ref ad) := hva d0 hd0
  have vak : VAt H v0 d0 (p ++ [k]) v := va0.append hp0 k (.lst ad vs xs k [] d v v hh hd hv (.nil _ _))
  have pak : PAt H σ g i (p ++ [k]) v := ⟨v0, hv0, fun e => by simp at e, fun d' e => by rw [hd0] at e; cases e; exact vak⟩
  have gk : getG g i (p ++ [k]) = some d := by
    unfold getG
    rw [hd0]
    simp only
    rw [getP_app hp0, hd]
  obtain ⟨R, sub, rd, back⟩ := st.focus pak gk fun e => by simp at e
  have sB : Sit H Z σ (setG g i (p ++ [k]) .dead) (fun b => (O b ∧ ¬ R b) ∨ none_ b) := back H Z .dead none_ st.zok (.refl fun b z => st.oz b (sub b z)) (fun _ z => z.elim) (.dead v none_)
  have hset : setG g i (p ++ [k]) .dead = g.set i (setP d0 (p ++ [k]) .dead) := by unfold setG; rw [hd0]
  have lenB : (setG g i (p ++ [k]) .dead).length = g.length := by rw [hset]; simp
  have et : t = setP d0 (p ++ [k]) .dead := by
    rw [hset, List.getElem?_set_self hi] at ht
    exact (Option.some.inj ht).symm
  -- the names that are set
  have sK : ∃ Ok, Sit H Z (setV σ ko (.int (k : Int))) (setO (setG g i (p ++ [k]) .dead) ko (.int (k : Int))) Ok ∧ ∀ b, Ok b → O b ∧ ¬ R b := by
    cases ko with
    | none => exact ⟨_, sB, fun b z => z.elim id fun z => z.elim⟩
    | some j => exact ⟨_, sit_asg sB (by rw [lenB]; exact hko j rfl) (.at (.int (k : Int)) none_) (fun _ z => z.elim), fun b z => z.elim (fun z => z.elim id fun z => z.elim) fun z => z.elim⟩
  obtain ⟨Ok, sK, hOk⟩ := sK
  have lenK : (setO (setG g i (p ++ [k]) .dead) ko (.int (k : Int))).length = g.length := by
    rw [← lenB]
    cases ko <;> simp [setO]
  have sC := sit_asg (i := x) sK (by rw [lenK]; exact hx) rd fun b z => ⟨st.oz b (sub b z), fun w => (hOk b w).2 z⟩
  have sC : Sit H Z ((setV σ ko (.int (k : Int))).set x (some v)) ((setO (setG g i (p ++ [k]) .dead) ko (.int (k : Int))).set x d) O := sC.mono (fun b z => z.elim (fun z => (hOk b z).1) (sub b)) st.oz
  have eC : ((setO (setG g i (p ++ [k]) .dead) ko (.int (k : Int))).set x d)[i]? = some t := by
    rw [List.getElem?_set_ne (Ne.symm oix)]
    cases ko with
    | none => exact ht
    | some j =>
      show ((setG g i (p ++ [k]) .dead).set j _)[i]? = some t
      rw [List.getElem?_set_ne (oko j rfl).1]
      exact ht
  obtain ⟨T, L⟩ := sC.lend eC
  refine ⟨xs, vs, v, T, hxs, hh, ra.len, hk, hv, L.sub, L.sit, ⟨_, sC⟩, ⟨fun as g3 g4 σ3 H3 Z3 O3 hu o ag => ?_⟩⟩
  obtain ⟨ni, nx, hheld, y, hy, ny, rfl⟩ := unhole_is hu
  obtain ⟨oD, exD⟩ := L.back sC eC o ag ni hheld
  -- x's value goes out of x
  have hy2 : (g3.set i t)[x]? = some y := by rw [List.getElem?_set_ne oix]; exact hy
  obtain ⟨v', Ry, Oy, h1, ry, sE, hRy, hOy⟩ := oD.sit.take hy2 ny
  have hxl : x < σ.length := by rw [st.len]; exact hx
  have lσ : (setV σ ko (.int (k : Int))).length = σ.length := by cases ko <;> simp [setV]
  rw [ag.at_ x nx, List.getElem?_set_self (by rw [lσ]; exact hxl)] at h1
  obtain rfl : v = v' := by injection h1 with h1; injection h1
  -- the place
  have hσi : σ3[i]? = some (some v0) := by
    rw [ag.at_ i ni, List.getElem?_set_ne (Ne.symm oix)]
    cases ko with
    | none => exact hv0
    | some j =>
      show (σ.set j _)[i]? = _
      rw [List.getElem?_set_ne (oko j rfl).1]
      exact hv0
  have g3i : i < g3.length := by
    have l1 := oD.sit.len
    have l2 := sC.len
    have l3 := ag.len
    simp only [List.length_set] at l1 l2
    rw [← l1, l3]
    simp only [List.length_set]
    rw [lσ, st.len]
    exact hi
  have rt : Rep H Z t v0 T := by
    rcases L.rep with q | ⟨w, q1, q2⟩
    · exfalso
      rw [et] at q
      cases d0 with
      | dead => cases p <;> simp [getP] at hp0
      | «at» a => cases p <;> simp [getP] at hp0
      | nd kd ys =>
        cases p with
        | nil =>
          simp only [List.nil_append, setP] at q
          split at q <;> cases q
        | cons n p =>
          simp only [List.cons_append, setP] at q
          split at q <;> cases q
    · have : ((setV σ ko (.int (k : Int))).set x (some v))[i]? = some (some v0) := by rw [← ag.at_ i ni]; exact hσi
      rw [this] at q1
      cases q1
      exact q2
  have va1 : VAt H3 v0 t (p ++ [k]) v := VAt.ext (by rw [et]; have := vak.put [] .dead; rwa [List.append_nil] at this) rt st.zok exD fun b z w => w.2.2 z
  have va2 : VAt H3 v0 t p (.ref ad) := VAt.ext (by rw [et]; exact va0.put [k] .dead) rt st.zok exD fun b z w => w.2.2 z
  have gt : getP t p = some (.lst true (xs.set k .dead)) := by rw [et]; exact getP_put hp0 hk
  have gE : ((g3.set i t).set x .dead)[i]? = some t := by rw [List.getElem?_set_ne (Ne.symm oix), List.getElem?_set_self g3i]
  have paE : PAt H3 σ3 ((g3.set i t).set x .dead) i (p ++ [k]) v := ⟨v0, hσi, fun e => by simp at e, fun d' e => by rw [gE] at e; cases e; exact va1⟩
  have ggE : getG ((g3.set i t).set x .dead) i (p ++ [k]) = some .dead := by
    unfold getG
    rw [gE]
    simp only
    rw [getP_app gt, List.getElem?_set_self hk]
  obtain ⟨R2, sub2, _, back2⟩ := sE.focus paE ggE fun e => by simp at e
  have sF := back2 H3 (Or Z3 T) y Ry sE.zok (.refl fun b z => sE.oz b (sub2 b z)) (fun b z => ⟨oD.sit.oz b (hRy b z).1, fun w => absurd w (hRy b z).2⟩) ry
  have e4 : setG ((g3.set i t).set x .dead) i (p ++ [k]) y = ((g3.set i t).set x .dead).set i (setP t (p ++ [k]) y) := by unfold setG; rw [gE]
  have l4 : i < ((g3.set i t).set x .dead).length := by simpa using g3i
  have bO : ∀ b, ((Oy b ∧ ¬ R2 b) ∨ Ry b) → O3 b ∨ T b := fun b z => z.elim (fun z => hOy b z.1) fun z => (hRy b z).1
  refine ⟨_, ⟨sF, oD.ext, fun b z => oD.bnd b (bO b z)⟩, bO, ⟨v0, hσi, fun e => ?_, fun d' e => ?_⟩, y, ?_⟩
  · subst e
    exact va0.nil_eq
  · rw [e4, List.getElem?_set_self l4] at e
    cases e
    exact va2.put [k] y
  · unfold getG
    rw [e4, List.getElem?_set_self l4]
    simp only
    rw [getP_put gt (by simpa using hk), List.set_set]
/-! ### the loop -/
section
variable {c : Str → List D → CRes} {X : Cx} {W : WX}
def ForRI (X : Cx) (W : WX) (ns : List Nat) (ko : Option Nat) (i x : Nat) (p : List Nat) (as : List Nat) (B : List D → RS) (σ : Sg) (H : Hp) (Z O : AS) (Dd : Ends) (ad : Addr) (k m : Nat) (σ' : Sg) (H' : Hp) : Prop :=
  ∃ Z' g' O' xs, Out (Wq false O) H Z O σ' g' H' Z' O' ∧ Agree ns σ σ' ∧ PAt H' σ' g' i p (.ref ad) ∧ getG g' i p = some (.lst true xs) ∧ xs.length = k + m ∧ PostS X W ns σ H Z O Dd (forRGo ko i x p as B m k g')
theorem setV_agree {σ : Sg} {ko : Option Nat} {x : Nat} {u v : V} : Agree (ko.toList ++ [x]) σ ((setV σ ko u).set x (some v)) := by
  refine ⟨by cases ko <;> simp [setV], fun j hj => ?_⟩
  have hx : j ≠ x := fun e => hj (by simp [e])
  rw [List.getElem?_set_ne (Ne.symm hx)]
  cases ko with
  | none => rfl
  | some k =>
    show (σ.set k _)[j]? = _
    rw [List.getElem?_set_ne]
    exact fun e => hj (by simp [e])
theorem forR_turn {ns as : List Nat} {ko : Option Nat} {i x : Nat} {p : List Nat} {b : S} {tb : TS} {σ : Sg} {H : Hp} {Z O : AS} {g : List D} {Dd : Ends} {ad : Addr} {k m : Nat} {σ' : Sg} {H' : Hp} (st : Sit H Z σ g O) (sb : SemS c X W b tb) (has : as = asgS b)
    (hns : ∀ j, j ∈ ko.toList ++ [x] → j ∈ ns) (hnb : ∀ j, j ∈ asgS b → j ∈ ns) (ok : okR ko i x = true) (hx : x < σ.length) (hko : ∀ j, ko = some j → j < σ.length) (h : ForRI X W ns ko i x p as (sden c b) σ H Z O Dd ad k m σ' H') :
    ∃ vs, H' ad = some (.lst vs) ∧ ((vs.length ≤ k ∧ Dd.nx σ' H') ∨ ∃ m', m = m' + 1 ∧ k < vs.length ∧ ∀ H2 v, vs[k]? = some v → (∀ Z', ZOk H' Z' → ZOk H2 Z' ∧ Bm.Ext none_ H' Z' H2 Z') →
      tb { Dd with nx := ForRI X W ns ko i x p as (sden c b) σ H Z O Dd ad (k + 1) m', ct := ForRI X W ns ko i x p as (sden c b) σ H Z O Dd ad (k + 1) m', bk := Dd.nx } ((setV σ' ko (.int (k : Int))).set x (some v)) H2) := by
  obtain ⟨Z2, g2, O2, xs, o2, ag2, pa2, hx2, len, kk⟩ := h
  obtain ⟨_, _, rl, _⟩ := o2.sit.focus pa2 hx2 fun _ => rfl
  obtain ⟨_, vs, ea, hh, ra, _⟩ := rep_lst rl
  cases ea
  refine ⟨vs, hh, ?_⟩
  have hl : xs.length = vs.length := ra.len
  cases m with
  | zero => exact .inl ⟨by omega, kk σ' H' Z2 O2 o2 ag2⟩
  | succ m =>
    refine .inr ⟨m, rfl, by omega, fun H2 v hv hext => ?_⟩
    obtain ⟨zk3, ex3⟩ := hext Z2 o2.sit.zok
    have st3 : Sit H2 Z2 σ' g2 O2 := o2.sit.ext0 zk3 ex3
    have pa3 : PAt H2 σ' g2 i p (.ref ad) := by
      obtain ⟨v0, h0, h1, h2⟩ := pa2
      exact ⟨v0, h0, h1, fun d e => (h2 d e).le fun a o q => ex3.same a o q fun z => z⟩
    have gl : g2.length = σ.length := by rw [← o2.sit.len, ag2.len]
    unfold forRGo at kk
    cases e : hole g2 ko i x p k with
    | none => rw [e] at kk; exact kk.elim
    | some r =>
      obtain ⟨t, g3⟩ := r
      rw [e] at kk
      simp only at kk
      obtain ⟨xs', vs', v', T, h1, h2, h3, h4, h5, h6, h7, ⟨gC, h8⟩, h9⟩ := hole_in st3 pa3 e ok (by rw [gl]; exact hx) (fun j q => by rw [gl]; exact hko j q)
      rw [hx2] at h1
      cases h1
      have := ex3.same ad _ hh fun z => z
      rw [this] at h2
      cases h2
      rw [hv] at h5
      cases h5
      have o4 : Out (Wq false O) H Z O ((setV σ' ko (.int (k : Int))).set x (some v)) gC H2 Z2 O2 := ⟨h8, o2.ext.trans st.zok ex3 (fun _ z => z) (fun _ z => z.elim) fun x z => st.oz x z.2, o2.bnd⟩
      have ag4 : Agree ns σ ((setV σ' ko (.int (k : Int))).set x (some v)) := ag2.trans setV_agree (fun j q => q) hns
      subst has
      refine sb _ H2 (Less Z2 T) g3 (Less O2 T) _ h7 ?_
      have glue : ∀ {σ3 : Sg} {g4 : List D} {H3 : Hp} {Z3 O4 : AS}, Out (Wq false O2) H2 Z2 O2 σ3 g4 H3 (Or Z3 T) O4 → Agree (asgS b) ((setV σ' ko (.int (k : Int))).set x (some v)) σ3 → Out (Wq false O) H Z O σ3 g4 H3 (Or Z3 T) O4 ∧ Agree ns σ σ3 := fun o5 ag =>
        ⟨Out.glue st.zok st.oz (fun _ z => z) o4 (fun b z => o4.bnd b z) o5, ag4.trans ag (fun j q => q) hnb⟩
      have own : ∀ {Z3 O3 R O4 : AS}, (∀ b, O4 b → O3 b ∨ T b) → OwnR H2 (Less O2 T) Z3 O3 R → OwnR H O (Or Z3 T) O4 R := fun p4 ow b z => by
        obtain ⟨w1, w2, w3⟩ := ow b z
        refine ⟨.inl w1, fun w => ?_, w3.elim (fun q => o4.bnd b q.1) fun q => o4.bnd' (fun _ z => z.2) (.inr q)⟩
        rcases p4 b w with w | w
        · exact w2 w
        · rcases w3 with q | q
          · exact q.2 w
          · exact not_Z zk3 q (st3.oz b (h6 b w))
      cases eb : sden c b g3 with
      | nx g =>
        rw [eb] at kk
        unfold RS.back at kk
        simp only at kk
        cases ef : unhole g3 (asgS b) i x (p ++ [k]) t g with
        | none => rw [ef] at kk; exact kk.elim
        | some g4 =>
          rw [ef] at kk
          intro σ3 H3 Z3 O3 o ag
          obtain ⟨O4, o5, p5, pa5, y, hy⟩ := h9.out _ _ _ _ _ _ _ ef o ag
          obtain ⟨o6, ag6⟩ := glue o5 ag
          exact ⟨_, g4, O4, _, o6, ag6, pa5, hy, by simp; omega, kk⟩
      | ct g =>
        rw [eb] at kk
        unfold RS.back at kk
        simp only at kk
        cases ef : unhole g3 (asgS b) i x (p ++ [k]) t g with
        | none => rw [ef] at kk; exact kk.elim
        | some g4 =>
          rw [ef] at kk
          intro σ3 H3 Z3 O3 o ag
          obtain ⟨O4, o5, p5, pa5, y, hy⟩ := h9.out _ _ _ _ _ _ _ ef o ag
          obtain ⟨o6, ag6⟩ := glue o5 ag
          exact ⟨_, g4, O4, _, o6, ag6, pa5, hy, by simp; omega, kk⟩
      | bk g =>
        rw [eb] at kk
        unfold RS.back at kk
        simp only at kk
        cases ef : unhole g3 (asgS b) i x (p ++ [k]) t g with
        | none => rw [ef] at kk; exact kk.elim
        | some g4 =>
          rw [ef] at kk
          intro σ3 H3 Z3 O3 o ag
          obtain ⟨O4, o5, p5, pa5, y, hy⟩ := h9.out _ _ _ _ _ _ _ ef o ag
          obtain ⟨o6, ag6⟩ := glue o5 ag
          exact kk σ3 H3 _ O4 o6 ag6
      | rt d g =>
        rw [eb] at kk
        unfold RS.back at kk
        simp only at kk
        by_cases cl : d.clean = true
        case neg => rw [if_neg cl] at kk; exact kk.elim
        rw [if_pos cl] at kk
        cases ef : unhole g3 (asgS b) i x (p ++ [k]) t g with
        | none => rw [ef] at kk; exact kk.elim
        | some g4 =>
          rw [ef] at kk
          intro u σ3 H3 Z3 O3 R o ag rd ow
          obtain ⟨O4, o5, p5, pa5, y, hy⟩ := h9.out _ _ _ _ _ _ _ ef o ag
          obtain ⟨o6, ag6⟩ := glue o5 ag
          exact kk u σ3 H3 _ O4 R o6 ag6 (rd.clean cl) (own p5 ow)
      | ex ee g =>
        rw [eb] at kk
        unfold RS.back at kk
        simp only at kk
        by_cases cl : cleanL ee.fs = true
        case neg => rw [if_neg cl] at kk; exact kk.elim
        rw [if_pos cl] at kk
        cases ef : unhole g3 (asgS b) i x (p ++ [k]) t g with
        | none => rw [ef] at kk; exact kk.elim
        | some g4 =>
          rw [ef] at kk
          intro cls dd σ3 H3 Z3 O3 R o ag ea hr
          obtain ⟨O4, o5, p5, pa5, y, hy⟩ := h9.out _ _ _ _ _ _ _ ef o ag
          obtain ⟨o6, ag6⟩ := glue o5 ag
          obtain ⟨ca, d, fs, q1, q2, q3, q4, q5⟩ := ea
          exact kk cls dd σ3 H3 _ O4 R o6 ag6 ⟨ca, d, fs, q1, q2, q3, q4, q5.clean cl⟩ (own p5 hr)
      | no => rw [eb] at kk; exact kk.elim
theorem forR_go {ko : Option Nat} {x : Nat} {a : E} {b : S} {ns : List Nat} {σ : Sg} {H : Hp} {Z O : AS} {g : List D} {Dd : Ends} (st : Sit H Z σ g O) (q : PostS X W ns σ H Z O Dd (sden c (.forR ko x a b) g)) :
    PR (Xp X W σ H Z O) ((den c a).plc g) fun q g1 => okR ko q.1 x = true ∧ x < g1.length ∧ (∀ j, ko = some j → j < g1.length) ∧ ∃ xs, getG g1 q.1 q.2 = some (.lst true xs) ∧ PostS X W ns σ H Z O Dd (forRGo ko q.1 x q.2 (asgS b) (sden c b) xs.length 0 g1) := by
  have q : PostS X W ns σ H Z O Dd (((den c a).plc g).st fun q g => if (okR ko q.1 x && quiet a && decide (x < g.length) && (ko.toList.all fun i => decide (i < g.length))) = true ∧ isOwnL (getG g q.1 q.2) = true
      then forRGo ko q.1 x q.2 (asgS b) (sden c b) (lenR g q.1 q.2) 0 g else .no) := q
  refine ((PostS.st st.oz q).xp st.oz).mono (fun _ _ z => z) fun q g1 _ k => ?_
  split at k
  case isFalse => exact k.elim
  rename_i cc
  obtain ⟨c1, c2⟩ := cc
  simp only [Bool.and_eq_true, decide_eq_true_eq] at c1
  obtain ⟨xs, hxs⟩ := own_is c2
  refine ⟨c1.1.1.1, c1.1.2, fun j e => ?_, xs, hxs, ?_⟩
  · have := c1.2
    subst e
    simpa using this
  · have e : lenR g1 q.1 q.2 = xs.length := by unfold lenR; rw [hxs]
    rw [e] at k
    exact k
theorem s1_forR {x : Nat} {y : Str} {py : Pos} {a : E} {b : S} {e : Expr} {body : List Stmt} {p : Pos} (hp : PassesOwn (model X.prog X.w) X.A X.env X.xe) (hc : X.calm = true) (hN : X.N.Nodup) (hi : X.N[x]? = some y) (hx : Loc X.env.scope y) (hf : X.fn y = true ∨ X.env.scope.names.lookup y = some .local)
    (ha : SndP c X W a e) (hb : SndS c X W b body) (hs : ∀ v, foldedSetIterable e X.env v = pure v) : Snd1 c X W (.forR none x a b) (.For (.Name y py) e body [] p) := by
  obtain ⟨ta, pa, sa⟩ := ha
  obtain ⟨tb, pb, sb⟩ := hb
  refine ⟨_, ps_for hp hc (pi_list pa) (pg_name hN hi hx hf) pb hs, fun σ H Z g O Dd st q => sa σ H Z g O _ st ?_⟩
  refine (forR_go st q).mono (fun _ _ z => z) fun q g1 _ k va H1 Z1 O1 o1 pat _ => ?_
  obtain ⟨ok, hxl, _, xs, hxs, k⟩ := k
  obtain ⟨_, _, rl, _⟩ := o1.sit.focus pat hxs fun _ => rfl
  obtain ⟨ad, vs, rfl, hh, ra, _⟩ := rep_lst rl
  have lg : g1.length = σ.length := o1.sit.len.symm
  refine ⟨ad, rfl, ⟨vs, SqL.of hh⟩, ForRI X W (asgS (.forR none x a b)) none q.1 x q.2 (asgS b) (sden c b) σ H Z O Dd ad, ⟨xs.length, Z1, g1, O1, xs, o1.weak st fun _ => rfl, .refl, pat, hxs, by omega, k⟩, fun kk m σ' H' h => ?_⟩
  obtain ⟨vs, h1, h2⟩ := forR_turn st sb rfl (fun j q => by simp [asgS] at q ⊢; exact .inl q) (fun j q => by simp [asgS, q]) ok (by rw [← lg]; exact hxl) (fun j e => by cases e) h
  rcases h2 with ⟨h2, h3⟩ | ⟨m', rfl, h2, h3⟩
  · exact .inl ⟨⟨vs, SqL.of h1, h2⟩, h3⟩
  · refine .inr ⟨⟨vs, vs[kk], SqL.of h1, by simp [h2]⟩, ForRI X W (asgS (.forR none x a b)) none q.1 x q.2 (asgS b) (sden c b) σ H Z O Dd ad (kk + 1) m', fun σ2 H2 h => ⟨m', Nat.lt_succ_self _, h⟩, fun v H2 y => ?_⟩
    obtain ⟨rfl, y⟩ := y
    exact h3 H2 v (y vs (SqL.of h1)) fun Z' zk => ⟨zk, ext_refl0⟩
theorem ext_tup {H : Hp} {Z : AS} {a : Addr} {vs : List V} (zk : ZOk H Z) (h : H a = none) : ZOk (upd H a (.tup vs)) Z ∧ Bm.Ext none_ H Z (upd H a (.tup vs)) Z := by
  have ne : ∀ b, H b ≠ none → b ≠ a := fun b q e => q (by rw [e]; exact h)
  refine ⟨fun b z => ?_, fun _ z => z.elim, fun b o q _ => ?_, fun b z => .inl z, fun b z _ => z⟩
  · obtain ⟨o, h1, h2⟩ := zk b z
    exact ⟨o, by rw [upd_ne (ne b (by rw [h1]; simp))]; exact h1, h2⟩
  · rw [upd_ne (ne b (by rw [q]; simp))]
    exact q
theorem s1_forRe {j x : Nat} {z y : Str} {pz py tp ep cp : Pos} {kt : Nat} {a : E} {b : S} {e : Expr} {body : List Stmt} {p : Pos} (hp : PassesOwn (model X.prog X.w) X.A X.env X.xe) (hc : X.calm = true) (hN : X.N.Nodup) (hg : Gl X "enumerate") (hm : X.mg "enumerate" = none)
    (hj : X.N[j]? = some z) (hzl : Loc X.env.scope z) (hzf : X.fn z = true ∨ X.env.scope.names.lookup z = some .local) (hi : X.N[x]? = some y) (hx : Loc X.env.scope y) (hf : X.fn y = true ∨ X.env.scope.names.lookup y = some .local)
    (ha : SndP c X W a e) (pl : plainE e = true) (hb : SndS c X W b body) : Snd1 c X W (.forR (some j) x a b) (.For (.Tuple [.Name z pz, .Name y py] kt tp) (.Call (.Name "enumerate" ep) [e] [] cp) body [] p) := by
  obtain ⟨ta, pa, sa⟩ := ha
  obtain ⟨tb, pb, sb⟩ := hb
  refine ⟨_, ps_for hp hc (pi_enum hg hm (pa_cons pa pa_nil (plain_star pl _ _)) (plain_is pl _)) (pg_tup (n := 2) hc (pgs_cons (pg_name hN hj hzl hzf) (pgs_cons (pg_name hN hi hx hf) pgs_nil))) pb, fun σ H Z g O Dd st q => sa σ H Z g O _ st ?_⟩
  refine (forR_go st q).mono (fun _ _ z => z) fun q g1 _ k va H1 Z1 O1 o1 pat _ => ?_
  obtain ⟨ok, hxl, hkl, xs, hxs, k⟩ := k
  obtain ⟨_, _, rl, _⟩ := o1.sit.focus pat hxs fun _ => rfl
  obtain ⟨ad, vs, rfl, hh, ra, _⟩ := rep_lst rl
  have lg : g1.length = σ.length := o1.sit.len.symm
  refine ⟨ad, vs, rfl, SqL.of hh, ForRI X W (asgS (.forR (some j) x a b)) (some j) q.1 x q.2 (asgS b) (sden c b) σ H Z O Dd ad, ⟨xs.length, Z1, g1, O1, xs, o1.weak st fun _ => rfl, .refl, pat, hxs, by omega, k⟩, fun kk m σ' H' h => ?_⟩
  obtain ⟨vs, h1, h2⟩ := forR_turn st sb rfl (fun l q => by simp [asgS] at q ⊢; exact q.elim .inl fun q => .inr (.inl q)) (fun l q => by simp [asgS, q]) ok (by rw [← lg]; exact hxl) (fun l e => by rw [← lg]; exact hkl l e) h
  rcases h2 with ⟨h2, h3⟩ | ⟨m', rfl, h2, h3⟩
  · exact .inl ⟨⟨vs, SqL.of h1, h2⟩, h3⟩
  · refine .inr ⟨⟨vs, vs[kk], SqL.of h1, by simp [h2]⟩, ForRI X W (asgS (.forR (some j) x a b)) (some j) q.1 x q.2 (asgS b) (sden c b) σ H Z O Dd ad (kk + 1) m', fun σ2 H2 h => ⟨m', Nat.lt_succ_self _, h⟩, fun v H2 y => ?_⟩
    obtain ⟨T, u, rfl, hT, rfl, y⟩ := y
    exact ⟨T, _, rfl, SqT.of upd_same, rfl, _, _, rfl, _, _, rfl, rfl, h3 _ u (y vs (SqL.of h1)) fun Z' zk => ext_tup zk hT⟩
end
end Bm

set_option maxHeartbeats 1000000
/-! B34: several names that are stored at once. -/
namespace Bm
open PySem PySem.Spec PyProof.Rows L2
variable [TheK]
def isStar : Expr → Bool
  | .Starred _ _ => true
  | _ => false
def sameLine (sc : Scope) (line : Nat) : Expr → Option Str
  | .Name id pos => if sc.names.lookup id == some .local && pos.line == line then some id else none
  | _ => none
/-- which stores of a tuple's parts are done without a tuple -/
def swapC (sc : Scope) (tg x : Expr) : Option (Option (List Str)) := match tg, x with
  | .Tuple ts _ _, .Tuple vs _ _ =>
    if (!(ts.length == 2 || ts.length == 3) || vs.length != ts.length) = true then some none
    else if vs.any isStar = true then some none
    else if ((ts.filterMap (sameLine sc ((ts.head?.map (·.pos.line)).getD 0))).length != ts.length || (ts.filterMap (sameLine sc ((ts.head?.map (·.pos.line)).getD 0))).eraseDups.length != (ts.filterMap (sameLine sc ((ts.head?.map (·.pos.line)).getD 0))).length) = true then some none
    else if vs.all (foldedForSure 8) = true then some none
    else if vs.all (constantsAlone 8) = true then none
    else some (some (ts.filterMap (sameLine sc ((ts.head?.map (·.pos.line)).getD 0))))
  | .List _ _, .Tuple _ _ _ => none
  | _, _ => some none
theorem swapC_is {env : Env} {tg x : Expr} {r : Option (List Str)} (fk : env.scope.kind = .function) (h : swapC env.scope tg x = some r) : swappedStores [tg] x env = pure r := by
  have bk : env.blockKind = .function := by
    unfold Env.blockKind
    rw [fk]
    rfl
  unfold swapC at h
  split at h
  · rename_i ts _ _ vs _ _
    unfold swappedStores
    simp only [bk, bne_self_eq_false, Bool.or_false]
    generalize hn : ts.filterMap (sameLine env.scope ((ts.head?.map (·.pos.line)).getD 0)) = names at h
    have e : ∀ (A B C : Sem (Option (List Str))), (if (!(ts.length == 2 || ts.length == 3) || vs.length != ts.length) = true then A else if vs.any isStar = true then A else if (names.length != ts.length || names.eraseDups.length != names.length) = true then A else if vs.all (foldedForSure 8) = true then A else if vs.all (constantsAlone 8) = true then B else C) =
      (if (!(ts.length == 2 || ts.length == 3) || vs.length != ts.length) = true then A else if vs.any isStar = true then A else if ((ts.filterMap (sameLine env.scope ((ts.head?.map (·.pos.line)).getD 0))).length != ts.length || (ts.filterMap (sameLine env.scope ((ts.head?.map (·.pos.line)).getD 0))).eraseDups.length != (ts.filterMap (sameLine env.scope ((ts.head?.map (·.pos.line)).getD 0))).length) = true then A else if vs.all (foldedForSure 8) = true then A else if vs.all (constantsAlone 8) = true then B else C) := fun A B C => by rw [hn]
    refine Eq.trans ?_ (?_ : (if (!(ts.length == 2 || ts.length == 3) || vs.length != ts.length) = true then pure none else if vs.any isStar = true then pure none else if (names.length != ts.length || names.eraseDups.length != names.length) = true then pure none else if vs.all (foldedForSure 8) = true then pure none else if vs.all (constantsAlone 8) = true then (do unsupported "assign.tuple-of-constant-expressions:order-of-the-stores"; pure (some names)) else (pure (some names) : Sem (Option (List Str)))) = pure r)
    · subst hn
      rfl
    · split at h
      · rename_i c1; rw [if_pos c1]; cases h; rfl
      rename_i c1
      rw [if_neg c1]
      split at h
      · rename_i c1; rw [if_pos c1]; cases h; rfl
      rename_i c1
      rw [if_neg c1]
      split at h
      · rename_i c1; rw [if_pos c1]; cases h; rfl
      rename_i c1
      rw [if_neg c1]
      split at h
      · rename_i c1; rw [if_pos c1]; cases h; rfl
      rename_i c1
      rw [if_neg c1]
      split at h
      · cases h
      rename_i c1
      rw [if_neg c1]
      cases h; rfl
  · cases h
  · rename_i n1 n2
    cases h
    unfold swappedStores
    cases tg <;> first | rfl | (cases x <;> first | rfl | (exact absurd rfl (n1 _ _ _ _ _ _ rfl)) | (exact absurd rfl (n2 _ _ _ _ _ rfl)))
section
variable {c : Str → List D → CRes} {X : Cx} {W : WX}
theorem all_own : ∀ {xs : List VD} {ds : List D}, allOwn xs = some ds → xs = ds.map fun d => (d, false)
  | [], ds, h => by simp only [allOwn] at h; cases h; rfl
  | (d, l) :: r, ds, h => by
    simp only [allOwn] at h
    split at h
    · rename_i hl
      obtain ⟨ds', h1, h2⟩ := Option.map_eq_some_iff.mp h
      subst h2
      rw [all_own h1, hl]
      rfl
    · cases h
theorem par_parts {is : List Nat} {es : E} {ns : List Nat} {σ : Sg} {H : Hp} {Z O : AS} {g : List D} {Dd : Ends} (st : Sit H Z σ g O) (q : PostS X W ns σ H Z O Dd (sden c (.par is es) g)) :
    PR (Xp X W σ H Z O) ((den c es).lst g) fun xs g1 => ∃ ds, xs = ds.map (fun d => (d, false)) ∧ ds.length = is.length ∧ (∀ i, i ∈ is → i < g1.length) ∧ PostS X W ns σ H Z O Dd (.nx (setAll g1 is ds)) := by
  have q : PostS X W ns σ H Z O Dd (((den c es).lst g).st fun xs g => (match allOwn xs with
    | some ds => if ds.length = is.length ∧ (is.all fun i => decide (i < g.length)) = true then .nx (setAll g is ds) else .no
    | none => .no)) := q
  refine ((PostS.st st.oz q).xp st.oz).mono (fun _ _ z => z) fun xs g1 _ k => ?_
  split at k
  · rename_i ds hd
    split at k
    · rename_i cc
      exact ⟨ds, all_own hd, cc.1, fun i hi => by simpa using List.all_eq_true.mp cc.2 i hi, k⟩
    · exact k.elim
  · exact k.elim
theorem s1_par2 {i j : Nat} {m : E} {x y : Str} {a b : Expr} {px py pt pos : Pos} {kt k2 : Nat} {pt2 : Pos} (hc : X.calm = true) (hN : X.N.Nodup) (hi : X.N[i]? = some x) (hj : X.N[j]? = some y) (hij : i ≠ j)
    (hx : X.env.scope.names.lookup x = some .local) (hy : X.env.scope.names.lookup y = some .local) (ha : SndL c X W m [a, b])
    (hw : swappedStores [.Tuple [.Name x px, .Name y py] kt pt] (.Tuple [a, b] k2 pt2) X.env = pure (some [x, y])) : Snd1 c X W (.par [i, j] m) (.Assign [.Tuple [.Name x px, .Name y py] kt pt] (.Tuple [a, b] k2 pt2) pos) := by
  obtain ⟨t, pa, sa⟩ := ha
  refine ⟨_, ps_par hc hN hi hj hij hx hy pa hw, fun σ H Z g O Dd st q => sa σ H Z g O _ st ?_⟩
  refine (par_parts st q).mono (fun _ _ z => z) fun xs g1 _ k vs H1 Z1 O1 F o1 vl => ?_
  obtain ⟨ds, rfl, hl, hg, k⟩ := k
  match ds, hl with
  | [d0, d1], _ =>
    have vlen := vl.len
    match vs, vlen with
    | [v0, v1], _ =>
      have r0 : Rep H1 Z1 d0 v0 (F 0) := by simpa using vl.rep 0 (d0, false) v0 rfl rfl
      have r1 : Rep H1 Z1 d1 v1 (F 1) := by simpa using vl.rep 1 (d1, false) v1 rfl rfl
      have s1 := sit_asg (i := i) o1.sit (hg i (by simp)) r0 fun b z => ⟨(vl.fz 0 b z).1, (vl.fz 0 b z).2.1⟩
      have s2 := sit_asg (i := j) s1 (by simpa using hg j (by simp)) r1 fun b z => ⟨(vl.fz 1 b z).1, fun w => w.elim (vl.fz 1 b z).2.1 fun w => absurd (vl.dj 0 1 b w z) (by decide)⟩
      refine ⟨v0, v1, rfl, k _ H1 Z1 _ ⟨s2, (o1.weak st fun _ => rfl).ext, fun b z => ?_⟩ ⟨by simp, fun l hl => ?_⟩⟩
      · rcases z with (z | z) | z
        · exact o1.bnd b z
        · exact (vl.fz 0 b z).2.2
        · exact (vl.fz 1 b z).2.2
      · have n1 : l ≠ i := fun e => hl (by simp [asgS, e])
        have n2 : l ≠ j := fun e => hl (by simp [asgS, e])
        rw [List.getElem?_set_ne (Ne.symm n2), List.getElem?_set_ne (Ne.symm n1)]
theorem s1_par3 {i j l : Nat} {m : E} {x y z : Str} {a b d : Expr} {px py pz pt pos : Pos} {kt k2 : Nat} {pt2 : Pos} (hc : X.calm = true) (hN : X.N.Nodup) (hi : X.N[i]? = some x) (hj : X.N[j]? = some y) (hl : X.N[l]? = some z) (hij : i ≠ j) (hil : i ≠ l) (hjl : j ≠ l)
    (hx : X.env.scope.names.lookup x = some .local) (hy : X.env.scope.names.lookup y = some .local) (hz : X.env.scope.names.lookup z = some .local) (ha : SndL c X W m [a, b, d])
    (hw : swappedStores [.Tuple [.Name x px, .Name y py, .Name z pz] kt pt] (.Tuple [a, b, d] k2 pt2) X.env = pure (some [x, y, z])) : Snd1 c X W (.par [i, j, l] m) (.Assign [.Tuple [.Name x px, .Name y py, .Name z pz] kt pt] (.Tuple [a, b, d] k2 pt2) pos) := by
  obtain ⟨t, pa, sa⟩ := ha
  refine ⟨_, ps_par3 hc hN hi hj hl hij hil hjl hx hy hz pa hw, fun σ H Z g O Dd st q => sa σ H Z g O _ st ?_⟩
  refine (par_parts st q).mono (fun _ _ z => z) fun xs g1 _ k vs H1 Z1 O1 F o1 vl => ?_
  obtain ⟨ds, rfl, hlen, hg, k⟩ := k
  match ds, hlen with
  | [d0, d1, d2], _ =>
    have vlen := vl.len
    match vs, vlen with
    | [v0, v1, v2], _ =>
      have r0 : Rep H1 Z1 d0 v0 (F 0) := by simpa using vl.rep 0 (d0, false) v0 rfl rfl
      have r1 : Rep H1 Z1 d1 v1 (F 1) := by simpa using vl.rep 1 (d1, false) v1 rfl rfl
      have r2 : Rep H1 Z1 d2 v2 (F 2) := by simpa using vl.rep 2 (d2, false) v2 rfl rfl
      have s1 := sit_asg (i := i) o1.sit (hg i (by simp)) r0 fun b z => ⟨(vl.fz 0 b z).1, (vl.fz 0 b z).2.1⟩
      have s2 := sit_asg (i := j) s1 (by simpa using hg j (by simp)) r1 fun b z => ⟨(vl.fz 1 b z).1, fun w => w.elim (vl.fz 1 b z).2.1 fun w => absurd (vl.dj 0 1 b w z) (by decide)⟩
      have s3 := sit_asg (i := l) s2 (by simpa using hg l (by simp)) r2 fun b z => ⟨(vl.fz 2 b z).1, fun w => w.elim (fun w => w.elim (vl.fz 2 b z).2.1 fun w => absurd (vl.dj 0 2 b w z) (by decide)) fun w => absurd (vl.dj 1 2 b w z) (by decide)⟩
      refine ⟨v0, v1, v2, rfl, k _ H1 Z1 _ ⟨s3, (o1.weak st fun _ => rfl).ext, fun b z => ?_⟩ ⟨by simp, fun n hn => ?_⟩⟩
      · rcases z with ((z | z) | z) | z
        · exact o1.bnd b z
        · exact (vl.fz 0 b z).2.2
        · exact (vl.fz 1 b z).2.2
        · exact (vl.fz 2 b z).2.2
      · have n1 : n ≠ i := fun e => hn (by simp [asgS, e])
        have n2 : n ≠ j := fun e => hn (by simp [asgS, e])
        have n3 : n ≠ l := fun e => hn (by simp [asgS, e])
        rw [List.getElem?_set_ne (Ne.symm n3), List.getElem?_set_ne (Ne.symm n2), List.getElem?_set_ne (Ne.symm n1)]
end
end Bm

set_option maxHeartbeats 1000000
/-! B35: comprehensions of two loops. -/
namespace Bm
open PySem PySem.Spec PyProof.Rows L2
variable [TheK]
section
variable {c : Str → List D → CRes} {X : Cx} {W : WX}
def tiI (c : Str → List D → CRes) (m : E) : TI := fun σ H R => ∃ Z g O, Sit H Z σ g O ∧ PR nox ((den c m).itr g) (fun src g' => ∀ J H' Z' O' I Ro, Out (Wq (quiet m) O) H Z O σ g' H' Z' O' → ISrc J src I → I 0 σ H' Z' Ro → OwnR H O Z' O' Ro → R J H')
theorem pi_tiI {m : E} {tg iter : Expr} (h : SndI c X W tg m iter) : PI X tg iter (tiI c m) := by
  obtain ⟨t, p, s⟩ := h
  exact ⟨fun pins sh σ H Q I ⟨Z, g, O, st, q⟩ => p.run pins sh σ H Q I (s σ H Z g O Q st q.any)⟩
structure CompI2 (c : Str → List D → CRes) (elt tg tst tg1 it1 tst1 : E) (own own1 : List Nat) (src : Src) (I : IT) (σw : Sg) (H0 : Hp) (Z0 O0 : AS) (D0 : Addr) (K : List D → List D → Hp → Prop) (i n : Nat) (H : Hp) (Z : AS) (g : List D) (O Ro RA : AS) (acc : List V) (ys : List D) : Prop where
  sit : Sit H Z σw g O
  ext : Bm.Ext (Wq false O0) H0 Z0 H Z
  bnd : ∀ b, O b → O0 b ∨ H0 b = none
  it : I i σw H Z Ro
  ro : ∀ b, Ro b → Z b ∧ ¬ O b
  ra : ∀ b, RA b → Z b ∧ ¬ O b
  dz : Z D0 ∧ ¬ O D0
  dn : O0 D0 ∨ H0 D0 = none
  sep : (∀ b, Ro b → ¬ RA b) ∧ ¬ Ro D0 ∧ ¬ RA D0
  bnds : ∀ b, Ro b ∨ RA b → O0 b ∨ H0 b = none
  hd : H D0 = some (.lst acc)
  rep : RepA H Z ys acc RA
  go : PR nox (compGo2 (den c tg) (den c tst) (den c elt) (den c tg1) (den c tst1) (den c it1).itr own own1 src n i g) fun rest g' => (ys ++ rest).length ≤ sizeLine ∧ ∀ H' Z' O' RA', Sit H' Z' σw g' O' → Bm.Ext (Wq false O0) H0 Z0 H' Z' → (∀ b, O' b → O0 b ∨ H0 b = none) →
    Rep H' Z' (.lst true (ys ++ rest)) (.ref D0) RA' → (∀ b, RA' b → Z' b ∧ ¬ O' b ∧ (O0 b ∨ H0 b = none)) → K (ys ++ rest) g' H'
theorem comp2_step {elt tg tst tg1 it1 tst1 : E} {own own1 : List Nat} {src : Src} {I : IT} {σw : Sg} {H0 : Hp} {Z0 O0 : AS} {D0 : Addr} {K : List D → List D → Hp → Prop} {J : It} (is : ISrc J src I) (zk0 : ZOk H0 Z0) (oz0 : ∀ b, O0 b → Z0 b) (tgo : ∀ i, i ∈ asgE tg → i ∈ own) (tgo1 : ∀ i, i ∈ asgE tg1 → i ∈ own1) (hv : ∀ i, i ∈ own1 → i ∈ own) (hw : L2.wipe σw own = σw)
    {i n : Nat} {H : Hp} {Z O Ro RA : AS} {g : List D} {acc : List V} {ys : List D} (C : CompI2 c elt tg tst tg1 it1 tst1 own own1 src I σw H0 Z0 O0 D0 K i n H Z g O Ro RA acc ys) :
    (J.stop i H ∧ ∃ rest g', K rest g' H) ∨ (J.go i H ∧ ∃ n', n = n' + 1 ∧ ∀ (Nx : Hp → Prop), (Nx = fun H => ∃ Z g O Ro RA acc ys, CompI2 c elt tg tst tg1 it1 tst1 own own1 src I σw H0 Z0 O0 D0 K (i + 1) n' H Z g O Ro RA acc ys) → ∀ x H', J.yld i H x H' → tgG c tg x σw H' fun σ2 H2 => L2.wipe σ2 own = σw ∧ ttT c tst σ2 H2 fun b H3 =>
      if b = true then tiI c it1 σ2 H3 fun J1 H4 => ∃ W1 : Nat → Nat → Hp → Prop, (∃ m, W1 0 m H4) ∧ ∀ j k H, W1 j k H →
        (J1.stop j H ∧ Nx H) ∨ (J1.go j H ∧ ∃ Nx1 : Hp → Prop, (∀ H', Nx1 H' → ∃ k', k' < k ∧ W1 (j + 1) k' H') ∧ ∀ x H', J1.yld j H x H' → tgG c tg1 x (L2.wipe σ2 own1) H' fun σ3 H5 => L2.wipe σ3 own1 = L2.wipe σ2 own1 ∧ ttT c tst1 σ3 H5 fun b H6 =>
          if b = true then teV c elt σ3 H6 fun y H7 => ∃ acc, H7 D0 = some (.lst acc) ∧ acc.length < sizeLine ∧ Nx1 (upd H7 D0 (.lst (acc ++ [y]))) else Nx1 H6)
      else Nx H3) := by
  obtain ⟨sit, ext, bnd, it, ro, ra, dz, hD0, sep, bnds, hd, rep, go⟩ := C
  unfold compGo2 at go
  cases e : src.at g i with
  | none => rw [e] at go; exact go.elim
  | some r =>
    rw [e] at go
    cases r with
    | none =>
      refine .inl ⟨is.stop i σw H Z Ro g O it sit e, ys ++ [], g, ?_⟩
      have go : (ys ++ []).length ≤ sizeLine ∧ _ := go
      refine go.2 H Z O (fun b => b = D0 ∨ RA b) sit ext bnd ?_ fun b z => ?_
      · rw [List.append_nil]
        exact mk_lst hd rep fun b z e => sep.2.2 (by rw [← e]; exact z)
      · rcases z with z | z
        · rw [z]; exact ⟨dz.1, dz.2, hD0⟩
        · exact ⟨(ra b z).1, (ra b z).2, bnds b (.inr z)⟩
    | some d =>
      refine .inr ⟨is.go i σw H Z Ro g O d it sit e, ?_⟩
      cases n with
      | zero => exact go.elim
      | succ n' =>
        refine ⟨n', rfl, fun Nx hNx x H1 y => ?_⟩
        obtain ⟨zk1, ex1, Rd, Ro', rd, it1', hRd, hRo⟩ := is.yld i σw H Z Ro g O d x H1 it sit e y
        have go := PR.bind go
        -- behind the turn
        have s1 : Sit H1 Z σw g O := sit.ext0 zk1 ex1
        have e01 : Bm.Ext (Wq false O0) H0 Z0 H1 Z := ext_go zk0 oz0 ext ex1 fun _ z => z.elim
        have hd1 : H1 D0 = some (.lst acc) := ex1.same D0 _ hd fun z => z
        have rep1 : RepA H1 Z ys acc RA := rep.ext sit.zok ex1 fun _ _ z => z
        have P1 : ∀ b, Or O Rd b → Z b := fun b z => z.elim (s1.oz b) fun z => (ro b (hRd b z).1).1
        refine ⟨Z, g, O, d, Rd, s1, rd, fun b z => ro b (hRd b z).1, go.mono (fun _ _ z => z) fun _ g2 _ go σ2 H2 Z2 O2 o2 ag => ?_⟩
        have hσ2 : L2.wipe σ2 own = σw := by
          have := wipe_same (σ := σw) (σ2 := σ2) (vs := own) ag.len fun i hi => by rw [ag.at_ i fun z => hi (tgo i z), hw]
          rw [this, hw]
        have r2 : ∀ b, RA b → Z b ∧ ¬ Or O Rd b := fun b z => ⟨(ra b z).1, fun w => w.elim (ra b z).2 fun w => sep.1 b (hRd b w).1 z⟩
        have i2 : ∀ b, Ro' b → Z b ∧ ¬ Or O Rd b := fun b z => ⟨(ro b (hRo b z)).1, fun w => w.elim (ro b (hRo b z)).2 fun w => (hRd b w).2 z⟩
        have d2 : ∀ b, b = D0 → Z b ∧ ¬ Or O Rd b := fun b z => by rw [z]; exact ⟨dz.1, fun w => w.elim dz.2 fun w => sep.2.1 (hRd D0 w).1⟩
        have e02 : Bm.Ext (Wq false O0) H0 Z0 H2 Z2 := ext_go zk0 oz0 e01 o2.ext fun b z => z.2.elim (bnd b) fun z => bnds b (.inl (hRd b z).1)
        have bnd2 : ∀ b, O2 b → O0 b ∨ H0 b = none := fun b z => (o2.bnd b z).elim (fun z => z.elim (bnd b) fun z => bnds b (.inl (hRd b z).1)) fun z => ext_new0 e01 z
        obtain ⟨r2', n2⟩ := o2.keep zk1 r2
        obtain ⟨i2', m2⟩ := o2.keep zk1 i2
        obtain ⟨d2', k2⟩ := o2.keep zk1 d2
        have rep2 : RepA H2 Z2 ys acc RA := rep1.ext zk1 o2.ext n2
        have it2 : I (i + 1) σw H2 Z2 Ro' := is.st.ext _ _ _ _ _ _ _ _ _ it1' zk1 o2.ext m2 fun _ _ => rfl
        have hd2 : H2 D0 = some (.lst acc) := o2.ext.same D0 _ hd1 (k2 D0 rfl)
        have go := PR.bind go
        refine ⟨hσ2, Z2, g2, O2, o2.sit, go.mono (fun _ _ z => z) fun b g3 _ go H3 Z3 O3 o3 => ?_⟩
        obtain ⟨r3', n3⟩ := o3.keep o2.sit.zok r2'
        obtain ⟨i3', m3⟩ := o3.keep o2.sit.zok i2'
        obtain ⟨d3', k3⟩ := o3.keep o2.sit.zok d2'
        have rep3 : RepA H3 Z3 ys acc RA := rep2.ext o2.sit.zok o3.ext n3
        have it3 : I (i + 1) σw H3 Z3 Ro' := is.st.ext _ _ _ _ _ _ _ _ _ it2 o2.sit.zok o3.ext m3 fun _ _ => rfl
        have hd3 : H3 D0 = some (.lst acc) := o3.ext.same D0 _ hd2 (k3 D0 rfl)
        have e03 : Bm.Ext (Wq false O0) H0 Z0 H3 Z3 := ext_go zk0 oz0 e02 o3.ext fun b z => bnd2 b z.2
        have bnd3 : ∀ b, O3 b → O0 b ∨ H0 b = none := fun b z => (o3.bnd b z).elim (bnd2 b) fun z => ext_new0 e02 z
        have sep' : (∀ b, Ro' b → ¬ RA b) ∧ ¬ Ro' D0 ∧ ¬ RA D0 := ⟨fun b z => sep.1 b (hRo b z), fun z => sep.2.1 (hRo D0 z), sep.2.2⟩
        have bnds' : ∀ b, Ro' b ∨ RA b → O0 b ∨ H0 b = none := fun b z => bnds b (z.imp (hRo b) id)
        cases b with
        | false =>
          rw [if_neg Bool.false_ne_true] at go ⊢
          rw [hNx]
          refine ⟨Z3, Bm.wipe g3 own, O3, Ro', RA, acc, ys, ?_, e03, bnd3, it3, i3', r3', d3' D0 rfl, hD0, sep', bnds', hd3, rep3, go⟩
          rw [← hσ2]
          exact sit_wipe o3.sit own
        | true =>
          rw [if_pos rfl] at go ⊢
          have go := PR.bind go
          refine ⟨Z3, g3, O3, o3.sit, go.mono (fun _ _ z => z) fun src1 g4 _ go J1 H4 Z4 O4 I1 Ro1 o4 is1 i1 ow1 => ?_⟩
          split at go
          case isFalse => exact go.elim
          rename_i hn1
          obtain ⟨r4', n4⟩ := o4.keep o3.sit.zok r3'
          obtain ⟨i4', m4⟩ := o4.keep o3.sit.zok i3'
          obtain ⟨d4', k4⟩ := o4.keep o3.sit.zok d3'
          have rep4 : RepA H4 Z4 ys acc RA := rep3.ext o3.sit.zok o4.ext n4
          have it4 : I (i + 1) σw H4 Z4 Ro' := is.st.ext _ _ _ _ _ _ _ _ _ it3 o3.sit.zok o4.ext m4 fun _ _ => rfl
          have hd4 : H4 D0 = some (.lst acc) := o4.ext.same D0 _ hd3 (k4 D0 rfl)
          have e04 : Bm.Ext (Wq false O0) H0 Z0 H4 Z4 := ext_go zk0 oz0 e03 o4.ext fun b z => bnd3 b z.2
          have bnd4 : ∀ b, O4 b → O0 b ∨ H0 b = none := fun b z => (o4.bnd b z).elim (bnd3 b) fun z => ext_new0 e03 z
          have a1 : ∀ b, Ro1 b → ¬ RA b := apart o3.sit.zok (fun b z => (ow1 b z).2.2) r3'
          have a2 : ∀ b, Ro1 b → ¬ Ro' b := apart o3.sit.zok (fun b z => (ow1 b z).2.2) i3'
          have a3 : ∀ b, Ro1 b → ¬ b = D0 := apart o3.sit.zok (fun b z => (ow1 b z).2.2) d3'
          let O0i : AS := fun b => O4 b ∨ Ro1 b ∨ RA b ∨ b = D0
          have oi0 : ∀ b, O0i b → Z4 b := fun b z => by
            rcases z with z | z | z | z
            · exact o4.sit.oz b z
            · exact (ow1 b z).1
            · exact (r4' b z).1
            · rw [z]; exact (d4' D0 rfl).1
          have oib : ∀ b, O0i b → O0 b ∨ H0 b = none := fun b z => by
            rcases z with z | z | z | z
            · exact bnd4 b z
            · exact (ow1 b z).2.2.elim (bnd3 b) fun z => ext_new0 e03 z
            · exact bnds' b (.inr z)
            · rw [z]; exact hD0
          have ni : ∀ b, Ro' b → ¬ O0i b := fun b z w => by
            rcases w with w | w | w | w
            · exact (i4' b z).2 w
            · exact a2 b w z
            · exact sep'.1 b z w
            · exact sep'.2.1 (by rw [← w]; exact z)
          have hw1 : L2.wipe (L2.wipe σ2 own1) own1 = L2.wipe σ2 own1 := wipe_same (by rw [wipe_length]) fun i hi => rfl
          have hw2 : L2.wipe (L2.wipe σ2 own1) own = σw := by
            rw [← hσ2]
            refine wipe_same (by rw [wipe_length]) fun i hi => ?_
            rw [wipe_get, wipe_get, if_neg hi, if_neg fun z => hi (hv i z)]
          have init : CompI c elt tg1 tst1 own1 src1 I1 (L2.wipe σ2 own1) H4 Z4 O0i D0 (fun _ _ H => Nx H) 0 (src1.len g4) H4 Z4 (Bm.wipe g4 own1) O4 Ro1 RA acc ys := by
            refine ⟨sit_wipe o4.sit own1, .refl fun b z => oi0 b z.2, fun b z => .inl (.inl z), ?_, fun b z => ⟨(ow1 b z).1, (ow1 b z).2.1⟩, r4', d4' D0 rfl, .inl (.inr (.inr (.inr rfl))), ⟨a1, fun z => a3 D0 z rfl, sep'.2.2⟩, fun b z => z.elim (fun z => .inl (.inr (.inl z))) fun z => .inl (.inr (.inr (.inl z))), hd4, rep4, ?_⟩
            · refine is1.st.ext 0 σ2 (L2.wipe σ2 own1) _ _ _ _ _ none_ i1 o4.sit.zok ext_refl0 (fun _ _ z => z) fun i hi => ?_
              have := List.all_eq_true.mp hn1 i hi
              rw [wipe_get, if_neg (by simpa using this)]
            · refine (PR.bind go).mono (fun _ _ z => z) fun ys' g5 _ go => ?_
              have go := PR.bind go
              obtain ⟨zs, g6, ez, go2⟩ := go.ok
              refine ⟨?_, fun H' Z' O' RA' sit' ext' bnd' rep' ho => ?_⟩
              · have := (show (ys ++ (ys' ++ zs)).length ≤ sizeLine from go2.1)
                simp at this ⊢
                omega
              obtain ⟨vs, hvs, rD, rA⟩ := rep_lstM rep'
              rw [hNx]
              have nZ4 : ∀ b, Z4 b → H4 b ≠ none := fun b z q => not_Z o4.sit.zok q z
              refine ⟨Z', Bm.wipe g5 own, O', Ro', _, vs, ys ++ ys', ?_, ext_go zk0 oz0 e04 ext' fun b z => oib b z.2, fun b z => (bnd' b z).elim (oib b) fun z => ext_new0 e04 z, ?_, fun b z => ⟨ext'.zkeep b (i4' b z).1 fun w => ni b z w.2, fun w => (bnd' b w).elim (ni b z) (nZ4 b (i4' b z).1)⟩, fun b z => ⟨(ho b z.1).1, (ho b z.1).2.1⟩, ⟨(ho D0 rD).1, (ho D0 rD).2.1⟩, hD0, ⟨fun b z w => (ho b w.1).2.2.elim (ni b z) (nZ4 b (i4' b z).1), sep'.2.1, fun w => w.2 rfl⟩, fun b z => ?_, hvs, rA, ?_⟩
              · rw [← hw2]
                exact sit_wipe sit' own
              · exact is.st.ext _ _ _ _ _ _ _ _ _ it4 o4.sit.zok ext' (fun b z w => ni b z w.2) fun _ _ => rfl
              · rcases z with z | z
                · exact bnds' b (.inl z)
                · exact (ho b z.1).2.2.elim (oib b) fun z => ext_new0 e04 z
              · refine go.mono (fun _ _ z => z) fun zs g' _ k => ?_
                have k : (ys ++ (ys' ++ zs)).length ≤ sizeLine ∧ _ := k
                rw [← List.append_assoc] at k
                exact k
          refine ⟨fun j k H => ∃ Z g O Ro RA acc ys, CompI c elt tg1 tst1 own1 src1 I1 (L2.wipe σ2 own1) H4 Z4 O0i D0 (fun _ _ H => Nx H) j k H Z g O Ro RA acc ys, ⟨_, _, _, _, _, _, _, _, init⟩, ?_⟩
          rintro j k H5 ⟨Z5, g5, O5, Ro5, RA5, acc5, ys5, C5⟩
          rcases comp_step is1 o4.sit.zok oi0 tgo1 hw1 C5 with ⟨h1, _, _, h2⟩ | ⟨h1, k', rfl, h2⟩
          · exact .inl ⟨h1, h2⟩
          · exact .inr ⟨h1, fun H' => ∃ Z g O Ro' RA acc ys, CompI c elt tg1 tst1 own1 src1 I1 (L2.wipe σ2 own1) H4 Z4 O0i D0 (fun _ _ H => Nx H) (j + 1) k' H' Z g O Ro' RA acc ys, fun H' h => ⟨k', Nat.lt_succ_self _, h⟩, h2⟩
theorem comp2_sem {elt tg it tst tg1 it1 tst1 : E} {own own1 : List Nat} {etg eit : Expr} (hi : SndI c X W etg it eit) (tgo : ∀ i, i ∈ asgE tg → i ∈ own) (tgo1 : ∀ i, i ∈ asgE tg1 → i ∈ own1) (hv : ∀ i, i ∈ own1 → i ∈ own) : ∃ wi, PI X etg eit wi ∧ ∀ σ H Z g O Q, Sit H Z σ g O →
    PR (Xp X W σ H Z O) ((den c (.comp2 elt tg it tst tg1 it1 tst1 own own1)).val g) (fun x g' => ∀ v H' Z' O' R, Out (Wq false O) H Z O σ g' H' Z' O' → Val H O H' Z' O' σ (.comp2 elt tg it tst tg1 it1 tst1 own own1) x v R → Q v H') →
    tLc2 wi (tgG c tg) (ttT c tst) (tiI c it1) (tgG c tg1) (ttT c tst1) (teV c elt) own own1 σ H Q := by
  obtain ⟨wi, pi, si⟩ := hi
  refine ⟨wi, pi, fun σ H Z g O Q s q => si σ H Z g O _ s ?_⟩
  have q : PR (Xp X W σ H Z O) (((den c it).itr g).bind fun s g0 =>
    if (s.names.all fun i => !own.contains i) = true then (compGo2 (den c tg) (den c tst) (den c elt) (den c tg1) (den c tst1) (den c it1).itr own own1 s (s.len g0) 0 (Bm.wipe g0 own)).noex.bind fun ys g => if ys.length ≤ sizeLine then .ok ((D.lst true ys, false) : VD) (rest g0 g own) else .no
    else .no) _ := q
  refine (PR.bind q).mono (fun _ _ z => z) fun src g0 _ q J H1 Z1 O1 I Ro o1 is i0 ow1 D hD => ?_
  split at q
  case isFalse => exact q.elim
  rename_i hn
  have q := (PR.bind q).noex
  have nZ : ¬ Z1 D := not_Z o1.sit.zok hD
  have hw : L2.wipe (L2.wipe σ own) own = L2.wipe σ own := wipe_same (by rw [wipe_length]) fun i hi => rfl
  have oz0 : ∀ b, Or O1 Ro b → Z1 b := fun b z => z.elim (o1.sit.oz b) fun z => (ow1 b z).1
  have bw : ∀ b, Or O1 Ro b → O b ∨ H b = none := fun b z => z.elim (o1.bnd b) fun z => (ow1 b z).2.2
  have zkN := zok_newO (o := .lst []) o1.sit.zok hD trivial
  have exN : Bm.Ext none_ H1 Z1 (upd H1 D (.lst [])) (Zn Z1 D) := ext_newO hD
  have init : CompI2 c elt tg tst tg1 it1 tst1 own own1 src I (L2.wipe σ own) H1 Z1 (Or O1 Ro) D (fun _ _ H => Q (.ref D) H) 0 (src.len g0) (upd H1 D (.lst [])) (Zn Z1 D) (Bm.wipe g0 own) O1 Ro none_ [] [] := by
    refine ⟨sit_wipe (o1.sit.ext0 zkN exN) own, ⟨fun b z => oz0 b z.2, fun a o e _ => exN.same a o e fun z => z, exN.zold, fun a z _ => exN.zkeep a z fun z => z⟩, fun b z => .inl (.inl z), ?_, fun b z => ⟨.inl (ow1 b z).1, (ow1 b z).2.1⟩, fun _ z => z.elim, ⟨.inr rfl, fun z => nZ (o1.sit.oz D z)⟩, .inr hD, ⟨fun _ _ z => z.elim, fun z => nZ (ow1 D z).1, fun z => z.elim⟩, fun b z => z.elim (fun z => .inl (.inr z)) fun z => z.elim, upd_same, .nil, ?_⟩
    · refine is.st.ext 0 σ (L2.wipe σ own) _ _ _ _ _ _ i0 o1.sit.zok exN (fun _ _ z => z) fun i hi => ?_
      have := List.all_eq_true.mp hn i hi
      rw [wipe_get, if_neg (by simpa using this)]
    · refine q.mono (fun _ _ z => z) fun ys g' _ q => ?_
      split at q
      case isFalse => exact q.elim
      rename_i hl
      refine ⟨by simpa using hl, fun H' Z' O' RA' sit ext bnd rep ho => ?_⟩
      rw [List.nil_append] at rep
      refine q (.ref D) H' Z' O' RA' ⟨sit_rest sit fun v d hd hp => ?_, o1.ext.trans s.zok ext (fun x z => ⟨rfl, z.2⟩) (fun x z => (bw x z.2).imp (fun z => ⟨rfl, z⟩) id) fun x z => s.oz x z.2, fun b z => ?_⟩ ⟨rep, fun b z => (ho b z).1, fun _ b z => ⟨(ho b z).2.1, (ho b z).2.2.elim (bw b) fun e => o1.bnd' (fun _ z => z.2) (.inr e)⟩, fun _ e => by cases e⟩
      · obtain ⟨u, hu, r⟩ := o1.sit.get hd (dead_pers hp)
        exact ⟨u, hu, (r.pers hp).ext o1.sit.zok ext fun _ z => z.elim⟩
      · exact (bnd b z).elim (bw b) fun e => o1.bnd' (fun _ z => z.2) (.inr e)
  refine ⟨fun i m H => ∃ Z g O Ro' RA acc ys, CompI2 c elt tg tst tg1 it1 tst1 own own1 src I (L2.wipe σ own) H1 Z1 (Or O1 Ro) D (fun _ _ H => Q (.ref D) H) i m H Z g O Ro' RA acc ys, ⟨_, _, _, _, _, _, _, _, init⟩, ?_⟩
  rintro i m H2 ⟨Z2, g2, O2, Ro2, RA2, acc2, ys2, C⟩
  rcases comp2_step is o1.sit.zok oz0 tgo tgo1 hv hw C with ⟨h1, _, _, h2⟩ | ⟨h1, n', rfl, h2⟩
  · exact .inl ⟨h1, h2⟩
  · exact .inr ⟨h1, fun H' => ∃ Z g O Ro' RA acc ys, CompI2 c elt tg tst tg1 it1 tst1 own own1 src I (L2.wipe σ own) H1 Z1 (Or O1 Ro) D (fun _ _ H => Q (.ref D) H) (i + 1) n' H' Z g O Ro' RA acc ys, fun H' h => ⟨n', Nat.lt_succ_self _, h⟩, h2 _ rfl⟩
theorem sv_comp2 {elt tg it tst tg1 it1 tst1 : E} {own own1 : List Nat} {ownp : List (Str × Nat)} {etg eit eelt etg1 eit1 : Expr} {ifs ifs1 : List Expr} {scope : Scope} {pos : Pos} (hc : X.calm = true) (hN : X.N.Nodup) (hi : SndI c X W etg it eit) (ok : BlkOk X.N X.env.scope scope ownp) (how : ownp.map (·.2) = own) (tgo : ∀ i, i ∈ asgE tg → i ∈ own)
    (tgo1 : ∀ i, i ∈ asgE tg1 → i ∈ own1) (hv : ∀ i, i ∈ own1 → i ∈ own)
    (hg : ∀ (s : Shared) (H : Hp) (C : Addr) (cl : List (Str × Addr)) (fp : List Addr), SndG c (X.blk s H scope (compEnvC scope cl C X.env) fp) (fun _ _ _ _ => False) tg etg)
    (ht : ∀ (s : Shared) (H : Hp) (C : Addr) (cl : List (Str × Addr)) (fp : List Addr), SndTs c (X.blk s H scope (compEnvC scope cl C X.env) fp) (fun _ _ _ _ => False) tst ifs)
    (hi1 : ∀ (s : Shared) (H : Hp) (C : Addr) (cl : List (Str × Addr)) (fp : List Addr), SndI c (X.blk s H scope (compEnvC scope cl C X.env) fp) (fun _ _ _ _ => False) etg1 it1 eit1)
    (hg1 : ∀ (s : Shared) (H : Hp) (C : Addr) (cl : List (Str × Addr)) (fp : List Addr), SndG c (X.blk s H scope (compEnvC scope cl C X.env) fp) (fun _ _ _ _ => False) tg1 etg1)
    (ht1 : ∀ (s : Shared) (H : Hp) (C : Addr) (cl : List (Str × Addr)) (fp : List Addr), SndTs c (X.blk s H scope (compEnvC scope cl C X.env) fp) (fun _ _ _ _ => False) tst1 ifs1)
    (he : ∀ (s : Shared) (H : Hp) (C : Addr) (cl : List (Str × Addr)) (fp : List Addr), SndV c (X.blk s H scope (compEnvC scope cl C X.env) fp) (fun _ _ _ _ => False) elt eelt)
    (hs : ∀ x, foldedSetIterable eit X.env x = pure x) (hs1 : ∀ env x, foldedSetIterable eit1 env x = pure x) : SndV c X W (.comp2 elt tg it tst tg1 it1 tst1 own own1) (.ListComp eelt [⟨etg, eit, ifs, 0⟩, ⟨etg1, eit1, ifs1, 0⟩] scope pos) := by
  subst how
  obtain ⟨wi, pi, sem⟩ := comp2_sem (elt := elt) (tst := tst) (tst1 := tst1) (it1 := it1) hi tgo tgo1 hv
  exact ⟨_, pe_lc2 hc hN pi ok hv (fun s H C cl fp => pg_tgG (hg s H C cl fp)) (fun s H C cl fp => pts_ttT (ht s H C cl fp)) (fun s H C cl fp => pi_tiI (hi1 s H C cl fp)) (fun s H C cl fp => pg_tgG (hg1 s H C cl fp)) (fun s H C cl fp => pts_ttT (ht1 s H C cl fp)) (fun s H C cl fp => pe_teV (he s H C cl fp)) hs hs1, sem⟩
theorem s1_setLc2 {i : Nat} {y : Str} {py : Pos} {elt tg it tst tg1 it1 tst1 : E} {own own1 : List Nat} {ownp : List (Str × Nat)} {etg eit eelt etg1 eit1 : Expr} {ifs ifs1 : List Expr} {scope : Scope} {pos spos : Pos} (hc : X.calm = true) (hN : X.N.Nodup) (hy : X.N[i]? = some y) (hyl : X.env.scope.names.lookup y = some .local)
    (hsw : swapsWith (.ListComp eelt [⟨etg, eit, ifs, 0⟩, ⟨etg1, eit1, ifs1, 0⟩] scope pos) (some (.Name y py)) spos.line X.env = pure true) (hi : SndI c X W etg it eit) (ok : BlkOk X.N X.env.scope scope ownp) (how : ownp.map (·.2) = own) (tgo : ∀ i, i ∈ asgE tg → i ∈ own)
    (tgo1 : ∀ i, i ∈ asgE tg1 → i ∈ own1) (hv : ∀ i, i ∈ own1 → i ∈ own)
    (hg : ∀ (s : Shared) (H : Hp) (C : Addr) (cl : List (Str × Addr)) (fp : List Addr), SndG c (X.blk s H scope (compEnvC scope cl C X.env) fp) (fun _ _ _ _ => False) tg etg)
    (ht : ∀ (s : Shared) (H : Hp) (C : Addr) (cl : List (Str × Addr)) (fp : List Addr), SndTs c (X.blk s H scope (compEnvC scope cl C X.env) fp) (fun _ _ _ _ => False) tst ifs)
    (hi1 : ∀ (s : Shared) (H : Hp) (C : Addr) (cl : List (Str × Addr)) (fp : List Addr), SndI c (X.blk s H scope (compEnvC scope cl C X.env) fp) (fun _ _ _ _ => False) etg1 it1 eit1)
    (hg1 : ∀ (s : Shared) (H : Hp) (C : Addr) (cl : List (Str × Addr)) (fp : List Addr), SndG c (X.blk s H scope (compEnvC scope cl C X.env) fp) (fun _ _ _ _ => False) tg1 etg1)
    (ht1 : ∀ (s : Shared) (H : Hp) (C : Addr) (cl : List (Str × Addr)) (fp : List Addr), SndTs c (X.blk s H scope (compEnvC scope cl C X.env) fp) (fun _ _ _ _ => False) tst1 ifs1)
    (he : ∀ (s : Shared) (H : Hp) (C : Addr) (cl : List (Str × Addr)) (fp : List Addr), SndV c (X.blk s H scope (compEnvC scope cl C X.env) fp) (fun _ _ _ _ => False) elt eelt)
    (hs : ∀ x, foldedSetIterable eit X.env x = pure x) (hs1 : ∀ env x, foldedSetIterable eit1 env x = pure x) : Snd1 c X W (.asg (.var i) (.comp2 elt tg it tst tg1 it1 tst1 own own1)) (.Assign [.Name y py] (.ListComp eelt [⟨etg, eit, ifs, 0⟩, ⟨etg1, eit1, ifs1, 0⟩] scope pos) spos) := by
  subst how
  obtain ⟨wi, pi, sem⟩ := comp2_sem (elt := elt) (tst := tst) (tst1 := tst1) (it1 := it1) hi tgo tgo1 hv
  exact ⟨_, ps_setLc2 hc hN hy hyl hsw pi ok hv (fun s H C cl fp => pg_tgG (hg s H C cl fp)) (fun s H C cl fp => pts_ttT (ht s H C cl fp)) (fun s H C cl fp => pi_tiI (hi1 s H C cl fp)) (fun s H C cl fp => pg_tgG (hg1 s H C cl fp)) (fun s H C cl fp => pts_ttT (ht1 s H C cl fp)) (fun s H C cl fp => pe_teV (he s H C cl fp)) hs hs1, sem_asg sem semg_var⟩
end
end Bm

set_option maxHeartbeats 1000000
/-! B46: list(range(n)); xs.index(n). -/
namespace Bm
open PySem PySem.Spec PyProof.Rows L2
variable [TheK]
section
variable {c : Str → List D → CRes} {X : Cx} {W : WX}
theorem sv_lrg {a : E} {e : Expr} {p q r t : Pos} (hc : X.calm = true) (hg : Gl X "list") (hm : X.mg "list" = none) (hg2 : Gl X "range") (hm2 : X.mg "range" = none) (pl : plainE e = true) (ha : SndV c X W a e) : SndV c X W (.lrg a) (.Call (.Name "list" p) [.Call (.Name "range" q) [e] [] r] [] t) := by
  obtain ⟨ta, pa, sa⟩ := ha
  refine ⟨_, pe_listRg hc hg hm (prg_1 hg2 hm2 pa (plain_star pl _ _)), fun σ H Z g O Q s q => sa σ H Z g O _ s ?_⟩
  refine (PR.bind (show PR (Xp X W σ H Z O) (((den c a).val g).bind _) _ from q)).mono (fun _ _ z => z) fun x g1 _ k v H1 Z1 O1 R o1 va => ?_
  split at k
  · rename_i n hx
    split at k
    · rename_i hn
      have rv := va.rep
      rw [hx] at rv
      have rv := rep_at rv
      subst rv
      obtain ⟨h0, h1⟩ := hn
      refine ⟨n, rfl, ⟨by omega, by omega, by omega, by omega, by omega⟩, ret_new s o1 (show RepA H1 Z1 (rangeD 0 n.toNat) (rgV 0 n) none_ from ⟨by rw [rgV_length]; simp [rangeD], fun _ => none_, fun _ _ z => z, fun _ _ _ z => z.elim, fun i d v e1 e2 => ?_⟩) k fun _ e => by cases e⟩
      have hi : i < n.toNat := by
        have := (List.getElem?_eq_some_iff.mp e1).1
        simpa [rangeD] using this
      have hi2 : i < (n - 0).toNat := by rw [Int.sub_zero]; exact hi
      unfold rangeD at e1
      unfold rgV at e2
      rw [List.getElem?_map, List.getElem?_range hi] at e1
      rw [List.getElem?_map, List.getElem?_range hi2] at e2
      cases e1
      cases e2
      exact .at (.int _) _
    · exact k.elim
  · exact k.elim
theorem findIdx_at {k : Int} : ∀ {ns : List Int} {j : Nat}, ns.findIdx? (· == k) = some j → ns[j]? = some k ∧ ∀ (m : Nat) (z : Int), m < j → ns[m]? = some z → (z == k) = false := by
  intro ns
  induction ns with
  | nil => intro j h; simp at h
  | cons n ns ih =>
    intro j h
    rw [List.findIdx?_cons] at h
    by_cases e : (n == k) = true
    · rw [if_pos e] at h
      cases h
      exact ⟨by simp [eq_of_beq e], fun m z hm => by omega⟩
    · rw [if_neg e] at h
      obtain ⟨i, h1, h2⟩ := Option.map_eq_some_iff.mp h
      subst h2
      obtain ⟨h3, h4⟩ := ih h1
      refine ⟨by simpa using h3, fun m z hm hz => ?_⟩
      cases m with
      | zero => simp at hz; subst hz; simpa using e
      | succ m => exact h4 m z (by omega) (by simpa using hz)
theorem sv_idxOf {a e : E} {o x : Expr} {apos pos : Pos} (bo : baseOk o = true) (line : (apos.endLine == pos.line) = true) (pl : plainE x = true) (ha : SndV c X W a o) (he : SndV c X W e x) : SndV c X W (.idxOf a e) (.Call (.Attribute o "index" apos) [x] [] pos) := by
  obtain ⟨ta, pa, sa⟩ := ha
  obtain ⟨te, pe, se⟩ := he
  refine ⟨_, pe_bm PySem.F.plainAttrs_list PySem.F.slot_list_index PySem.F.type_list_index mt_index pa (pa_cons pe pa_nil (plain_star pl _ _)) (base_is bo _ _ _) ?_ line (plain_star pl _ _) (any_plain fun y hy => by simp at hy), fun σ H Z g O Q s q => sa σ H Z g O _ s ?_⟩
  · rw [few_plain (es := [x]) fun y hy => by rw [List.mem_singleton.mp hy]; exact pl]
    rfl
  refine (PR.bind (show PR (Xp X W σ H Z O) (((den c a).val g).bind _) _ from q)).mono (fun _ _ z => z) fun w g1 _ k v H1 Z1 O1 R o1 va => ?_
  split at k
  case isFalse => exact k.elim
  rename_i hl
  obtain ⟨m0, xs0, hx0⟩ : ∃ m xs, w.1 = .nd (.lst m) xs := by
    unfold isLstD at hl
    split at hl
    · rename_i m xs e1; exact ⟨_, _, e1⟩
    · cases hl
  have r0 := va.rep
  rw [hx0] at r0
  obtain ⟨p0, vs0, ev0, hp0, _⟩ := rep_lst r0
  subst ev0
  refine ⟨.inl ⟨rfl, vs0, SqL.of hp0⟩, se σ H1 Z1 g1 O1 _ o1.sit ((PR.bind k).mono (fun e g' q => Xp.step s o1 q) fun y g2 _ k2 u H2 Z2 O2 R2 o2 vy => ?_)⟩
  obtain ⟨z, e1, k3⟩ := k2.ofO
  obtain ⟨w', e2, e3⟩ := Option.bind_eq_some_iff.mp e1
  obtain ⟨R', va', _⟩ := late_ok o1 va o2 e2
  unfold idxOfD at e3
  split at e3
  · rename_i m xs k' e4 e5
    split at e3
    · rename_i ns hn
      obtain ⟨j, hj, ez⟩ := Option.map_eq_some_iff.mp e3
      subst ez
      have r1 := va'.rep
      rw [e4] at r1
      obtain ⟨p, vs, ev, hp, ra, _⟩ := rep_lst r1
      have hx := intsD_eq hn
      subst hx
      have hv := ints_vs ra
      subst hv
      have r2 := vy.rep
      rw [e5] at r2
      have r2 := rep_at r2
      subst r2
      obtain ⟨f1, f2⟩ := findIdx_at hj
      have o12 : Out (Wq (quiet a && quiet e) O) H Z O σ g2 H2 Z2 O2 := o1.trans s.zok s.oz o2 (fun z => by simp [z]) (fun z => by simp [z])
      refine ⟨p, _, .int k', j, .int k', ev, rfl, SqL.of hp, rfl, ?_, by simp [f1], by simp [eqV], fun i z' hi hz => ?_, k3 (.int (j : Int)) H2 Z2 O2 none_ o12 ⟨.at (.int (j : Int)) _, fun _ z => z.elim, fun _ _ z => z.elim, fun _ e => by cases e⟩⟩
      · simp [flatV]
      · rw [List.getElem?_map] at hz
        obtain ⟨q, hq1, hq2⟩ := Option.map_eq_some_iff.mp hz
        subst hq2
        exact f2 i q hi hq1
    · cases e3
  · cases e3
end
end Bm

set_option maxHeartbeats 1000000
/-! B49: instances: attributes, methods, properties, what makes them; isinstance. -/
namespace Bm
open PySem PySem.Spec PyProof.Rows L2
variable [TheK]
/-! ### attributes -/
theorem zip_look {α : Type} {f : Str} : ∀ {fs : List Str} {xs : List α} {d : α}, (fs.zip xs).lookup f = some d → ∃ k : Nat, xs[k]? = some d ∧ ∀ {β : Type} {vs : List β}, vs.length = fs.length → (fs.zip vs).lookup f = vs[k]?
  | [], xs, d, h => by simp at h
  | _ :: _, [], d, h => by simp at h
  | g :: fs, x :: xs, d, h => by
    rw [List.zip_cons_cons, List.lookup_cons] at h
    by_cases e : (f == g) = true
    · rw [e] at h
      refine ⟨0, by simpa using h, fun {β vs} l => ?_⟩
      cases vs with
      | nil => simp at l
      | cons v vs => rw [List.zip_cons_cons, List.lookup_cons, e]; rfl
    · have e : (f == g) = false := by simpa using e
      rw [e] at h
      obtain ⟨k, h1, h2⟩ := zip_look h
      refine ⟨k + 1, by simpa using h1, fun {β vs} l => ?_⟩
      cases vs with
      | nil => simp at l
      | cons v vs =>
        rw [List.zip_cons_cons, List.lookup_cons, e]
        simpa using h2 (vs := vs) (by simpa using l)
theorem zip_lookN {α : Type} {f : Str} : ∀ {fs : List Str} {xs : List α}, fs.contains f = false → (fs.zip xs).lookup f = none
  | [], _, _ => by simp
  | _ :: _, [], _ => by simp
  | g :: fs, x :: xs, h => by
    have h : (f == g || fs.contains f) = false := h
    rw [Bool.or_eq_false_iff] at h
    rw [List.zip_cons_cons, List.lookup_cons, h.1]
    exact zip_lookN h.2
theorem rep_ins {H : Hp} {Z R : AS} {m : Bool} {C : Str} {fs : List Str} {xs : List D} {v : V} (h : Rep H Z (.nd (.ins m C fs) xs) v R) :
    ∃ a dx vs, v = .ref a ∧ H a = some (.ins (He.ga TheK.K C) dx (fs.zip vs)) ∧ fs.length = vs.length ∧ RepA H Z xs vs R := by
  cases h with
  | nd _ _ a vs _ F n l f1 f2 r =>
    obtain ⟨⟨dx, n1⟩, n2, _⟩ := n
    exact ⟨a, dx, vs, rfl, n1, n2, l, F, fun i b q => subO_sub (f1 i b q), f2, r⟩
section
variable {c : Str → List D → CRes} {X : Cx} {W : WX}
theorem sv_fld {C f : Str} {a : E} {o : Expr} {pos : Pos} (bo : baseOk o = true) (kk : X.K = TheK.K) (hc : Cls X.K (He.ga X.K C)) (hn : NoAttr X.K (He.ga X.K C) f) (ha : SndV c X W a o) : SndV c X W (.fld C f a) (.Attribute o f pos) := by
  obtain ⟨ta, pa, sa⟩ := ha
  refine ⟨_, pe_fld pa (base_is bo _ _ _), fun σ H Z g O Q s q => sa σ H Z g O _ s ?_⟩
  refine (PR.bind (show PR (Xp X W σ H Z O) (((den c a).val g).bind _) _ from q)).mono (fun _ _ z => z) fun x g1 _ k v H1 Z1 O1 R o1 va => ?_
  obtain ⟨z, e, k⟩ := k.ofO
  unfold fldD at e
  split at e
  · rename_i m C' fs xs l
    split at e
    · rename_i hC
      subst hC
      split at e
      · rename_i d hd
        obtain ⟨a1, dx, vs, rfl, hi, hl, ra⟩ := rep_ins va.rep
        obtain ⟨i, h1, h2⟩ := zip_look hd
        obtain ⟨w, hw, r⟩ := ra.get h1
        have hlk := h2 (vs := vs) hl.symm
        rw [hw] at hlk
        refine ⟨a1, _, dx, _, w, rfl, by rw [kk]; exact hi, hc, hn, hlk, ?_⟩
        obtain ⟨nd, rfl⟩ := mkV_eq e
        by_cases p : d.pers = true
        · exact k w H1 Z1 O1 none_ o1 ⟨r.pers p, fun _ z => z.elim, fun _ _ z => z.elim, fun _ e => by cases e⟩
        · exact k w H1 Z1 O1 R o1 ⟨r, va.rz, fun z b h => va.own (by simpa [p] using z) b h, fun _ e => by cases e⟩
      · cases e
    · cases e
  · cases e
/-! ### isinstance -/
def tyV (K : PySem.W.Frag) : Ty → V
  | .int => .ty "int"
  | .bool => .ty "bool"
  | .str => .ty "str"
  | .list => .ty "list"
  | .tuple => .ty "tuple"
  | .dict => .ty "dict"
  | .own C => .ref (He.ga K C)
def tyU (K : PySem.W.Frag) : Ty → Value
  | .int => .type "int"
  | .bool => .type "bool"
  | .str => .type "str"
  | .list => .type "list"
  | .tuple => .type "tuple"
  | .dict => .type "dict"
  | .own C => .ref (He.ga K C)
theorem tyV_cls (K : PySem.W.Frag) (t : Ty) : ClsV (tyV K t) (tyU K t) := by
  cases t <;> first | exact .ty _ | exact .own _
/-- the type's name of what is no instance -/
def tyD : D → Option String
  | .at .non => some "NoneType"
  | .at (.bl _) => some "bool"
  | .at (.int _) => some "int"
  | .at (.str _) => some "str"
  | .nd .tup _ => some "tuple"
  | .nd (.lst _) _ => some "list"
  | .nd .scr _ => some "list"
  | _ => none
theorem tyD_ok {H : Hp} {Z R : AS} {d : D} {v : V} {n : String} (h : Rep H Z d v R) (e : tyD d = some n) : TyX TheK.K H v (.type n) ∧ n ∈ tyNames := by
  unfold tyD at e
  split at e
  · cases e; rw [rep_at h]; exact ⟨.base .non, by simp [tyNames]⟩
  · cases e; rw [rep_at h]; exact ⟨.base (.bl _), by simp [tyNames]⟩
  · cases e; rw [rep_at h]; exact ⟨.base (.int _), by simp [tyNames]⟩
  · cases e; rw [rep_at h]; exact ⟨.base (.str _), by simp [tyNames]⟩
  · cases e; obtain ⟨a, vs, rfl, hh, _⟩ := rep_tup h; exact ⟨.base (.tup hh), by simp [tyNames]⟩
  · cases e; obtain ⟨a, vs, rfl, hh, _⟩ := rep_lst h; exact ⟨.base (.lst hh), by simp [tyNames]⟩
  · cases e
    obtain ⟨a, vs, rfl, hh, _⟩ := rep_scr h
    rcases hh with (hh | ⟨o, hh⟩) | ⟨o, its, n, h1, h2, _⟩
    · exact ⟨.base (.lst hh), by simp [tyNames]⟩
    · exact ⟨.base (.frz hh), by simp [tyNames]⟩
    · exact ⟨.kList h1 h2, by simp [tyNames]⟩
  · cases e
theorem isi_ok {t : Ty} {d : D} {b : Bool} {H : Hp} {Z R : AS} {v : V} (h : Rep H Z d v R) (e : isiD t d = some b) (ho : ∀ C, t = .own C → ClsOk X.mg TheK.K C) : ∃ tv, TyX TheK.K H v tv ∧ PySem.W.kitOne TheK.K tv (tyU TheK.K t) = some b := by
  by_cases hi : ∃ n, tyD d = some n
  · obtain ⟨n, hn⟩ := hi
    obtain ⟨h1, h2⟩ := tyD_ok h hn
    refine ⟨_, h1, ?_⟩
    cases t with
    | own C =>
      have : b = false := by
        unfold tyD at hn
        split at hn <;> first | (cases hn; done) | (simp [isiD] at e; exact e)
      subst this
      exact (ho C rfl).isi.other n h2
    | _ =>
      unfold tyD at hn
      split at hn <;> first
        | (cases hn; done)
        | (cases hn
           simp [isiD] at e
           subst e
           first | exact kit_ty (a := _) (b := _) (by decide +kernel))
  · cases d with
    | dead => cases t <;> simp [isiD] at e
    | «at» a => cases a <;> simp [tyD] at hi
    | nd k xs =>
      cases k with
      | tup => simp [tyD] at hi
      | lst m => simp [tyD] at hi
      | scr => simp [tyD] at hi
      | ins m C' fs =>
        obtain ⟨a, dx, vs, rfl, hh, _, _⟩ := rep_ins h
        cases t with
        | own C =>
          simp only [isiD] at e
          split at e
          · rename_i hC
            subst hC
            cases e
            have hk := ho C' rfl
            exact ⟨_, .base (.ins hh hk.cls hk.isi.ha hk.isi.hn hk.isi.htk hk.isi.hm), hk.isi.self⟩
          · cases e
        | _ => simp [isiD] at e
def TyIn (mg : Str → Option Value) : Ty → Prop
  | .own C => mg C = some (.ref (He.ga TheK.K C))
  | t => mg (tyName t) = none
theorem pe_tyV {t : Ty} {q : Pos} (hg : Gl X (tyName t)) (kk : X.K = TheK.K) (hm : TyIn X.mg t) (hdb : (tyName t == ("__debug__" : Str)) = false) : PE X (.Name (tyName t) q) (tC (tyV TheK.K t)) := by
  cases t with
  | own C => exact pe_glob hg hm rfl hdb
  | _ => exact pe_bltn hg hm rfl rfl (by decide) (by decide)
theorem sv_isi {t : Ty} {a : E} {o : Expr} {p q r : Pos} (hg : Gl X "isinstance") (hf : X.mg "isinstance" = none) (pl : plainE o = true) (kk : X.K = TheK.K) (hgt : Gl X (tyName t)) (hdb : (tyName t == ("__debug__" : Str)) = false) (hm : TyIn X.mg t) (ho : ∀ C, t = .own C → ClsOk X.mg TheK.K C) (ha : SndV c X W a o) :
    SndV c X W (.isi t a) (.Call (.Name "isinstance" p) [o, .Name (tyName t) q] [] r) ∧ SndT c X W (.isi t a) (.Call (.Name "isinstance" p) [o, .Name (tyName t) q] [] r) := by
  obtain ⟨ta, pa, sa⟩ := ha
  have pe := pe_callB (X := X) call_isi hg hf rfl (pa_cons pa (pa_cons (pe_tyV hgt kk hm hdb) pa_nil rfl) (plain_star pl _ _)) (by decide) (by decide) (plain_star pl _ _) (any_plain (es := [.Name (tyName t) q]) fun y hy => by rw [List.mem_singleton.mp hy]; rfl) (pos := r) (p := p)
  have main : ∀ {b : Bool} {d : D} {v : V} {H1 : Hp} {Z1 R : AS} {Q : VK}, Rep H1 Z1 d v R → isiD t d = some b → Q (.bl b) H1 → rIsi X.K [v, tyV TheK.K t] H1 Q := fun {b d v H1 Z1 R Q} hr e k => by
    obtain ⟨tv, h1, h2⟩ := isi_ok hr e ho
    rw [kk]
    exact ⟨v, _, tv, _, b, rfl, tyV_cls _ _, h1, h2, k⟩
  constructor
  · refine ⟨_, pe, fun σ H Z g O Q s q => sa σ H Z g O _ s ?_⟩
    refine (PR.bind (show PR (Xp X W σ H Z O) (((den c a).val g).bind _) _ from q)).mono (fun _ _ z => z) fun x g1 _ k v H1 Z1 O1 R o1 va => ?_
    obtain ⟨z, e, k⟩ := k.ofO
    obtain ⟨b, eb, rfl⟩ := Option.map_eq_some_iff.mp e
    exact main va.rep eb (k (.bl b) H1 Z1 O1 none_ o1 ⟨.at (.bl b) _, fun _ z => z.elim, fun _ _ z => z.elim, fun _ e => by cases e⟩)
  · refine ⟨_, pt_truth pe (valTest_is rfl _), fun σ H Z g O Q s q => sa σ H Z g O _ s ?_⟩
    refine (PR.bind (show PR (Xp X W σ H Z O) (((den c a).val g).bind _) _ from q)).mono (fun _ _ z => z) fun x g1 _ k v H1 Z1 O1 R o1 va => ?_
    obtain ⟨b, eb, k⟩ := k.ofO
    exact main (Q := fun x H' => ∃ k, TruV X.K x H' k ∧ Q k H') va.rep eb ⟨b, tru_rep (H := H1) (d := .bl b) (Rep.at (Z := Z1) (.bl b) none_) rfl, k H1 Z1 O1 o1⟩
end
end Bm

set_option maxHeartbeats 1000000
/-! B50: methods, properties, what makes instances. -/
namespace Bm
open PySem PySem.Spec PyProof.Rows L2
variable [TheK]
section
variable {X : Cx} {k : Nat} {f C : Addr} {fd : FuncData} {ps : List Str} {sp : Sp} {W : WX}
/-! ### the rules -/
def tMethW (C : Addr) (m : Str) (sp : Sp) (W : WX) (ta : TE) (t : TA) : TE := fun σ H Q => ta σ H fun x H1 => ∃ a dx fs, x = .ref a ∧ H1 a = some (.ins C dx fs) ∧ fs.lookup m = none ∧ t σ H1 fun vs H2 => sp (x :: vs) H2 Q fun cls dd H' => W cls dd σ H'
theorem wpAny_method {o : Expr} {name : Str} {apos pos : Pos} {args : List Expr} {env : Env} {M : Model} {A : Around} {E : Value → Shared → Prop} {s : Shared} {Q : Value → Shared → Prop}
    (hbase : attributeBase o name env (eval o env) = eval o env) (hform : methodCallForm (args.length + ([] : List Keyword).length) (backTo pos (starEach args env)) (backToKw pos (keywordEach [] env)) = true)
    (hline : (apos.endLine == pos.line) = true)
    (h : wpAny M A (eval o env) (fun ov s1 => ∀ pl, wpAny M A (getMethod ov name pl) (fun fx s2 => wpAny M A (callWith pos fx.1 fx.2 (backTo pos (starEach args env)) (backToKw pos (keywordEach [] env))) Q E s2) E s1) E s) :
    wpAny M A (eval (.Call (.Attribute o name apos) args [] pos) env) Q E s := by
  rw [arm_eval_Call, hbase]
  refine wpAny_bind (wpAny_mono h (fun ov s₁ h₁ => ?_) fun _ _ e => e)
  refine wpAny_bind (wpAny_standAt ?_)
  have hpos : methodCallPos true o env apos pos = pure pos := by unfold methodCallPos; simp [hline]
  unfold methodCall
  rw [hform]
  refine wpAny_bind (wpAny_holding (wpAny_mono (h₁ _) (fun fx s2 h2 => ?_) fun _ _ e => e))
  exact wpAny_bind (wpAny_of_eq hpos h2)
theorem form_plain {env : Env} {pos : Pos} {es : List Expr} (hp : ∀ e ∈ es, plainE e = true) (few : es.length < 29) : methodCallForm (es.length + ([] : List Keyword).length) (backTo pos (starEach es env)) (backToKw pos (keywordEach [] env)) = true := by
  unfold methodCallForm
  rw [few_plain hp]
  have : ([] : List Keyword).isEmpty = true := rfl
  simp only [Bool.true_and, List.length_nil]
  refine Bool.and_eq_true_iff.mpr ⟨rfl, decide_eq_true ?_⟩
  show es.length + 0 + 0 < 30
  omega
theorem pe_methW {o : Expr} {m : Str} {ta : TE} {apos pos : Pos} {es : List Expr} {t : TA} (he : PE X o ta) (bo : baseOk o = true) (line : (apos.endLine == pos.line) = true) (few : es.length < 29) (c : Cls X.K C) (hm : Meth X.K C m f) (F : FnG X.prog X.w X.K X.mg X.base (CX X.prog X.w) k f fd ps sp) (hr : Rm k X.A) (hb : Binds X.K fd ps []) (tk : Takes X W) (ha : PA X es t)
    (hpl : ∀ y ∈ es, plainE y = true) (h0 : es = [] → t = tNil) : PE X (.Call (.Attribute o m apos) es [] pos) (tMethW C m sp W ta t) := by
  constructor
  intro pins s σ H Q I h
  refine wpAny_method (base_is bo _ _ _) (form_plain hpl few) line (thn (he.run pins s σ H _ I h) fun u s1 ⟨x, H1, I1, rx, a, dx, fs, ex, ea, l, q⟩ pl => ?_)
  subst ex
  obtain rfl : u = Value.ref a := rx
  refine getmeth_ok I1 ea c hm l ?_
  cases es with
  | nil =>
    rw [h0 rfl] at q
    exact PySem.W.callWith_K0 (first := [.ref a]) I1.kIn hm.kp (run_gx (us := [.ref a]) (vs := [.ref a]) (dvs := []) F hr hb .nil tk (fun _ _ _ z => z) I1 (.cons rfl .nil) q)
  | cons e es =>
    refine PySem.W.callWith_K (first := [.ref a]) (h₀ := X.base) I1.ok.mod.kin hm.kp (thn (ha.run pos pins s1 σ H1 _ I1 q) fun us s2 ⟨vs, H2, I2, r, q2⟩ => ⟨I2.kIn, ?_⟩) (plain_star (hpl e (by simp)) _ _) (any_plain fun y hy => hpl y (by simp [hy]))
    exact run_gx (us := .ref a :: us) (vs := .ref a :: vs) (dvs := []) F hr hb .nil tk (fun _ _ _ z => z) I2 (.cons rfl r) (by rw [List.append_nil]; exact q2)
/-- a property that raises nothing -/
def tPropG (C : Addr) (sp : Sp) (ta : TE) : TE := fun σ H Q => ta σ H fun x H1 => ∃ a dx fs, x = .ref a ∧ H1 a = some (.ins C dx fs) ∧ sp [.ref a] H1 Q fun _ _ _ => False
theorem Rm.in1 {j : Nat} {A : Around} (r : Rm (j + 1) A) : Rm j A.in1 := ⟨r.room.in1, r.grd⟩
theorem getpropG_ok {m : Str} {a p dx : Addr} {fs : List (Str × V)} {pins : List (Addr × Obj)} {σ : Sg} {H : Hp} {s : Shared} {Q : VK} {b : Bool} {E' : Value → Shared → Prop} (I : Inv X pins σ H s) (ea : H a = some (.ins C dx fs)) (c : Cls X.K C) (hp : PropOf X.K C m p f)
    (F : FnG X.prog X.w X.K X.mg X.base (CX X.prog X.w) k f fd ps sp) (hr : Rm (k + 1) X.A) (hb : Binds X.K fd ps []) (h : sp [.ref a] H Q fun _ _ _ => False) :
    wpAny (model X.prog X.w) X.A (getAttr (.ref a) m b) (EP X pins σ Q) E' s := by
  obtain ⟨mA, O, _, _, _, _⟩ := ins_get I.hok ea
  obtain ⟨od, J, _⟩ := O.look
  obtain ⟨rest, hrec⟩ := hp.rec_
  have I1 := I.tok (s.toks + 1)
  have hl : ([Value.ref a] ++ []).length = ps.length := by
    rw [← F.len _ _ _ _ h]
    rfl
  have hc : (PySem.W.clsIn X.K C).isSome = true := by
    obtain ⟨cd, hc, _⟩ := PySem.W.any_some c.hd
    rw [hc]
    rfl
  refine PySem.W.get_bind I.kIn J (PySem.W.plainGet_of (c.get m)).1 (PySem.W.findObj_data hc hp.at_ hp.get hp.tak) (PySem.W.plainGet_of (c.get m)).2 (wpAny_call (PySem.W.prop_get (s := { s with toks := s.toks + 1 }) I.kIn hrec ?_))
  refine codeAny_mono (F.run X.A.in1 X.stack { s with toks := s.toks + 1 } H ⟨[.ref a], []⟩ [.ref a] [.ref a] Q _ hr.in1 I1.env0.in1 (hb _ [.ref a] I1.kIn hl) (.cons rfl .nil) h) fun r s' hq => ?_
  cases r with
  | error er =>
    obtain ⟨_, _, _, _, _, _, _, _, _, _, _, _, bad⟩ := hq
    exact bad.elim
  | ok fl =>
    cases fl with
    | ret u =>
      obtain ⟨v, H', I3, rv, q3⟩ := I1.after hq
      show wpAny _ _ (handedOut u) _ _ _
      rw [PySem.W.handedOut_of (handed_of rv)]
      exact wpAny_pure ⟨v, H', I3, rv, q3⟩
    | next => exact False.elim hq
    | brk => exact False.elim hq
    | cont => exact False.elim hq
theorem pe_propG {e : Expr} {m : Str} {p : Addr} {pos : Pos} {ta : TE} (he : PE X e ta) (bo : baseOk e = true) (c : Cls X.K C) (hp : PropOf X.K C m p f) (F : FnG X.prog X.w X.K X.mg X.base (CX X.prog X.w) k f fd ps sp) (hr : Rm (k + 1) X.A) (hb : Binds X.K fd ps []) :
    PE X (.Attribute e m pos) (tPropG C sp ta) := by
  refine ⟨fun pins s σ H Q I h => ?_⟩
  refine attr_of (base_is bo _ _ _) (thn (he.run pins s σ H _ I h) fun u s1 ⟨x, H1, I1, rx, a, dx, fs, ex, ea, q⟩ => ?_)
  subst ex
  obtain rfl : u = Value.ref a := rx
  exact getpropG_ok I1 ea c hp F hr hb q
/-- C(..): a new instance and its dict, then __init__ -/
def tMakeW (C : Addr) (sp : Sp) (W : WX) (t : TA) : TE := fun σ H Q => t σ H fun vs H1 => ∀ x dx, H1 x = none → H1 dx = none → dx ≠ x →
  sp (.ref x :: vs) (upd (upd H1 dx (.own x)) x (.ins C dx [])) (fun v H2 => v = .non ∧ Q (.ref x) H2) fun cls dd H' => W cls dd σ H'
theorem Rm.make {j : Nat} {A : Around} (r : Rm (j + 1) A) (C : Addr) (us : List Value) (kw : List (Str × Value)) : Rm j (A.under (.builtin "type.__call__" ⟨.ref C :: us, kw⟩)) := ⟨r.room.make C us kw, r.grd⟩
theorem run_makeG {pins : List (Addr × Obj)} {σ : Sg} {H : Hp} {s : Shared} {Q : VK} {us : List Value} {vs : List V} (M : Mk X.K C f) (F : FnG X.prog X.w X.K X.mg X.base (CX X.prog X.w) k f fd ps sp) (hr : Rm (k + 1) X.A) (hb : Binds X.K fd ps []) (tk : Takes X W)
    (I : Inv X pins σ H s) (r : Vals vs us)
    (h : ∀ x dx, H x = none → H dx = none → dx ≠ x → sp (.ref x :: vs) (upd (upd H dx (.own x)) x (.ins C dx [])) (fun v H2 => v = .non ∧ Q (.ref x) H2) fun cls dd H' => W cls dd σ H') :
    wpAny (model X.prog X.w) X.A (call (.ref C) us) (EP X pins σ Q) X.xe s := by
  have hq := h (s.heap.objs.size + 1) s.heap.objs.size (I.hok.fresh (Nat.le_succ _)) (I.hok.fresh (Nat.le_refl _)) (Nat.ne_of_lt (Nat.lt_succ_self _))
  have I2 := Inv.made (C := C) I
  have r2 : Vals (V.ref (s.heap.objs.size + 1) :: vs) (Value.ref (s.heap.objs.size + 1) :: us) := .cons rfl r
  have hl : ((Value.ref (s.heap.objs.size + 1) :: us) ++ []).length = ps.length := by
    have e := r2.length
    rw [F.len _ _ _ _ hq] at e
    rw [List.append_nil]
    exact e.symm
  have bb := hb _ (Value.ref (s.heap.objs.size + 1) :: us) I2.kIn hl
  rw [List.append_nil] at bb
  refine wpAny_call (make_map (f := f) I.kIn M.makes M.init (beq_iff_eq.mp M.fn) (codeAny_mono (F.run _ X.stack _ _ ⟨Value.ref (s.heap.objs.size + 1) :: us, []⟩ (Value.ref (s.heap.objs.size + 1) :: us) _ _ _ (hr.make C us [])
    (I2.env0.make C us []) bb r2 hq) fun r s' hq' => ?_))
  cases r with
  | error e => exact tk e s' (XE.of_call I2 (fun _ _ _ z => z) hq')
  | ok fl =>
    cases fl with
    | ret u =>
      obtain ⟨v, H', I3, rv, ev, q3⟩ := I2.after hq'
      subst ev
      exact ⟨rv, ⟨V.ref (s.heap.objs.size + 1), H', I3, rfl, q3⟩⟩
    | next => exact False.elim hq'
    | brk => exact False.elim hq'
    | cont => exact False.elim hq'
theorem pe_makeW {x : Str} {p pos : Pos} {es : List Expr} {t : TA} (M : Mk X.K C f) (F : FnG X.prog X.w X.K X.mg X.base (CX X.prog X.w) k f fd ps sp) (hr : Rm (k + 1) X.A) (hg : Gl X x) (hm : X.mg x = some (.ref C)) (hb : Binds X.K fd ps []) (tk : Takes X W) (ha : PA X es t) (hdb : (x == ("__debug__" : Str)) = false)
    (hpl : ∀ y ∈ es, plainE y = true) (h0 : es = [] → t = tNil) : PE X (.Call (.Name x p) es [] pos) (tMakeW C sp W t) := by
  constructor
  intro pins s σ H Q I h
  cases es with
  | nil =>
    rw [h0 rfl] at h
    exact wpAny_Call_Name_kw (ld_glob I hg hm (PySem.W.callWith_K0 I.kIn M.kp (run_makeG (us := []) M F hr hb tk I .nil h)) hdb)
  | cons e es =>
    refine wpAny_Call_Name_kw (ld_glob I hg hm (PySem.W.callWith_K (h₀ := X.base) I.ok.mod.kin M.kp ?_ (plain_star (hpl e (by simp)) _ _) (any_plain fun y hy => hpl y (by simp [hy]))) hdb)
    refine thn (ha.run pos pins s σ H _ I h) ?_
    rintro us s1 ⟨vs, H1, I1, r, q⟩
    exact ⟨I1.kIn, run_makeG M F hr hb tk I1 r q⟩
end
end Bm

set_option maxHeartbeats 2000000
/-! B51: methods, properties, new instances, new attributes: what they do. -/
namespace Bm
open PySem PySem.Spec PyProof.Rows L2
variable [TheK]
section
variable {c : Str → List D → CRes} {X : Cx} {W : WX}
theorem callD_sp {x : Str} {mm : E} (nv : ∀ i, mm ≠ .var i) (hq : quiet mm = false) {H H1 : Hp} {Z O Z1 O1 : AS} {σ : Sg} {g g1 : List D} {as : List Arg} {vs : List V} {Fo : Nat → AS} {q : Bool} {Q : VK} (s : Sit H Z σ g O) (o1 : Out (Wq q O) H Z O σ g1 H1 Z1 O1) (av : ArgsR H O H1 Z1 O1 σ as vs Fo)
    (k : PR (Xp X W σ H Z O) (callD c x as g1) fun z g' => ∀ v H' Z' O' R, Out (Wq (quiet mm) O) H Z O σ g' H' Z' O' → Val H O H' Z' O' σ mm z v R → Q v H') : spD X.mg (c x) vs H1 Q fun cls dd H' => W cls dd σ H' := by
  rw [hq] at k
  refine spD_call (K := fun d g3 => ∀ v H' Z' O' R, Out (Wq false O) H Z O σ g3 H' Z' O' → Val H O H' Z' O' σ mm (d, false) v R → Q v H') s o1 av ?_ fun d g3 v H' Z' O' R hK o r hr => hK v H' Z' O' R o ⟨r, fun b z => (hr b z).1, fun _ b z => (hr b z).2, fun _ e => absurd e (nv _)⟩
  unfold callD at k
  split at k
  · rename_i ds g2 et
    try rw [et]
    cases hcf : c x ds with
    | ok d ds' =>
      simp only [hcf] at k ⊢
      cases hb2 : backA as ds ds' g2 with
      | some g3 => simp only [hb2] at k ⊢; exact k
      | none => simp only [hb2] at k; exact k.elim
    | ex e ds' =>
      simp only [hcf] at k ⊢
      cases hb2 : backA as ds ds' g2 with
      | some g3 => simp only [hb2] at k ⊢; exact k
      | none => simp only [hb2] at k; exact k.elim
    | no => simp only [hcf] at k; exact k.elim
  · exact k.elim
theorem ArgsR.cons {H H1 H2 : Hp} {Z O Z1 O1 Z2 O2 : AS} {σ : Sg} {g1 g2 : List D} {q1 q2 : Bool} {x : Arg} {v : V} {R1 : AS} {ys : List Arg} {us : List V} {F : Nat → AS} (o1 : Out (Wq q1 O) H Z O σ g1 H1 Z1 O1) (ar : ArgR H O H1 Z1 O1 σ x v R1) (o2 : Out (Wq q2 O1) H1 Z1 O1 σ g2 H2 Z2 O2) (av : ArgsR H1 O1 H2 Z2 O2 σ ys us F) :
    ∃ F', ArgsR H O H2 Z2 O2 σ (x :: ys) (v :: us) F' := by
  refine ⟨fun i => match i with
    | 0 => R1
    | i + 1 => F i, ?_⟩
  have rz : ∀ b, R1 b → Z2 b ∧ ¬ O2 b := fun b z => ⟨o2.ext.zkeep b (ar.z b z).1 fun w => (ar.z b z).2.1 w.2, fun w => (o2.bnd b w).elim (ar.z b z).2.1 fun w => not_Z o1.sit.zok w (ar.z b z).1⟩
  have dj : ∀ i b, F i b → ¬ R1 b := fun i b z w => (av.fz i b z).2.2.elim (ar.z b w).2.1 fun e => not_Z o1.sit.zok e (ar.z b w).1
  refine ⟨by simp [av.len], fun i j b z1 z2 => ?_, fun i b z => ?_, fun i a v e1 e2 => ?_⟩
  · cases i with
    | zero =>
      cases j with
      | zero => rfl
      | succ j => exact absurd z1 (dj j b z2)
    | succ i =>
      cases j with
      | zero => exact absurd z2 (dj i b z1)
      | succ j => rw [av.dj i j b z1 z2]
  · cases i with
    | zero => exact ⟨(rz b z).1, (rz b z).2, (ar.z b z).2.2⟩
    | succ i => exact ⟨(av.fz i b z).1, (av.fz i b z).2.1, o1.bnd' (fun _ z => z.2) (av.fz i b z).2.2⟩
  · cases i with
    | zero =>
      simp at e1 e2
      subst e1 e2
      have r := ar.r
      cases x with
      | v d => exact Rep.ext r o1.sit.zok o2.ext fun b z w => (ar.z b z).2.1 w.2
      | r i => exact r
    | succ i =>
      simp at e1 e2
      exact av.at_ i a v e1 e2
/-- the receiver is an instance -/
theorem recv_ok {C m : Str} {g1 : List D} {H H1 : Hp} {O Z1 O1 : AS} {σ : Sg} {r : Arg} {v : V} {R1 : AS} (st : Sit H1 Z1 σ g1 O1) (h : insOf C m (argD g1 r) = true) (ar : ArgR H O H1 Z1 O1 σ r v R1) :
    ∃ a dx fs, v = .ref a ∧ H1 a = some (.ins (He.ga TheK.K C) dx fs) ∧ fs.lookup m = none := by
  unfold insOf at h
  split at h
  · rename_i mm C' fs xs e
    simp only [Bool.and_eq_true, decide_eq_true_eq, Bool.not_eq_true'] at h
    obtain ⟨rfl, hf⟩ := h
    have fin : ∀ R, Rep H1 Z1 (.nd (.ins mm C' fs) xs) v R → ∃ a dx fs, v = .ref a ∧ H1 a = some (.ins (He.ga TheK.K C') dx fs) ∧ fs.lookup m = none := fun R hr => by
      obtain ⟨a, dx, vs, rfl, hi, _, _⟩ := rep_ins hr
      exact ⟨a, dx, _, rfl, hi, zip_lookN hf⟩
    have q := ar.r
    cases r with
    | v d =>
      simp only [argD] at e
      cases e
      exact fin _ q
    | r i =>
      simp only [argD] at e
      obtain ⟨w, h1, h2⟩ := st.get e rfl
      have q : σ[i]? = some (some v) := q
      rw [h1] at q
      cases q
      exact fin _ h2
  · cases h
theorem snd_args {m : E} {es : List Expr} (ha : SndA c X W m es) (h0 : es = [] → m = .nil) : ∃ t, PA X es t ∧ (∀ σ H Z g O Q, Sit H Z σ g O →
      PR (Xp X W σ H Z O) ((den c m).arg g) (fun as g' => ∀ vs H' Z' O' F, Out (Wq (quiet m) O) H Z O σ g' H' Z' O' → ArgsR H O H' Z' O' σ as vs F → Q vs H') → t σ H Q) ∧ (es = [] → t = tNil) := by
  cases es with
  | nil =>
    rw [h0 rfl]
    exact ⟨tNil, pa_nil, fun σ H Z g O Q s q => q [] H Z O (fun _ => none_) (.refl s fun b z => s.oz b z.2) ⟨rfl, fun _ _ _ z => z.elim, fun _ _ z => z.elim, fun i a v e => by simp at e⟩, fun _ => rfl⟩
  | cons e es =>
    obtain ⟨t, p, s⟩ := ha
    exact ⟨t, p, s, fun e => nomatch e⟩
theorem sv_meth {x C m : Str} {a es : E} {o : Expr} {as : List Expr} {apos pos : Pos} (bo : baseOk o = true) (line : (apos.endLine == pos.line) = true) (few : as.length < 29) (kk : X.K = TheK.K) (hc : Callee X (c x) x (.meth C m)) (tk : Takes X W) (pl : ∀ y ∈ as, plainE y = true) (hr : SndOne c X W a o) (ha : SndA c X W es as) (h0 : as = [] → es = .nil) :
    SndV c X W (.meth x C m a es) (.Call (.Attribute o m apos) as [] pos) := by
  obtain ⟨k, fa, fd, ps, ⟨hcl, hm⟩, FG, rm, hb⟩ := hc
  obtain ⟨ta, pa, sa⟩ := hr
  obtain ⟨ts, psa, ss, hs⟩ := snd_args ha h0
  refine ⟨_, pe_methW pa bo line few hcl hm FG (rm.mono (Nat.le_succ k)) hb tk psa pl hs, fun σ H Z g O Q s q => sa σ H Z g O _ s ?_⟩
  have q : PR (Xp X W σ H Z O) (((den c a).one g).bind fun r g => if insOf C m (argD g r) = true then ((den c es).arg g).bind fun as g => callD c x (r :: as) g else .no) _ := q
  refine (PR.bind q).mono (fun _ _ z => z) fun r g1 _ k v H1 Z1 O1 R1 o1 ar => ?_
  split at k
  case isFalse => exact k.elim
  rename_i hi
  obtain ⟨a1, dx, fs, rfl, h1, h2⟩ := recv_ok o1.sit hi ar
  refine ⟨a1, dx, fs, rfl, by rw [kk]; exact h1, h2, ss σ H1 Z1 g1 O1 _ o1.sit ?_⟩
  refine (PR.bind k).mono (fun e g' q => Xp.step s o1 q) fun ys g2 _ k us H2 Z2 O2 F o2 av => ?_
  have o3 : Out (Wq (quiet a && quiet es) O) H Z O σ g2 H2 Z2 O2 := o1.trans s.zok s.oz o2 (fun z => by simp [z]) (fun z => by simp [z])
  obtain ⟨F', av'⟩ := ArgsR.cons o1 ar o2 av
  exact callD_sp (mm := .meth x C m a es) (fun _ e => by cases e) rfl s o3 av' k
theorem noex_ok {α : Type} {r : R α} {xp : Ex → List D → Prop} {K : α → List D → Prop} (h : PR xp r.noex K) : PR (fun _ _ => False) r K := by
  cases r with
  | ok a g => exact h
  | ex e g => exact h
  | no => exact h
theorem sv_prop {x C m : Str} {a : E} {o : Expr} {pos : Pos} (bo : baseOk o = true) (kk : X.K = TheK.K) (hc : Callee X (c x) x (.prop C m)) (hr : SndOne c X W a o) :
    SndV c X W (.prop x C m a) (.Attribute o m pos) := by
  obtain ⟨k, fa, fd, ps, ⟨hcl, p, hm⟩, FG, rm, hb⟩ := hc
  obtain ⟨ta, pa, sa⟩ := hr
  refine ⟨_, pe_propG pa bo hcl hm FG rm hb, fun σ H Z g O Q s q => sa σ H Z g O _ s ?_⟩
  have q : PR (Xp X W σ H Z O) (((den c a).one g).bind fun r g => if insOf C m (argD g r) = true then (callD c x [r] g).noex else .no) _ := q
  refine (PR.bind q).mono (fun _ _ z => z) fun r g1 _ k v H1 Z1 O1 R1 o1 ar => ?_
  split at k
  case isFalse => exact k.elim
  rename_i hi
  obtain ⟨a1, dx, fs, rfl, h1, h2⟩ := recv_ok o1.sit hi ar
  refine ⟨a1, dx, fs, rfl, by rw [kk]; exact h1, ?_⟩
  have av : ArgsR H O H1 Z1 O1 σ [r] [.ref a1] (fun i => match i with
      | 0 => R1
      | _ => none_) := by
    refine ⟨rfl, fun i j b z1 z2 => ?_, fun i b z => ?_, fun i a v e1 e2 => ?_⟩
    · cases i <;> cases j <;> first | rfl | exact z1.elim | exact z2.elim
    · cases i with
      | zero => exact ar.z b z
      | succ i => exact z.elim
    · cases i with
      | zero => simp at e1 e2; subst e1 e2; exact ar.r
      | succ i => simp at e1
  have k2 := noex_ok k
  exact callD_sp (W := fun _ _ _ _ => False) (mm := .prop x C m a) (fun _ e => by cases e) rfl s o1 av (k2.mono (fun _ _ z => z.elim) fun _ _ _ z => z)
theorem sv_make {x C : Str} {es : E} {as : List Expr} {p pos : Pos} (kk : X.K = TheK.K) (hg : Gl X C) (hdb : (C == ("__debug__" : Str)) = false) (hc : Callee X (c x) x (.init C)) (tk : Takes X W) (pl : ∀ y ∈ as, plainE y = true) (ha : SndA c X W es as) (h0 : as = [] → es = .nil) :
    SndV c X W (.make x C es) (.Call (.Name C p) as [] pos) := by
  obtain ⟨k, fa, fd, ps, ⟨hm, mk⟩, FG, rm, hb⟩ := hc
  obtain ⟨ts, psa, ss, hs⟩ := snd_args ha h0
  refine ⟨_, pe_makeW mk FG rm hg hm hb tk psa hdb pl hs, fun σ H Z g O Q s q => ss σ H Z g O _ s ?_⟩
  have q : PR (Xp X W σ H Z O) (((den c es).arg g).bind fun as g => makeD c x C as g) _ := q
  refine (PR.bind q).mono (fun _ _ z => z) fun as g1 _ k vs H1 Z1 O1 F o1 av p dx hp hd ne => ?_
  unfold makeD at k
  split at k
  case h_2 => exact k.elim
  rename_i ds g2 et
  obtain ⟨O2, OA, s2, ra, h1, h2⟩ := take_sit o1.sit et av.len av.dj (fun i b z => ⟨(av.fz i b z).1, (av.fz i b z).2.1⟩) av.at_
  -- the new objects
  have hp1 : upd H1 dx (.own p) p = none := by rw [upd_ne (Ne.symm ne)]; exact hp
  have e1 : Bm.Ext none_ H1 Z1 (upd H1 dx (.own p)) Z1 := ext_new hd
  have z1 : ZOk (upd H1 dx (.own p)) Z1 := zok_new o1.sit.zok hd
  have e2 : Bm.Ext none_ (upd H1 dx (.own p)) Z1 (upd (upd H1 dx (.own p)) p (.ins (He.ga X.K C) dx [])) (Zn Z1 p) := ext_newO hp1
  have z2 : ZOk (upd (upd H1 dx (.own p)) p (.ins (He.ga X.K C) dx [])) (Zn Z1 p) := zok_newO z1 hp1 trivial
  have e3 : Bm.Ext none_ H1 Z1 (upd (upd H1 dx (.own p)) p (.ins (He.ga X.K C) dx [])) (Zn Z1 p) := e1.trans o1.sit.zok e2 (fun _ z => z) (fun _ z => .inl z) fun _ z => z.elim
  generalize hH : upd (upd H1 dx (.own p)) p (.ins (He.ga X.K C) dx []) = H2 at e2 z2 e3
  have hP : H2 p = some (.ins (He.ga X.K C) dx []) := by rw [← hH]; exact upd_same
  have oaz : ∀ b, OA b → Z1 b := fun b z => (h2 b z).elim (fun z => o1.sit.oz b z.1) fun ⟨i, z⟩ => (av.fz i b z).1
  have oab : ∀ b, OA b → O b ∨ H b = none := fun b z => (h2 b z).elim (fun z => o1.bnd b z.1) fun ⟨i, z⟩ => (av.fz i b z).2.2
  have oad : ∀ b, O2 b → ¬ OA b := fun b z w => (h2 b w).elim (fun w => w.2 z) fun ⟨i, w⟩ => (av.fz i b w).2.1 (h1 b z)
  have nzp : ¬ Z1 p := not_Z o1.sit.zok hp
  have s3 : Sit H2 (Zn Z1 p) σ g2 O2 := s2.ext0 z2 e3
  have rself : Rep H2 (Zn Z1 p) (.nd (.ins true C []) []) (.ref p) (fun b => b = p) := by
    refine .nd _ [] p [] _ (fun _ => none_) ⟨⟨dx, by rw [hP, kk]; rfl⟩, rfl, rfl⟩ rfl (fun _ _ z => z.elim) (fun _ _ _ z => z.elim) fun i x v e => by simp at e
  have ra2 : RepA H2 (Zn Z1 p) (.nd (.ins true C []) [] :: ds) (.ref p :: vs) (fun b => b = p ∨ OA b) := (ra.ext o1.sit.zok e3 fun _ _ z => z).cons rself fun b z w => nzp (by rw [← z]; exact oaz b w)
  have pnew : H p = none ∨ O p := by
    cases e : H p with
    | none => exact .inl rfl
    | some o =>
      by_cases hw : Wq (quiet es) O p
      · exact .inr hw.2
      · rw [o1.ext.same p o e hw] at hp
        cases hp
  have new : ∀ b, (b = p ∨ OA b) ∨ H2 b = none → O b ∨ H b = none := fun b z => by
    rcases z with (rfl | z) | z
    · exact pnew.symm
    · exact oab b z
    · cases e : H b with
      | none => exact .inr rfl
      | some o =>
        by_cases hw : Wq (quiet es) O b
        · exact .inl hw.2
        · rw [e3.same b o (o1.ext.same b o e hw) fun z => z] at z
          cases z
  have refs : ∀ (i : Nat) (a : Arg) (v : V), as[i]? = some a → vs[i]? = some v → RefAt σ a v := fun i a v e1 e2 => by
    have := av.at_ i a v e1 e2
    cases a with
    | v d => exact trivial
    | r j => exact this
  have fin : ∀ {H' : Hp} {Z' O' R2 : AS} {ds' g3 : List D}, ZOk H' Z' → Bm.Ext (fun b => b = p ∨ OA b) H2 (Zn Z1 p) H' Z' → (∀ b, O' b → Z' b ∧ ((b = p ∨ OA b) ∨ H2 b = none)) → (∀ b, R2 b → O' b) → RepA H' Z' ds' vs R2 → backA as ds ds' g2 = some g3 →
      Out (Wq false O) H Z O σ g3 H' Z' (fun b => O2 b ∨ R2 b) := fun {H' Z' O' R2 ds' g3} zk ex bo sub ra' eb => by
    have dj2 : ∀ b, O2 b → ¬ (b = p ∨ OA b) := fun b z w => w.elim (fun e => nzp (by rw [← e]; exact s2.oz b z)) (oad b z)
    have s4 := back_sit (s3.extD zk ex dj2) eb refs ra' fun b z => ⟨(bo b (sub b z)).1, fun w => (bo b (sub b z)).2.elim (dj2 b w) fun e => not_Z z2 e (s3.oz b w)⟩
    refine ⟨s4, ?_, fun b z => ?_⟩
    · have e4 : Bm.Ext (fun b => b = p ∨ OA b) H1 Z1 H' Z' ∨ True := .inr trivial
      refine ⟨fun x z => s.oz x z.2, fun x o h n => ?_, fun x z => ?_, fun x z n => ?_⟩
      · have q1 := e3.same x o (o1.ext.same x o h fun z => n ⟨rfl, z.2⟩) fun z => z
        refine ex.same x o q1 fun w => ?_
        rcases w with rfl | w
        · rcases pnew with e | e
          · rw [e] at h; cases h
          · exact n ⟨rfl, e⟩
        · rcases oab x w with w | w
          · exact n ⟨rfl, w⟩
          · rw [w] at h; cases h
      · rcases ex.zold x z with z | z
        · rcases e3.zold x z with z | z
          · exact o1.ext.zold x z
          · cases e : H x with
            | none => exact .inr rfl
            | some o =>
              by_cases hw : Wq (quiet es) O x
              · exact .inl (s.oz x hw.2)
              · rw [o1.ext.same x o e hw] at z
                cases z
        · rcases new x (.inr z) with w | w
          · exact .inl (s.oz x w)
          · exact .inr w
      · have q1 := e3.zkeep x (o1.ext.zkeep x z fun w => n ⟨rfl, w.2⟩) fun z => z
        refine ex.zkeep x q1 fun w => ?_
        rcases w with rfl | w
        · rcases pnew with e | e
          · exact not_Z s.zok e z
          · exact n ⟨rfl, e⟩
        · rcases oab x w with w | w
          · exact n ⟨rfl, w⟩
          · exact not_Z s.zok w z
    · rcases z with z | z
      · exact o1.bnd b (h1 b z)
      · exact new b (bo b (sub b z)).2
  refine ⟨Zn Z1 p, _, _, z2, fun b z => z.elim .inr fun z => .inl (oaz b z), ra2, ?_⟩
  split at k
  · rename_i d ds' ec
    rw [ec]
    split at k
    · rename_i g3 eb
      intro v H' Z' O' R zk ex bo ra' rd hr
      obtain ⟨R1, R2, r1, rt, k1, k2⟩ := ra'.tail
      refine ⟨rep_at rd, k (.ref p) H' Z' _ R1 (fin zk ex bo k2 rt eb) ⟨r1, fun b z => (bo b (k1 b z).1).1, fun _ b z => ⟨fun w => ?_, new b (bo b (k1 b z).1).2⟩, fun _ e => by cases e⟩⟩
      rcases w with w | w
      · rcases (bo b (k1 b z).1).2 with (e | q) | q
        · exact nzp (by rw [← e]; exact s2.oz b w)
        · exact oad b w q
        · exact not_Z z2 q (s3.oz b w)
      · exact (k1 b z).2 w
    · exact k.elim
  · rename_i e d ds' ec
    rw [ec]
    split at k
    · rename_i g3 eb
      intro cls dd H' Z' O' R zk ex bo ra' rd hr
      obtain ⟨R1, R2, r1, rt, k1, k2⟩ := ra'.tail
      refine k cls dd H' Z' _ R (fin zk ex bo k2 rt eb) rd fun b z => ⟨(hr b z).1, fun w => ?_, new b (hr b z).2.2⟩
      rcases w with w | w
      · rcases (hr b z).2.2 with (e | q) | q
        · exact nzp (by rw [← e]; exact s2.oz b w)
        · exact oad b w q
        · exact not_Z z2 q (s3.oz b w)
      · exact (hr b z).2.1 (k2 b w)
    · exact k.elim
  · exact k.elim
end
end Bm

set_option maxHeartbeats 2000000
/-! B52: a new attribute. -/
namespace Bm
open PySem PySem.Spec PyProof.Rows L2
variable [TheK]
theorem putF_new {f : Str} {v : V} : ∀ {fs : List Str} {vs : List V}, fs.contains f = false → fs.length = vs.length → putF f v (fs.zip vs) = (fs ++ [f]).zip (vs ++ [v])
  | [], [], _, _ => rfl
  | [], _ :: _, _, h => by simp at h
  | _ :: _, [], _, h => by simp at h
  | g :: fs, u :: vs, h, l => by
    have h : (f == g || fs.contains f) = false := h
    rw [Bool.or_eq_false_iff] at h
    have ne : ¬ g = f := fun e => by rw [e] at h; simp at h
    have ih := putF_new (v := v) h.2 (by simpa using l)
    show (if g = f then (g, v) :: fs.zip vs else (g, u) :: putF f v (fs.zip vs)) = _
    rw [if_neg ne, ih]
    rfl
theorem RepA.snoc {H : Hp} {Z : AS} {xs : List D} {vs : List V} {R R2 : AS} {y : D} {v : V} (h : RepA H Z xs vs R) (r : Rep H Z y v R2) (dj : ∀ b, R2 b → ¬ R b) : RepA H Z (xs ++ [y]) (vs ++ [v]) (fun b => R b ∨ R2 b) := by
  obtain ⟨l, F, f1, f2, rr⟩ := h
  refine ⟨by simp [l], fun i b => if i < xs.length then F i b else i = xs.length ∧ R2 b, fun i b z => ?_, fun i j b z1 z2 => ?_, fun i d w e1 e2 => ?_⟩
  · by_cases hi : i < xs.length
    · simp only [hi, if_true] at z; exact .inl (f1 i b z)
    · simp only [hi, if_false] at z; exact .inr z.2
  · by_cases hi : i < xs.length
    · by_cases hj : j < xs.length
      · simp only [hi, hj, if_true] at z1 z2; exact f2 i j b z1 z2
      · simp only [hi, if_true] at z1
        simp only [hj, if_false] at z2
        exact absurd (f1 i b z1) (dj b z2.2)
    · by_cases hj : j < xs.length
      · simp only [hi, if_false] at z1
        simp only [hj, if_true] at z2
        exact absurd (f1 j b z2) (dj b z1.2)
      · simp only [hi, if_false] at z1
        simp only [hj, if_false] at z2
        rw [z1.1, z2.1]
  · by_cases hi : i < xs.length
    · rw [List.getElem?_append_left hi] at e1
      rw [List.getElem?_append_left (by rw [← l]; exact hi)] at e2
      exact (rr i d w e1 e2).mono fun b z => by simp only [hi, if_true]; exact z
    · have hl : i < (xs ++ [y]).length := (List.getElem?_eq_some_iff.mp e1).1
      have hi2 : i = xs.length := by simp at hl; omega
      subst hi2
      rw [List.getElem?_append_right (by omega)] at e1
      rw [l, List.getElem?_append_right (by omega)] at e2
      simp at e1 e2
      subst e1 e2
      exact r.mono fun b z => by simp only [hi, if_false]; exact ⟨trivial, z⟩
theorem rep_insM {H : Hp} {Z R : AS} {C : Str} {fs : List Str} {xs : List D} {v : V} (h : Rep H Z (.nd (.ins true C fs) xs) v R) :
    ∃ a dx vs, v = .ref a ∧ H a = some (.ins (He.ga TheK.K C) dx (fs.zip vs)) ∧ fs.length = vs.length ∧ R a ∧ RepA H Z xs vs (fun b => R b ∧ b ≠ a) := by
  cases h with
  | nd _ _ a vs _ F n l f1 f2 r =>
    obtain ⟨⟨dx, n1⟩, n2, n3⟩ := n
    exact ⟨a, dx, vs, rfl, n1, n2, n3, l, F, fun i b q => f1 i b q, f2, r⟩
section
variable {c : Str → List D → CRes} {X : Cx} {W : WX}
theorem s1_setF {i : Nat} {C f x : Str} {m : E} {e : Expr} {p q pos : Pos} (kk : X.K = TheK.K) (hN : X.N[i]? = some x) (hv : Vis X.env.scope x) (h1 : (x == ("__debug__" : Str)) = false) (h2 : (x == ("__classdict__" : Str)) = false) (nc : noComp e = true) (hc : Cls X.K (He.ga X.K C)) (hn : NoAttr X.K (He.ga X.K C) f) (h : SndV c X W m e) :
    Snd1 c X W (.setF i C f m) (.Assign [.Attribute (.Name x p) f q] e pos) := by
  obtain ⟨t, pe, s⟩ := h
  refine ⟨_, ps_fld (pe_var hN hv h1 h2) pe (noComp_swap nc _ _ _), fun σ H Z g O Dd st q => s σ H Z g O _ st ?_⟩
  have q : PostS X W [] σ H Z O Dd (((den c m).val g).st fun x g => own1 x g fun d g => (match g[i]? with
    | some (.nd (.ins true C' fs) xs) => if C' = C ∧ fs.contains f = false ∧ fs.length < 900 then .nx (g.set i (.nd (.ins true C' (fs ++ [f])) (xs ++ [d]))) else .no
    | _ => .no)) := q
  refine ((PostS.st st.oz q).xp st.oz).mono (fun _ _ z => z) fun y g1 _ k w H1 Z1 O1 R o1 va => ?_
  unfold own1 at k
  split at k
  case isFalse => exact k.elim
  rename_i hy
  dsimp only at k
  split at k
  case h_2 => exact k.elim
  rename_i C' fs xs hg
  split at k
  case isFalse => exact k.elim
  rename_i hcond
  obtain ⟨rfl, hf, hl9⟩ := hcond
  have ownw := va.own hy
  obtain ⟨v, R1, O', hs, r, s', hR, hO⟩ := o1.sit.take hg rfl
  obtain ⟨a, dx, vs, rfl, hi, hl, ra, rr⟩ := rep_insM r
  refine ⟨.ref a, hs, a, _, dx, _, rfl, by rw [kk]; exact hi, hc, hn, by rw [List.length_zip]; omega, ?_⟩
  rw [kk, putF_new hf hl]
  have za : Z1 a := o1.sit.oz a (hR a ra).1
  have nWa : ∀ b, R b → b ≠ a := fun b z e => (ownw b z).1 (by rw [e]; exact (hR a ra).1)
  have ex : Bm.Ext (fun b => b = a) H1 Z1 (upd H1 a (.ins (He.ga TheK.K C') dx ((fs ++ [f]).zip (vs ++ [w])))) Z1 := ext_at rfl fun b e => by rw [e]; exact za
  have zk : ZOk (upd H1 a (.ins (He.ga TheK.K C') dx ((fs ++ [f]).zip (vs ++ [w])))) Z1 := zok_at o1.sit.zok trivial
  have s2 := s'.extD zk ex fun b z e => (hR a ra).2 (by rw [← e]; exact z)
  have dj : ∀ b, R b → ¬ (R1 b ∧ b ≠ a) := fun b z w => (ownw b z).1 (hR b w.1).1
  have rn : Rep (upd H1 a (.ins (He.ga TheK.K C') dx ((fs ++ [f]).zip (vs ++ [w])))) Z1 (.nd (.ins true C' (fs ++ [f])) (xs ++ [y.1])) (.ref a) (fun b => R1 b ∨ R b) := by
    have rA : RepA (upd H1 a (.ins (He.ga TheK.K C') dx ((fs ++ [f]).zip (vs ++ [w])))) Z1 (xs ++ [y.1]) (vs ++ [w]) (fun b => (R1 b ∧ b ≠ a) ∨ R b) :=
      (rr.ext o1.sit.zok ex fun b z => z.2).snoc (va.rep.ext o1.sit.zok ex nWa) dj
    obtain ⟨l, F, f1, f2, rx⟩ := rA
    refine .nd _ _ a (vs ++ [w]) _ F ⟨⟨dx, upd_same⟩, by simp [hl], .inl ra⟩ l (fun j b z => ?_) f2 rx
    rcases f1 j b z with z | z
    · exact ⟨.inl z.1, z.2⟩
    · exact ⟨.inr z, nWa b z⟩
  have sit := s2.put hs rn fun b z => z.elim (fun z => ⟨o1.sit.oz b (hR b z).1, (hR b z).2⟩) fun z => ⟨va.rz b z, fun w => (ownw b z).1 (hO b w)⟩
  rw [List.set_set] at sit
  refine k σ _ Z1 _ ⟨sit, ?_, fun b z => ?_⟩ .refl
  · refine ⟨fun b z => st.oz b z.2, fun b o hb n => ?_, fun b z => o1.ext.zold b z, fun b z n => o1.ext.zkeep b z fun w => n ⟨rfl, w.2⟩⟩
    have q1 := o1.ext.same b o hb fun w => n ⟨rfl, w.2⟩
    refine ex.same b o q1 fun e => ?_
    subst e
    rcases o1.bnd b (hR b ra).1 with w | w
    · exact n ⟨rfl, w⟩
    · rw [w] at hb; cases hb
  · rcases z with z | z | z
    · exact o1.bnd b (hO b z)
    · exact o1.bnd b (hR b z).1
    · exact (ownw b z).2
end
end Bm

set_option maxHeartbeats 2000000
/-! B21: a matched expression does what its text says. -/
namespace Bm
open PySem PySem.Spec PyProof.Rows L2
variable [TheK]
def StoreOk (X : Cx) (st : Scope) : Prop := ∀ x, (st.names.lookup x = some .local → X.env.scope.names.lookup x = some .local) ∧ (st.names.lookup x = some .cell → X.env.scope.names.lookup x = some .cell ∧ X.fn x = true)
theorem seen_vis {sc : Scope} {x : Str} (h : seen sc x = true) : Vis sc x := by
  unfold seen at h
  unfold Vis
  split at h
  · exact .inl (by assumption)
  · exact .inr (.inl (by assumption))
  · exact .inr (.inr (by assumption))
  · cases h
theorem gl_is {X : Cx} {x : Str} (h : isGl X.env.scope x = true) : Gl X x := by
  unfold isGl at h
  split at h
  · assumption
  · cases h
theorem okName_is {x : Str} (h : okName x = true) : (x == ("__debug__" : Str)) = false ∧ (x == ("__classdict__" : Str)) = false ∧ (x == ("__name__" : Str)) = false := by
  unfold okName at h
  simp only [Bool.and_eq_true, Bool.not_eq_true'] at h
  exact ⟨h.1.1, h.1.2, h.2⟩
theorem slot_is {N : List Str} {X : Cx} {i : Nat} {e : Expr} (hN : X.N = N) (h : slotB N X.env.scope i e = true) : ∃ x p, e = .Name x p ∧ X.N[i]? = some x ∧ Vis X.env.scope x ∧ (x == ("__debug__" : Str)) = false ∧ (x == ("__classdict__" : Str)) = false := by
  unfold slotB at h
  split at h
  · rename_i x hx
    obtain ⟨p, rfl⟩ := xName_eq hx
    simp only [Bool.and_eq_true, decide_eq_true_eq] at h
    obtain ⟨h1, h2, _⟩ := okName_is h.2
    exact ⟨x, p, rfl, by rw [hN]; exact h.1.1, seen_vis h.1.2, h1, h2⟩
  · cases h
theorem loc_is {N : List Str} {X : Cx} {st : Scope} {i : Nat} {e : Expr} (hN : X.N = N) (so : StoreOk X st) (h : locB N st i e = true) : ∃ x p, e = .Name x p ∧ X.N[i]? = some x ∧ Loc X.env.scope x ∧ (X.fn x = true ∨ X.env.scope.names.lookup x = some .local) := by
  unfold locB at h
  split at h
  · rename_i x hx
    obtain ⟨p, rfl⟩ := xName_eq hx
    simp only [Bool.and_eq_true, Bool.or_eq_true, decide_eq_true_eq] at h
    rcases h.1.2 with k | k
    · exact ⟨x, p, rfl, by rw [hN]; exact h.1.1, .inl ((so x).1 k), .inr ((so x).1 k)⟩
    · exact ⟨x, p, rfl, by rw [hN]; exact h.1.1, .inr ((so x).2 k).1, .inl ((so x).2 k).2⟩
  · cases h
theorem pe_cst {X : Cx} {a : At} {e : Expr} (h : (match xConst e with
    | some k => cstB a k
    | none => false) = true) : PE X e (tC a.v) := by
  split at h
  · rename_i k hk
    obtain ⟨kk, p, rfl⟩ := xConst_eq hk
    unfold cstB at h
    split at h
    · exact pe_non
    · rename_i b c
      have : b = c := by simpa using h
      subst this
      exact pe_bl
    · rename_i i j
      have : i = j := of_decide_eq_true h
      subst this
      exact pe_int
    · rename_i x y
      have : x = y := of_decide_eq_true h
      subst this
      exact pe_str
    · cases h
  · cases h
section
variable {c : Str → List D → CRes}
theorem st_no {X : Cx} {W : WX} {m : E} {e : Expr} (h : ∀ g, (den c m).tst g = .no) : SndT c X W m e := ⟨fun _ _ _ => False, ⟨fun _ _ _ _ _ _ h => h.elim⟩, fun _ _ _ _ _ _ _ q => by rw [h] at q; exact q⟩
theorem ssr_no {X : Cx} {W : WX} {m : E} {e : Expr} (h : ∀ g, (den c m).lsr g = .no) : SndSr c X W m e := ⟨fun _ _ _ => False, ⟨fun _ _ _ _ _ _ h => h.elim⟩, fun _ _ _ _ _ _ _ q => by rw [h] at q; exact q⟩
structure AllE (c : Str → List D → CRes) (N : List Str) (G : Glb) (m : E) : Prop where
  val : ∀ {X : Cx} {W : WX}, Good c G N X W → ∀ e, (mt N G m).ex X.env.scope e = true → SndV c X W m e
  pln : ∀ sc e, (mt N G m).ex sc e = true → plainE e = true
  tst : ∀ {X : Cx} {W : WX}, Good c G N X W → ∀ e, (mt N G m).ex X.env.scope e = true → SndT c X W m e
  plc : ∀ {X : Cx} {W : WX}, Good c G N X W → ∀ e, (mt N G m).ex X.env.scope e = true → SndP c X W m e
  one : ∀ {X : Cx} {W : WX}, Good c G N X W → ∀ e, (mt N G m).ex X.env.scope e = true → SndOne c X W m e
  lsr : ∀ {X : Cx} {W : WX}, Good c G N X W → ∀ e, (mt N G m).ex X.env.scope e = true → SndSr c X W m e
  itr : ∀ {X : Cx} {W : WX}, Good c G N X W → ∀ tg e, (mt N G m).ex X.env.scope e = true → itOk m tg = true → SndI c X W tg m e
  lst : ∀ {X : Cx} {W : WX}, Good c G N X W → ∀ es, (mt N G m).es X.env.scope es = true → SndL c X W m es
  lpl : ∀ sc es, (mt N G m).es sc es = true → (∀ y ∈ es, plainE y = true) ∧ LenL c m es.length ∧ (es = [] → m = .nil)
  arg : ∀ {X : Cx} {W : WX}, Good c G N X W → ∀ es, (mt N G m).es X.env.scope es = true → SndA c X W m es
  ls1 : ∀ {X : Cx} {W : WX}, Good c G N X W → ∀ a, m = .cons a .nil → ∀ es, (mt N G m).es X.env.scope es = true → ∃ e, es = [e] ∧ plainE e = true ∧ SndSr c X W a e
  ls2 : ∀ {X : Cx} {W : WX}, Good c G N X W → ∀ a b, m = .cons a (.cons b .nil) → ∀ es, (mt N G m).es X.env.scope es = true → ∃ e1 e2, es = [e1, e2] ∧ plainE e1 = true ∧ plainE e2 = true ∧ SndSr c X W a e1 ∧ SndSr c X W b e2
  tg : ∀ {X : Cx} {W : WX}, Good c G N X W → ∀ st e, StoreOk X st → (mt N G m).tg st X.env.scope e = true → SndG c X W m e
  tgp : ∀ st sc e, (mt N G m).tg st sc e = true → plainE e = true
  tgs : ∀ {X : Cx} {W : WX}, Good c G N X W → ∀ st es, StoreOk X st → (mt N G m).tgs st X.env.scope es = true → SndGs c X W m es
  tgl : ∀ st sc es, (mt N G m).tgs st sc es = true → (∀ y ∈ es, plainE y = true) ∧ cntE m = es.length
  bov : ∀ {X : Cx} {W : WX}, Good c G N X W → ∀ op es, (mt N G m).bo op X.env.scope es = true → BoV c X W op m es
  bot : ∀ {X : Cx} {W : WX}, Good c G N X W → ∀ op es, (mt N G m).bo op X.env.scope es = true → BoT c X W op m es
  tts : ∀ {X : Cx} {W : WX}, Good c G N X W → ∀ es, (mt N G m).tst X.env.scope es = true → SndTs c X W m es
  prt : ∀ {X : Cx} {W : WX}, Good c G N X W → ∀ e, (mt N G m).prt X.env.scope e = true → SndO c X W m e
variable {N : List Str} {G : Glb}
theorem one_of {f : Scope → Expr → Bool} {sc : Scope} {es : List Expr} (h : (match es with
    | [e] => plainE e && f sc e
    | _ => false) = true) : ∃ e, es = [e] ∧ (plainE e && f sc e) = true := by
  split at h
  · exact ⟨_, rfl, h⟩
  · cases h
/-- an expression that is read as a value -/
theorem AllE.ord {m : E} {f : Scope → Expr → Bool} (hm : mt N G m = Mt.of f) (nc : ∀ a b, m ≠ .cons a b) (nv : ∀ i, m ≠ .var i) (nn : m ≠ .cst .non) (hplc : ∀ g, (den c m).plc g = .no) (hl : (den c m).lsr = lsrOf (den c m).val ∨ ∀ g, (den c m).lsr g = .no)
    (hval : ∀ {X : Cx} {W : WX}, Good c G N X W → ∀ e, plainE e = true → f X.env.scope e = true → SndV c X W m e) (htst : ∀ {X : Cx} {W : WX}, Good c G N X W → ∀ e, plainE e = true → f X.env.scope e = true → SndT c X W m e)
    (hitr : (∀ g, (den c m).itr g = itrOf (den c m).val g ∨ (den c m).itr g = .no) ∨ ∀ {X : Cx} {W : WX}, Good c G N X W → ∀ tg e, plainE e = true → f X.env.scope e = true → itOk m tg = true → SndI c X W tg m e) : AllE c N G m := by
  have ex : ∀ sc e, (mt N G m).ex sc e = true → plainE e = true ∧ f sc e = true := fun sc e h => by
    rw [hm] at h
    simpa [Mt.of] using h
  have val : ∀ {X : Cx} {W : WX}, Good c G N X W → ∀ e, (mt N G m).ex X.env.scope e = true → SndV c X W m e := fun gd e h => hval gd e (ex _ _ h).1 (ex _ _ h).2
  have tst : ∀ {X : Cx} {W : WX}, Good c G N X W → ∀ e, (mt N G m).ex X.env.scope e = true → SndT c X W m e := fun gd e h => htst gd e (ex _ _ h).1 (ex _ _ h).2
  have nes : ∀ sc es, (mt N G m).es sc es = true → False := fun sc es h => by rw [hm] at h; cases h
  have ntg : ∀ st sc e, (mt N G m).tg st sc e = true → False := fun st sc e h => by rw [hm] at h; cases h
  have ntgs : ∀ st sc e, (mt N G m).tgs st sc e = true → False := fun st sc e h => by rw [hm] at h; cases h
  refine ⟨val, fun sc e h => (ex sc e h).1, tst, fun gd e h => sp_no hplc, fun gd e h => so1_val nv (val gd e h), fun gd e h => ?_, fun gd tg e h ok => ?_, fun gd es h => (nes _ _ h).elim, fun sc es h => (nes _ _ h).elim, fun gd es h => (nes _ _ h).elim, fun gd a e => absurd e (nc _ _), fun gd a b e => absurd e (nc _ _), fun gd st e _ h => (ntg _ _ _ h).elim, fun st sc e h => (ntg _ _ _ h).elim, fun gd st es _ h => (ntgs _ _ _ h).elim, fun st sc es h => (ntgs _ _ _ h).elim, fun gd op es h => ?_, fun gd op es h => ?_, fun gd es h => ?_, fun gd e h => ?_⟩
  · exact hl.elim (fun hl => ssr_val (val gd e h) hl) ssr_no
  · exact hitr.elim (fun hi => si_val (val gd e h) hi) fun hi => hi gd tg e (ex _ _ h).1 (ex _ _ h).2 ok
  · rw [hm] at h
    obtain ⟨e, rfl, h⟩ := one_of h
    exact bov_one (val gd e (by rw [hm]; exact h))
  · rw [hm] at h
    obtain ⟨e, rfl, h⟩ := one_of h
    exact bot_one (tst gd e (by rw [hm]; exact h))
  · rw [hm] at h
    obtain ⟨e, rfl, h⟩ := one_of h
    exact sts_one (tst gd e (by rw [hm]; exact h))
  · rw [hm] at h
    cases e with
    | none => cases h
    | some e => exact so_some (val gd e (by rw [hm]; exact h)) nn
theorem Good.u64 {X : Cx} {W : WX} (g : Good c G N X W) : X.A.units + 64 < cLine := by have := g.units; omega
theorem Good.u128 {X : Cx} {W : WX} (g : Good c G N X W) : X.A.units + 128 < cLine := by have := g.units; omega
theorem all_mv (i : Nat) : AllE c N G (.mv i) :=
  have vl : ∀ {X : Cx} {W : WX}, Good c G N X W → ∀ e, plainE e = true → slotB N X.env.scope i e = true → SndV c X W (.mv i) e := fun gd e _ h => by
    obtain ⟨x, p, rfl, h1, h2, h3, h4⟩ := slot_is gd.hN h
    exact sv_mv h1 h2 h3 h4
  .ord rfl (fun _ _ e => by cases e) (fun _ e => by cases e) (fun e => by cases e) (fun _ => rfl) (.inl rfl) vl (fun gd e p h => by
    obtain ⟨x, p', rfl, _⟩ := slot_is gd.hN h
    exact st_val (vl gd _ p h) rfl rfl) (.inl fun _ => .inl rfl)
theorem all_glb (x : Str) (a : At) : AllE c N G (.glb x a) :=
  have nm : ∀ {X : Cx} {W : WX}, Good c G N X W → ∀ e, (match xName e with
      | some y => decide (y = x) && isGl X.env.scope x && okName x && decide ((x, a) ∈ G.consts)
      | none => false) = true → ∃ p, e = .Name x p ∧ SndV c X W (.glb x a) e := fun gd e h => by
    split at h
    · rename_i y hy
      obtain ⟨p, rfl⟩ := xName_eq hy
      simp only [Bool.and_eq_true, decide_eq_true_eq] at h
      obtain ⟨⟨⟨rfl, h2⟩, h3⟩, h4⟩ := h
      obtain ⟨u, hu, r⟩ := gd.consts _ _ h4
      exact ⟨p, rfl, sv_at (pe_glob (gl_is h2) hu r (okName_is h3).1) (fun _ e => by cases e) fun _ => rfl⟩
    · cases h
  .ord (f := fun sc e => match xName e with
      | some y => decide (y = x) && isGl sc x && okName x && decide ((x, a) ∈ G.consts)
      | none => false) rfl (fun _ _ e => by cases e) (fun _ e => by cases e) (fun e => by cases e) (fun _ => rfl) (.inl rfl) (fun gd e _ h => (nm gd e h).choose_spec.2) (fun gd e _ h => by
    obtain ⟨p, rfl, s⟩ := nm gd e h
    exact st_val s rfl rfl) (.inl fun _ => .inl rfl)
end
end Bm

set_option maxHeartbeats 2000000
/-! B22: the kinds of expressions, one by one. -/
namespace Bm
open PySem PySem.Spec PyProof.Rows L2
variable [TheK]
section
variable {c : Str → List D → CRes} {N : List Str} {G : Glb}
/-- as ord; it may be a target, a place -/
theorem AllE.ord2 {m : E} {f : Scope → Expr → Bool} (hex : (mt N G m).ex = (Mt.of f).ex) (hes : (mt N G m).es = (Mt.of f).es) (hbo : (mt N G m).bo = (Mt.of f).bo) (hts : (mt N G m).tst = (Mt.of f).tst) (hpr : (mt N G m).prt = (Mt.of f).prt) (htgs : (mt N G m).tgs = (Mt.of f).tgs)
    (nc : ∀ a b, m ≠ .cons a b) (nn : m ≠ .cst .non)
    (hval : ∀ {X : Cx} {W : WX}, Good c G N X W → ∀ e, plainE e = true → f X.env.scope e = true → SndV c X W m e) (htst : ∀ {X : Cx} {W : WX}, Good c G N X W → ∀ e, plainE e = true → f X.env.scope e = true → SndT c X W m e)
    (hplc : ∀ {X : Cx} {W : WX}, Good c G N X W → ∀ e, plainE e = true → f X.env.scope e = true → SndP c X W m e) (hone : ∀ {X : Cx} {W : WX}, Good c G N X W → ∀ e, plainE e = true → f X.env.scope e = true → SndOne c X W m e)
    (hlsr : ∀ {X : Cx} {W : WX}, Good c G N X W → ∀ e, plainE e = true → f X.env.scope e = true → SndSr c X W m e) (hitr : ∀ {X : Cx} {W : WX}, Good c G N X W → ∀ tg e, plainE e = true → f X.env.scope e = true → SndI c X W tg m e)
    (htg : ∀ {X : Cx} {W : WX}, Good c G N X W → ∀ st e, StoreOk X st → (mt N G m).tg st X.env.scope e = true → SndG c X W m e) (htgp : ∀ st sc e, (mt N G m).tg st sc e = true → plainE e = true) : AllE c N G m := by
  have ex : ∀ sc e, (mt N G m).ex sc e = true → plainE e = true ∧ f sc e = true := fun sc e h => by
    rw [hex] at h
    simpa [Mt.of] using h
  have val : ∀ {X : Cx} {W : WX}, Good c G N X W → ∀ e, (mt N G m).ex X.env.scope e = true → SndV c X W m e := fun gd e h => hval gd e (ex _ _ h).1 (ex _ _ h).2
  have tst : ∀ {X : Cx} {W : WX}, Good c G N X W → ∀ e, (mt N G m).ex X.env.scope e = true → SndT c X W m e := fun gd e h => htst gd e (ex _ _ h).1 (ex _ _ h).2
  have nes : ∀ sc es, (mt N G m).es sc es = true → False := fun sc es h => by rw [hes] at h; cases h
  have ntgs : ∀ st sc e, (mt N G m).tgs st sc e = true → False := fun st sc e h => by rw [htgs] at h; cases h
  refine ⟨val, fun sc e h => (ex sc e h).1, tst, fun gd e h => hplc gd e (ex _ _ h).1 (ex _ _ h).2, fun gd e h => hone gd e (ex _ _ h).1 (ex _ _ h).2, fun gd e h => hlsr gd e (ex _ _ h).1 (ex _ _ h).2, fun gd tg e h _ => hitr gd tg e (ex _ _ h).1 (ex _ _ h).2, fun gd es h => (nes _ _ h).elim, fun sc es h => (nes _ _ h).elim, fun gd es h => (nes _ _ h).elim, fun gd a e => absurd e (nc _ _), fun gd a b e => absurd e (nc _ _), htg, htgp, fun gd st es _ h => (ntgs _ _ _ h).elim, fun st sc es h => (ntgs _ _ _ h).elim, fun gd op es h => ?_, fun gd op es h => ?_, fun gd es h => ?_, fun gd e h => ?_⟩
  · rw [hbo] at h
    obtain ⟨e, rfl, h⟩ := one_of h
    exact bov_one (val gd e (by rw [hex]; exact h))
  · rw [hbo] at h
    obtain ⟨e, rfl, h⟩ := one_of h
    exact bot_one (tst gd e (by rw [hex]; exact h))
  · rw [hts] at h
    obtain ⟨e, rfl, h⟩ := one_of h
    exact sts_one (tst gd e (by rw [hex]; exact h))
  · rw [hpr] at h
    cases e with
    | none => cases h
    | some e => exact so_some (val gd e (by rw [hex]; exact h)) nn
theorem all_var (i : Nat) : AllE c N G (.var i) :=
  .ord2 (f := fun sc e => slotB N sc i e) rfl rfl rfl rfl rfl rfl (fun _ _ e => by cases e) (fun e => by cases e)
    (fun gd e _ h => by obtain ⟨x, p, rfl, h1, h2, h3, h4⟩ := slot_is gd.hN h; exact sv_var h1 h2 h3 h4)
    (fun gd e _ h => by obtain ⟨x, p, rfl, h1, h2, h3, h4⟩ := slot_is gd.hN h; exact st_val (sv_var h1 h2 h3 h4) rfl rfl)
    (fun gd e _ h => by obtain ⟨x, p, rfl, h1, h2, h3, h4⟩ := slot_is gd.hN h; exact sp_var h1 h2 h3 h4)
    (fun gd e _ h => by obtain ⟨x, p, rfl, h1, h2, h3, h4⟩ := slot_is gd.hN h; exact so1_var h1 h2 h3 h4)
    (fun gd e _ h => by obtain ⟨x, p, rfl, h1, h2, h3, h4⟩ := slot_is gd.hN h; exact ssr_var h1 h2 h3 h4)
    (fun gd tg e _ h => by obtain ⟨x, p, rfl, h1, h2, h3, h4⟩ := slot_is gd.hN h; exact si_var h1 h2 h3 h4)
    (fun gd st e so h => by obtain ⟨x, p, rfl, h1, h2, h3⟩ := loc_is gd.hN so h; exact sg_var (by rw [gd.hN]; exact gd.nd) h1 h2 h3)
    (fun st sc e h => by
      have h : locB N st i e = true := h
      unfold locB at h
      split at h
      · rename_i x hx
        obtain ⟨p, rfl⟩ := xName_eq hx
        rfl
      · cases h)
theorem xBin_p {e : Expr} {x : Expr × Operator × Expr} (h : xBin e = some x) : ∃ p, e = .BinOp x.1 x.2.1 x.2.2 p := by obtain ⟨a, o, b⟩ := x; exact xBin_eq h
theorem all_bin {o : BOp} {a b : E} (ha : AllE c N G a) (hb : AllE c N G b) : AllE c N G (.bin o a b) := by
  have nm : ∀ {X : Cx} {W : WX}, Good c G N X W → ∀ e, (match xBin e with
      | some (l, p, r) => bopB o p && (mt N G a).ex X.env.scope l && (mt N G b).ex X.env.scope r
      | none => false) = true → valTest e = true ∧ SndV c X W (.bin o a b) e := fun gd e h => by
    split at h
    · rename_i l p r hx
      obtain ⟨ps, rfl⟩ := xBin_eq hx
      simp only [Bool.and_eq_true] at h
      obtain rfl := bopB_eq h.1.1
      exact ⟨rfl, sv_bin (ha.val gd l h.1.2) (hb.val gd r h.2)⟩
    · cases h
  exact .ord (f := fun sc e => match xBin e with
      | some (l, p, r) => bopB o p && (mt N G a).ex sc l && (mt N G b).ex sc r
      | none => false) rfl (fun _ _ e => by cases e) (fun _ e => by cases e) (fun e => by cases e) (fun _ => rfl) (.inl rfl) (fun gd e _ h => (nm gd e h).2) (fun gd e _ h => st_val (nm gd e h).2 (nm gd e h).1 rfl) (.inl fun _ => .inl rfl)
theorem all_cmp {o : COp} {a b : E} (ha : AllE c N G a) (hb : AllE c N G b) : AllE c N G (.cmp o a b) := by
  have nm : ∀ {X : Cx} {W : WX}, Good c G N X W → ∀ e, (match xCmp e with
      | some (l, [p], [r]) => copB o p && (mt N G a).ex X.env.scope l && (mt N G b).ex X.env.scope r
      | _ => false) = true → SndV c X W (.cmp o a b) e ∧ SndT c X W (.cmp o a b) e := fun gd e h => by
    split at h
    · rename_i l p r hx
      obtain ⟨ps, rfl⟩ := xCmp_eq hx
      simp only [Bool.and_eq_true] at h
      obtain rfl := copB_eq h.1.1
      have hm := plain_mark (hb.pln _ _ h.2) (copOf o)
      exact ⟨sv_cmp gd.u64 hm (ha.val gd l h.1.2) (hb.val gd r h.2), st_cmp gd.u64 hm (ha.val gd l h.1.2) (hb.val gd r h.2)⟩
    · cases h
  exact .ord (f := fun sc e => match xCmp e with
      | some (l, [p], [r]) => copB o p && (mt N G a).ex sc l && (mt N G b).ex sc r
      | _ => false) rfl (fun _ _ e => by cases e) (fun _ e => by cases e) (fun e => by cases e) (fun _ => rfl) (.inr fun _ => rfl) (fun gd e _ h => (nm gd e h).1) (fun gd e _ h => (nm gd e h).2) (.inl fun _ => .inr rfl)
theorem all_cmp2 {o o' : COp} {a b d : E} (ha : AllE c N G a) (hb : AllE c N G b) (hd : AllE c N G d) : AllE c N G (.cmp2 o o' a b d) := by
  have nm : ∀ {X : Cx} {W : WX}, Good c G N X W → ∀ e, (match xCmp e with
      | some (l, [p, p'], [r, r']) => copB o p && copB o' p' && (mt N G a).ex X.env.scope l && (mt N G b).ex X.env.scope r && (mt N G d).ex X.env.scope r'
      | _ => false) = true → SndV c X W (.cmp2 o o' a b d) e ∧ SndT c X W (.cmp2 o o' a b d) e := fun gd e h => by
    split at h
    · rename_i l p p' r r' hx
      obtain ⟨ps, rfl⟩ := xCmp_eq hx
      simp only [Bool.and_eq_true] at h
      obtain ⟨⟨⟨⟨h1, h2⟩, h3⟩, h4⟩, h5⟩ := h
      obtain rfl := copB_eq h1
      obtain rfl := copB_eq h2
      have hm : lastMarks [copOf o, copOf o'] [r, r'] = false := plain_mark (hd.pln _ _ h5) (copOf o')
      exact ⟨sv_cmp2 gd.u64 hm (ha.val gd l h3) (hb.val gd r h4) (hd.val gd r' h5), st_cmp2 gd.u64 hm (ha.val gd l h3) (hb.val gd r h4) (hd.val gd r' h5)⟩
    · cases h
  exact .ord (f := fun sc e => match xCmp e with
      | some (l, [p, p'], [r, r']) => copB o p && copB o' p' && (mt N G a).ex sc l && (mt N G b).ex sc r && (mt N G d).ex sc r'
      | _ => false) rfl (fun _ _ e => by cases e) (fun _ e => by cases e) (fun e => by cases e) (fun _ => rfl) (.inr fun _ => rfl) (fun gd e _ h => (nm gd e h).1) (fun gd e _ h => (nm gd e h).2) (.inl fun _ => .inr rfl)
theorem all_neg {a : E} (ha : AllE c N G a) : AllE c N G (.neg a) := by
  have nm : ∀ {X : Cx} {W : WX}, Good c G N X W → ∀ e, (match xUn e with
      | some (.USub, x) => (mt N G a).ex X.env.scope x
      | _ => false) = true → SndV c X W (.neg a) e := fun gd e h => by
    split at h
    · rename_i x hx
      obtain ⟨ps, rfl⟩ := xUn_eq hx
      exact sv_neg (ha.val gd x h)
    · cases h
  exact .ord (f := fun sc e => match xUn e with
      | some (.USub, x) => (mt N G a).ex sc x
      | _ => false) rfl (fun _ _ e => by cases e) (fun _ e => by cases e) (fun e => by cases e) (fun _ => rfl) (.inl rfl) (fun gd e _ h => nm gd e h) (fun gd e _ h => st_no fun _ => rfl) (.inl fun _ => .inl rfl)
theorem all_not {a : E} (ha : AllE c N G a) : AllE c N G (.notE a) := by
  have nm : ∀ {X : Cx} {W : WX}, Good c G N X W → ∀ e, (match xUn e with
      | some (.Not, x) => (mt N G a).ex X.env.scope x
      | _ => false) = true → SndV c X W (.notE a) e ∧ SndT c X W (.notE a) e := fun gd e h => by
    split at h
    · rename_i x hx
      obtain ⟨ps, rfl⟩ := xUn_eq hx
      exact ⟨sv_not (ha.val gd x h), st_not (ha.tst gd x h)⟩
    · cases h
  exact .ord (f := fun sc e => match xUn e with
      | some (.Not, x) => (mt N G a).ex sc x
      | _ => false) rfl (fun _ _ e => by cases e) (fun _ e => by cases e) (fun e => by cases e) (fun _ => rfl) (.inl rfl) (fun gd e _ h => (nm gd e h).1) (fun gd e _ h => (nm gd e h).2) (.inl fun _ => .inl rfl)
theorem all_ife {t a b : E} (ht : AllE c N G t) (ha : AllE c N G a) (hb : AllE c N G b) : AllE c N G (.ife t a b) := by
  have nm : ∀ {X : Cx} {W : WX}, Good c G N X W → ∀ e, (match xIf e with
      | some (q, l, r) => (mt N G t).ex X.env.scope q && (mt N G a).ex X.env.scope l && (mt N G b).ex X.env.scope r
      | none => false) = true → SndV c X W (.ife t a b) e := fun gd e h => by
    split at h
    · rename_i q l r hx
      obtain ⟨ps, rfl⟩ := xIf_eq hx
      simp only [Bool.and_eq_true] at h
      exact sv_ife (ht.tst gd q h.1.1) (ha.val gd l h.1.2) (hb.val gd r h.2)
    · cases h
  exact .ord (f := fun sc e => match xIf e with
      | some (q, l, r) => (mt N G t).ex sc q && (mt N G a).ex sc l && (mt N G b).ex sc r
      | none => false) rfl (fun _ _ e => by cases e) (fun _ e => by cases e) (fun e => by cases e) (fun _ => rfl) (.inl rfl) (fun gd e _ h => nm gd e h) (fun gd e _ h => st_no fun _ => rfl) (.inl fun _ => .inl rfl)
theorem all_lst {a : E} (ha : AllE c N G a) : AllE c N G (.lstE a) := by
  have nm : ∀ {X : Cx} {W : WX}, Good c G N X W → ∀ e, (match xLst e with
      | some l => (mt N G a).es X.env.scope l
      | none => false) = true → valTest e = true ∧ SndV c X W (.lstE a) e := fun gd e h => by
    split at h
    · rename_i l hx
      obtain ⟨ps, rfl⟩ := xLst_eq hx
      exact ⟨rfl, sv_lst (ha.lst gd l h)⟩
    · cases h
  exact .ord (f := fun sc e => match xLst e with
      | some l => (mt N G a).es sc l
      | none => false) rfl (fun _ _ e => by cases e) (fun _ e => by cases e) (fun e => by cases e) (fun _ => rfl) (.inl rfl) (fun gd e _ h => (nm gd e h).2) (fun gd e _ h => st_val (nm gd e h).2 (nm gd e h).1 rfl) (.inl fun _ => .inl rfl)
theorem all_frz {a : E} (ha : AllE c N G a) : AllE c N G (.frz a) :=
  .ord (f := fun sc e => (mt N G a).ex sc e) rfl (fun _ _ e => by cases e) (fun _ e => by cases e) (fun e => by cases e) (fun _ => rfl) (.inl rfl) (fun gd e _ h => sv_frz (ha.val gd e h)) (fun gd e _ h => st_no fun _ => rfl) (.inl fun _ => .inl rfl)
theorem all_never : AllE c N G .never :=
  .ord (f := fun sc e => false) rfl (fun _ _ e => by cases e) (fun _ e => by cases e) (fun e => by cases e) (fun _ => rfl) (.inr fun _ => rfl) (fun gd e _ h => nomatch h) (fun gd e _ h => nomatch h) (.inl fun _ => .inr rfl)
theorem all_slc {a lo hi : E} (ha : AllE c N G a) (hl : AllE c N G lo) (hh : AllE c N G hi) : AllE c N G (.slc a lo hi) := by
  have nm : ∀ {X : Cx} {W : WX}, Good c G N X W → ∀ e, (match xSub e with
      | some (l, r) => (match xSlice r with
        | some (u, v, none) => (mt N G a).ex X.env.scope l && (mt N G lo).prt X.env.scope u && (mt N G hi).prt X.env.scope v
        | _ => false)
      | none => false) = true → valTest e = true ∧ SndV c X W (.slc a lo hi) e := fun gd e h => by
    split at h
    · rename_i l r hx
      obtain ⟨ps, rfl⟩ := xSub_eq hx
      split at h
      · rename_i u v hy
        obtain ⟨p2, rfl⟩ := xSlice_eq hy
        simp only [Bool.and_eq_true] at h
        exact ⟨rfl, sv_slc gd.kk (ha.val gd l h.1.1) (hl.prt gd u h.1.2) (hh.prt gd v h.2)⟩
      · cases h
    · cases h
  exact .ord (f := fun sc e => match xSub e with
      | some (l, r) => (match xSlice r with
        | some (u, v, none) => (mt N G a).ex sc l && (mt N G lo).prt sc u && (mt N G hi).prt sc v
        | _ => false)
      | none => false) rfl (fun _ _ e => by cases e) (fun _ e => by cases e) (fun e => by cases e) (fun _ => rfl) (.inl rfl) (fun gd e _ h => (nm gd e h).2) (fun gd e _ h => st_val (nm gd e h).2 (nm gd e h).1 rfl) (.inl fun _ => .inl rfl)
theorem all_rev {a : E} (ha : AllE c N G a) : AllE c N G (.rev a) := by
  have nm : ∀ {X : Cx} {W : WX}, Good c G N X W → ∀ e, (match xSub e with
      | some (l, r) => (match xSlice r with
        | some (none, none, some s) => (match xUn s with
          | some (.USub, k) => (match xConst k with
            | some (.int i) => decide (i = 1) && (mt N G a).ex X.env.scope l
            | _ => false)
          | _ => false)
        | _ => false)
      | none => false) = true → valTest e = true ∧ SndV c X W (.rev a) e := fun gd e h => by
    split at h
    · rename_i l r hx
      obtain ⟨ps, rfl⟩ := xSub_eq hx
      split at h
      · rename_i s hy
        obtain ⟨p2, rfl⟩ := xSlice_eq hy
        split at h
        · rename_i k hz
          obtain ⟨p3, rfl⟩ := xUn_eq hz
          split at h
          · rename_i i hw
            obtain ⟨kk, p4, rfl⟩ := xConst_eq hw
            simp only [Bool.and_eq_true, decide_eq_true_eq] at h
            obtain ⟨rfl, h⟩ := h
            exact ⟨rfl, sv_rev (ha.val gd l h)⟩
          · cases h
        · cases h
      · cases h
    · cases h
  exact .ord (f := fun sc e => match xSub e with
      | some (l, r) => (match xSlice r with
        | some (none, none, some s) => (match xUn s with
          | some (.USub, k) => (match xConst k with
            | some (.int i) => decide (i = 1) && (mt N G a).ex sc l
            | _ => false)
          | _ => false)
        | _ => false)
      | none => false) rfl (fun _ _ e => by cases e) (fun _ e => by cases e) (fun e => by cases e) (fun _ => rfl) (.inl rfl) (fun gd e _ h => (nm gd e h).2) (fun gd e _ h => st_val (nm gd e h).2 (nm gd e h).1 rfl) (.inl fun _ => .inl rfl)
theorem all_call {f : Str} {a : E} (ha : AllE c N G a) : AllE c N G (.call f a) := by
  have nm : ∀ {X : Cx} {W : WX}, Good c G N X W → ∀ e, (match xCall e with
      | some (n, as, []) => (match xName n with
        | some x => decide (x = f) && isGl X.env.scope x && okName x && decide (x ∈ G.defs) && decide (G.kind x = .fn) && (mt N G a).es X.env.scope as
        | none => false)
      | _ => false) = true → valTest e = true ∧ SndV c X W (.call f a) e := fun gd e h => by
    split at h
    · rename_i n as hx
      obtain ⟨ps, rfl⟩ := xCall_eq hx
      split at h
      · rename_i x hy
        obtain ⟨p2, rfl⟩ := xName_eq hy
        simp only [Bool.and_eq_true, decide_eq_true_eq] at h
        obtain ⟨⟨⟨⟨⟨rfl, h2⟩, h3⟩, h4⟩, hkd⟩, h5⟩ := h
        obtain ⟨pl, _, h0⟩ := ha.lpl _ _ h5
        exact ⟨rfl, sv_call (by rw [← hkd]; exact gd.defs _ h4) (gl_is h2) gd.tk (okName_is h3).1 pl (ha.arg gd as h5) h0⟩
      · cases h
    · cases h
  exact .ord (f := fun sc e => match xCall e with
      | some (n, as, []) => (match xName n with
        | some x => decide (x = f) && isGl sc x && okName x && decide (x ∈ G.defs) && decide (G.kind x = .fn) && (mt N G a).es sc as
        | none => false)
      | _ => false) rfl (fun _ _ e => by cases e) (fun _ e => by cases e) (fun e => by cases e) (fun _ => rfl) (.inl rfl) (fun gd e _ h => (nm gd e h).2) (fun gd e _ h => st_val (nm gd e h).2 (nm gd e h).1 rfl) (.inl fun _ => .inl rfl)
theorem all_lm {m : Lm} {a b : E} (ha : AllE c N G a) (hb : AllE c N G b) : AllE c N G (.lm m a b) := by
  have nm : ∀ {X : Cx} {W : WX}, Good c G N X W → ∀ e, (match xMeth e with
      | some (o, x, as, ln) => decide (x = lmName m) && ln && decide (as.length < 29) && baseOk o && (mt N G a).ex X.env.scope o && (mt N G b).es X.env.scope as
      | none => false) = true → valTest e = true ∧ SndV c X W (.lm m a b) e := fun gd e h => by
    split at h
    · rename_i o x as ln hx
      obtain ⟨ap, ps, rfl, hl⟩ := xMeth_eq hx
      simp only [Bool.and_eq_true, decide_eq_true_eq] at h
      obtain ⟨⟨⟨⟨⟨rfl, h2⟩, h3⟩, h4⟩, h5⟩, h6⟩ := h
      obtain ⟨pl, _, h0⟩ := hb.lpl _ _ h6
      refine ⟨rfl, ?_⟩
      cases as with
      | nil =>
        rw [h0 rfl]
        exact sv_lm0 h4 (by rw [hl]; exact h2) (ha.plc gd o h5)
      | cons e r => exact sv_lm h4 (by simp at h3; omega) (by rw [hl]; exact h2) pl (ha.plc gd o h5) (hb.lst gd _ h6)
    · cases h
  exact .ord (f := fun sc e => match xMeth e with
      | some (o, x, as, ln) => decide (x = lmName m) && ln && decide (as.length < 29) && baseOk o && (mt N G a).ex sc o && (mt N G b).es sc as
      | none => false) rfl (fun _ _ e => by cases e) (fun _ e => by cases e) (fun e => by cases e) (fun _ => rfl) (.inl rfl) (fun gd e _ h => (nm gd e h).2) (fun gd e _ h => st_val (nm gd e h).2 (nm gd e h).1 rfl) (.inl fun _ => .inl rfl)
end
end Bm

set_option maxHeartbeats 2000000
/-! B23: the other kinds, and all. -/
namespace Bm
open PySem PySem.Spec PyProof.Rows L2
variable [TheK]
section
variable {c : Str → List D → CRes} {N : List Str} {G : Glb}
theorem all_idx {a j : E} (ha : AllE c N G a) (hj : AllE c N G j) : AllE c N G (.idx a j) := by
  have nm : ∀ {X : Cx} {W : WX}, Good c G N X W → ∀ e, (match xSub e with
      | some (l, r) => (mt N G a).ex X.env.scope l && (mt N G j).ex X.env.scope r
      | none => false) = true → valTest e = true ∧ SndV c X W (.idx a j) e ∧ SndP c X W (.idx a j) e := fun gd e h => by
    split at h
    · rename_i l r hx
      obtain ⟨ps, rfl⟩ := xSub_eq hx
      simp only [Bool.and_eq_true] at h
      exact ⟨rfl, sv_idx (hj.pln _ _ h.2) (ha.val gd l h.1) (hj.val gd r h.2), sp_idx (hj.pln _ _ h.2) (ha.plc gd l h.1) (hj.val gd r h.2)⟩
    · cases h
  refine .ord2 (f := fun sc e => match xSub e with
      | some (l, r) => (mt N G a).ex sc l && (mt N G j).ex sc r
      | none => false) rfl rfl rfl rfl rfl rfl (fun _ _ e => by cases e) (fun e => by cases e) (fun gd e _ h => (nm gd e h).2.1) (fun gd e _ h => st_val (nm gd e h).2.1 (nm gd e h).1 rfl) (fun gd e _ h => (nm gd e h).2.2) (fun gd e _ h => so1_val (fun _ e => by cases e) (nm gd e h).2.1) (fun gd e _ h => ssr_val (nm gd e h).2.1 rfl) (fun gd tg e _ h => si_val (nm gd e h).2.1 fun _ => .inl rfl) (fun {X W} gd st e _ h => ?_) fun st sc e h => ?_
  · replace h : (match xSub e with
        | some (l, r) => plainE r && (mt N G a).ex X.env.scope l && (mt N G j).ex X.env.scope r
        | none => false) = true := h
    split at h
    · rename_i l r hx
      obtain ⟨ps, rfl⟩ := xSub_eq hx
      simp only [Bool.and_eq_true] at h
      exact sg_idx h.1.1 (ha.plc gd l h.1.2) (hj.val gd r h.2)
    · cases h
  · replace h : (match xSub e with
        | some (l, r) => plainE r && (mt N G a).ex sc l && (mt N G j).ex sc r
        | none => false) = true := h
    split at h
    · rename_i l r hx
      obtain ⟨ps, rfl⟩ := xSub_eq hx
      rfl
    · cases h
theorem all_tup {a : E} (ha : AllE c N G a) : AllE c N G (.tupE a) := by
  have nm : ∀ {X : Cx} {W : WX}, Good c G N X W → ∀ e, (match xTup e with
      | some l => (mt N G a).es X.env.scope l
      | none => false) = true → valTest e = true ∧ SndV c X W (.tupE a) e := fun gd e h => by
    split at h
    · rename_i l hx
      obtain ⟨k, ps, rfl⟩ := xTup_eq hx
      exact ⟨rfl, sv_tup (ha.lst gd l h)⟩
    · cases h
  refine .ord2 (f := fun sc e => match xTup e with
      | some l => (mt N G a).es sc l
      | none => false) rfl rfl rfl rfl rfl rfl (fun _ _ e => by cases e) (fun e => by cases e) (fun gd e _ h => (nm gd e h).2) (fun gd e _ h => st_val (nm gd e h).2 (nm gd e h).1 rfl) (fun gd e _ h => sp_no fun _ => rfl) (fun gd e _ h => so1_val (fun _ e => by cases e) (nm gd e h).2) (fun gd e _ h => ssr_val (nm gd e h).2 rfl) (fun gd tg e _ h => si_val (nm gd e h).2 fun _ => .inl rfl) (fun {X W} gd st e so h => ?_) fun st sc e h => ?_
  · replace h : (match xTup e with
        | some l => (mt N G a).tgs st X.env.scope l
        | none => false) = true := h
    split at h
    · rename_i l hx
      obtain ⟨k, ps, rfl⟩ := xTup_eq hx
      obtain ⟨pl, hn⟩ := ha.tgl _ _ _ h
      exact sg_tup gd.calm pl hn (ha.tgs gd st l so h)
    · cases h
  · replace h : (match xTup e with
        | some l => (mt N G a).tgs st sc l
        | none => false) = true := h
    split at h
    · rename_i l hx
      obtain ⟨k, ps, rfl⟩ := xTup_eq hx
      rfl
    · cases h
theorem all_blt {b : Blt} {a : E} (ha : AllE c N G a) : AllE c N G (.blt b a) := by
  have nm : ∀ {X : Cx} {W : WX}, Good c G N X W → ∀ e, (match xCall e with
      | some (n, as, []) => (match xName n with
        | some x => rngOk b as && decide (x = bltName b) && isGl X.env.scope x && okName x && decide (x ∈ G.free) && (mt N G a).es X.env.scope as
        | none => false)
      | _ => false) = true → ∃ as p pos, e = .Call (.Name (bltName b) p) as [] pos ∧ rngOk b as = true ∧ Gl X (bltName b) ∧ X.mg (bltName b) = none ∧ (mt N G a).es X.env.scope as = true := fun gd e h => by
    split at h
    · rename_i n as hx
      obtain ⟨ps, rfl⟩ := xCall_eq hx
      split at h
      · rename_i x hy
        obtain ⟨p2, rfl⟩ := xName_eq hy
        simp only [Bool.and_eq_true, decide_eq_true_eq] at h
        obtain ⟨⟨⟨⟨⟨h0, rfl⟩, h2⟩, h3⟩, h4⟩, h5⟩ := h
        exact ⟨as, p2, ps, rfl, h0, gl_is h2, gd.free _ h4, h5⟩
      · cases h
    · cases h
  have vl : ∀ {X : Cx} {W : WX}, Good c G N X W → ∀ e, (match xCall e with
      | some (n, as, []) => (match xName n with
        | some x => rngOk b as && decide (x = bltName b) && isGl X.env.scope x && okName x && decide (x ∈ G.free) && (mt N G a).es X.env.scope as
        | none => false)
      | _ => false) = true → SndV c X W (.blt b a) e := fun gd e h => by
    obtain ⟨as, p, pos, rfl, _, h1, h2, h3⟩ := nm gd e h
    obtain ⟨pl, _, h0⟩ := ha.lpl _ _ h3
    cases as with
    | nil =>
      rw [h0 rfl]
      refine sv_no fun g => ?_
      show ofO (bltD b []) g = .no
      cases b <;> rfl
    | cons e r => exact sv_blt gd.calm gd.u128 gd.grd h1 h2 pl (ha.lst gd _ h3)
  refine .ord (f := fun sc e => match xCall e with
      | some (n, as, []) => (match xName n with
        | some x => rngOk b as && decide (x = bltName b) && isGl sc x && okName x && decide (x ∈ G.free) && (mt N G a).es sc as
        | none => false)
      | _ => false) rfl (fun _ _ e => by cases e) (fun _ e => by cases e) (fun e => by cases e) (fun _ => rfl) (.inl rfl) (fun gd e _ h => vl gd e h) (fun gd e _ h => ?_) (.inr fun {X W} gd tg e _ h ok => ?_)
  · obtain ⟨as, p, pos, rfl, _⟩ := nm gd e h
    exact st_val (vl gd _ h) rfl rfl
  · obtain ⟨as, p, pos, rfl, h0, h1, h2, h3⟩ := nm gd e h
    obtain ⟨pl, hl, _⟩ := ha.lpl _ _ h3
    have other : (∀ g, (den c (.blt b a)).itr g = itrOf (den c (.blt b a)).val g) → SndI c X W tg (.blt b a) (.Call (.Name (bltName b) p) as [] pos) := fun hi => si_val (vl gd _ h) fun g => .inl (hi g)
    cases b with
    | range => exact si_range h1 h2 (ha.lst gd _ h3) hl (of_decide_eq_true h0) pl
    | enumerate =>
      unfold itOk at ok
      split at ok
      · rename_i m e1
        cases e1
        obtain ⟨es, k, tp, rfl⟩ := isTup_eq ok
        obtain ⟨e, rfl, pe, s⟩ := ha.ls1 gd m rfl _ h3
        exact si_enum h1 h2 s pe
      · rename_i e1; cases e1
      · cases ok
      · cases ok
      · rename_i n1 n2 n3 n4
        exact absurd rfl (n3 _)
    | zip =>
      unfold itOk at ok
      split at ok
      · rename_i e1; cases e1
      · rename_i m m2 e1
        cases e1
        obtain ⟨es, k, tp, rfl⟩ := isTup_eq ok
        obtain ⟨e, e2, rfl, pe, pe2, s, s2⟩ := ha.ls2 gd m m2 rfl _ h3
        exact si_zip h1 h2 s s2 pe pe2
      · cases ok
      · cases ok
      · rename_i n1 n2 n3 n4
        exact absurd rfl (n4 _)
    | _ => exact other fun _ => rfl
end
end Bm

set_option maxHeartbeats 2000000
/-! B24: comprehensions, lists, and all expressions. -/
namespace Bm
open PySem PySem.Spec PyProof.Rows L2
variable [TheK]
section
variable {c : Str → List D → CRes} {N : List Str} {G : Glb}
theorem Good.blk {X : Cx} {W : WX} (g : Good c G N X W) {scope : Scope} {own : List (Str × Nat)} (ok : BlkOk X.N X.env.scope scope own) (s : Shared) (H : Hp) (C : Addr) (cl : List (Str × Addr)) (fp : List Addr) :
    Good c G N (X.blk s H scope (compEnvC scope cl C X.env) fp) (fun _ _ _ _ => False) where
  hN := g.hN
  nd := g.nd
  calm := g.calm
  consts := g.consts
  free := g.free
  units := g.units
  grd := g.grd
  hd := g.hd
  defs := fun x hx => g.defs x hx
  cls := g.cls
  flds := g.flds
  fk := ok.kind
  kk := g.kk
  tk := fun u s' ⟨_, _, _, _, _, _, _, _, _, _, _, _, _, _, _, _, w⟩ => w
theorem StoreOk.blk {X : Cx} {scope : Scope} (s : Shared) (H : Hp) (C : Addr) (cl : List (Str × Addr)) (fp : List Addr) : StoreOk (X.blk s H scope (compEnvC scope cl C X.env) fp) scope := fun x =>
  ⟨fun h => lookup_relS_keep (by simp) h, fun h => ⟨lookup_relS_keep (by simp) h, by show (scope.names.lookup x == some .cell) = true; rw [h]; rfl⟩⟩
/-- a comprehension's parts -/
theorem comp_parts {elt tg it tst : E} {own : List Nat} (he : AllE c N G elt) (ht : AllE c N G tg) (hi : AllE c N G it) (hs : AllE c N G tst) {X : Cx} {W : WX} (gd : Good c G N X W) {x t i : Expr} {ifs : List Expr} {scope : Scope}
    (h : (blkB N X.env.scope scope own && (mt N G it).ex X.env.scope i && (mt N G tg).tg scope (relS scope X.env.scope) t && namesOnly tg && itOk it t && (mt N G tst).tst (relS scope X.env.scope) ifs && (mt N G elt).ex (relS scope X.env.scope) x
          && (asgE tg).all fun i => own.contains i) = true) : ∃ ownp : List (Str × Nat), ownp.map (·.2) = own ∧ BlkOk X.N X.env.scope scope ownp ∧ SndI c X W t it i ∧ (∀ i, i ∈ asgE tg → i ∈ own) ∧
      (∀ (s : Shared) (H : Hp) (C : Addr) (cl : List (Str × Addr)) (fp : List Addr), SndG c (X.blk s H scope (compEnvC scope cl C X.env) fp) (fun _ _ _ _ => False) tg t) ∧
      (∀ (s : Shared) (H : Hp) (C : Addr) (cl : List (Str × Addr)) (fp : List Addr), SndTs c (X.blk s H scope (compEnvC scope cl C X.env) fp) (fun _ _ _ _ => False) tst ifs) ∧
      (∀ (s : Shared) (H : Hp) (C : Addr) (cl : List (Str × Addr)) (fp : List Addr), SndV c (X.blk s H scope (compEnvC scope cl C X.env) fp) (fun _ _ _ _ => False) elt x) ∧ ∀ y, foldedSetIterable i X.env y = pure y := by
  simp only [Bool.and_eq_true] at h
  obtain ⟨⟨⟨⟨⟨⟨⟨h1, h2⟩, h3⟩, h4⟩, h5⟩, h6⟩, h7⟩, h8⟩ := h
  unfold blkB at h1
  rw [Bool.and_eq_true] at h1
  have ok := blkOk_by h1.1
  rw [← gd.hN] at ok
  refine ⟨_, ?_, ok, hi.itr gd t i h2 h5, fun j hj => by simpa using List.all_eq_true.mp h8 j hj, fun s H C cl fp => ht.tg (gd.blk ok s H C cl fp) scope t (StoreOk.blk s H C cl fp) h3, fun s H C cl fp => hs.tts (gd.blk ok s H C cl fp) ifs h6, fun s H C cl fp => he.val (gd.blk ok s H C cl fp) x h7, fun y => plain_fold (hi.pln _ _ h2) _ y⟩
  simp [List.map_map, Function.comp_def]
theorem all_comp {elt tg it tst : E} {own : List Nat} (he : AllE c N G elt) (ht : AllE c N G tg) (hi : AllE c N G it) (hs : AllE c N G tst) : AllE c N G (.comp elt tg it tst own) := by
  have nm : ∀ {X : Cx} {W : WX}, Good c G N X W → ∀ e, (match xComp e with
      | some (x, [⟨t, i, ifs, 0⟩], scope) => blkB N X.env.scope scope own && (mt N G it).ex X.env.scope i && (mt N G tg).tg scope (relS scope X.env.scope) t && namesOnly tg && itOk it t && (mt N G tst).tst (relS scope X.env.scope) ifs && (mt N G elt).ex (relS scope X.env.scope) x
          && (asgE tg).all fun i => own.contains i
      | _ => false) = true → valTest e = true ∧ SndV c X W (.comp elt tg it tst own) e := fun gd e h => by
    split at h
    · rename_i x t i ifs scope hx
      obtain ⟨ps, rfl⟩ := xComp_eq hx
      obtain ⟨ownp, h1, h2, h3, h4, h5, h6, h7, h8⟩ := comp_parts he ht hi hs gd h
      exact ⟨rfl, sv_comp gd.calm (by rw [gd.hN]; exact gd.nd) h3 h2 h1 h4 h5 h6 h7 h8⟩
    · cases h
  exact .ord (f := fun sc e => match xComp e with
      | some (x, [⟨t, i, ifs, 0⟩], scope) => blkB N sc scope own && (mt N G it).ex sc i && (mt N G tg).tg scope (relS scope sc) t && namesOnly tg && itOk it t && (mt N G tst).tst (relS scope sc) ifs && (mt N G elt).ex (relS scope sc) x
          && (asgE tg).all fun i => own.contains i
      | _ => false) rfl (fun _ _ e => by cases e) (fun _ e => by cases e) (fun e => by cases e) (fun _ => rfl) (.inl rfl) (fun gd e _ h => (nm gd e h).2) (fun gd e _ h => st_val (nm gd e h).2 (nm gd e h).1 rfl) (.inl fun _ => .inl rfl)
theorem comp2_parts {elt tg it tst tg1 it1 tst1 : E} {own own1 : List Nat} (he : AllE c N G elt) (ht : AllE c N G tg) (hi : AllE c N G it) (hs : AllE c N G tst) (ht1 : AllE c N G tg1) (hi1 : AllE c N G it1) (hs1 : AllE c N G tst1) {X : Cx} {W : WX} (gd : Good c G N X W) {x t i t1 i1 : Expr} {ifs ifs1 : List Expr} {scope : Scope}
    (h : (blkB N X.env.scope scope own && (mt N G it).ex X.env.scope i && (mt N G tg).tg scope (relS scope X.env.scope) t && namesOnly tg && itOk it t && (mt N G tst).tst (relS scope X.env.scope) ifs && (mt N G elt).ex (relS scope X.env.scope) x
          && ((asgE tg).all fun i => own.contains i) && (mt N G it1).ex (relS scope X.env.scope) i1 && (mt N G tg1).tg scope (relS scope X.env.scope) t1 && namesOnly tg1 && itOk it1 t1 && (mt N G tst1).tst (relS scope X.env.scope) ifs1 && ((asgE tg1).all fun i => own1.contains i) && own1.all fun i => own.contains i) = true) :
      ∃ ownp : List (Str × Nat), ownp.map (·.2) = own ∧ BlkOk X.N X.env.scope scope ownp ∧ SndI c X W t it i ∧ (∀ i, i ∈ asgE tg → i ∈ own) ∧ (∀ i, i ∈ asgE tg1 → i ∈ own1) ∧ (∀ i, i ∈ own1 → i ∈ own) ∧
      (∀ (s : Shared) (H : Hp) (C : Addr) (cl : List (Str × Addr)) (fp : List Addr), SndG c (X.blk s H scope (compEnvC scope cl C X.env) fp) (fun _ _ _ _ => False) tg t) ∧
      (∀ (s : Shared) (H : Hp) (C : Addr) (cl : List (Str × Addr)) (fp : List Addr), SndTs c (X.blk s H scope (compEnvC scope cl C X.env) fp) (fun _ _ _ _ => False) tst ifs) ∧
      (∀ (s : Shared) (H : Hp) (C : Addr) (cl : List (Str × Addr)) (fp : List Addr), SndI c (X.blk s H scope (compEnvC scope cl C X.env) fp) (fun _ _ _ _ => False) t1 it1 i1) ∧
      (∀ (s : Shared) (H : Hp) (C : Addr) (cl : List (Str × Addr)) (fp : List Addr), SndG c (X.blk s H scope (compEnvC scope cl C X.env) fp) (fun _ _ _ _ => False) tg1 t1) ∧
      (∀ (s : Shared) (H : Hp) (C : Addr) (cl : List (Str × Addr)) (fp : List Addr), SndTs c (X.blk s H scope (compEnvC scope cl C X.env) fp) (fun _ _ _ _ => False) tst1 ifs1) ∧
      (∀ (s : Shared) (H : Hp) (C : Addr) (cl : List (Str × Addr)) (fp : List Addr), SndV c (X.blk s H scope (compEnvC scope cl C X.env) fp) (fun _ _ _ _ => False) elt x) ∧ (∀ y, foldedSetIterable i X.env y = pure y) ∧ ∀ env y, foldedSetIterable i1 env y = pure y := by
  simp only [Bool.and_eq_true] at h
  obtain ⟨⟨⟨⟨⟨⟨⟨⟨⟨⟨⟨⟨⟨⟨h1, h2⟩, h3⟩, h4⟩, h5⟩, h6⟩, h7⟩, h8⟩, k2⟩, k3⟩, k4⟩, k5⟩, k6⟩, k7⟩, k8⟩ := h
  unfold blkB at h1
  rw [Bool.and_eq_true] at h1
  have ok := blkOk_by h1.1
  rw [← gd.hN] at ok
  refine ⟨_, ?_, ok, hi.itr gd t i h2 h5, fun j hj => by simpa using List.all_eq_true.mp h8 j hj, fun j hj => by simpa using List.all_eq_true.mp k7 j hj, fun j hj => by simpa using List.all_eq_true.mp k8 j hj, fun s H C cl fp => ht.tg (gd.blk ok s H C cl fp) scope t (StoreOk.blk s H C cl fp) h3, fun s H C cl fp => hs.tts (gd.blk ok s H C cl fp) ifs h6, fun s H C cl fp => hi1.itr (gd.blk ok s H C cl fp) t1 i1 k2 k5, fun s H C cl fp => ht1.tg (gd.blk ok s H C cl fp) scope t1 (StoreOk.blk s H C cl fp) k3, fun s H C cl fp => hs1.tts (gd.blk ok s H C cl fp) ifs1 k6, fun s H C cl fp => he.val (gd.blk ok s H C cl fp) x h7, fun y => plain_fold (hi.pln _ _ h2) _ y, fun env y => plain_fold (hi1.pln _ _ k2) _ y⟩
  simp [List.map_map, Function.comp_def]
theorem all_comp2 {elt tg it tst tg1 it1 tst1 : E} {own own1 : List Nat} (he : AllE c N G elt) (ht : AllE c N G tg) (hi : AllE c N G it) (hs : AllE c N G tst) (ht1 : AllE c N G tg1) (hi1 : AllE c N G it1) (hs1 : AllE c N G tst1) : AllE c N G (.comp2 elt tg it tst tg1 it1 tst1 own own1) := by
  have nm : ∀ {X : Cx} {W : WX}, Good c G N X W → ∀ e, (match xComp e with
      | some (x, [⟨t, i, ifs, 0⟩, ⟨t1, i1, ifs1, 0⟩], scope) => blkB N X.env.scope scope own && (mt N G it).ex X.env.scope i && (mt N G tg).tg scope (relS scope X.env.scope) t && namesOnly tg && itOk it t && (mt N G tst).tst (relS scope X.env.scope) ifs && (mt N G elt).ex (relS scope X.env.scope) x
          && ((asgE tg).all fun i => own.contains i) && (mt N G it1).ex (relS scope X.env.scope) i1 && (mt N G tg1).tg scope (relS scope X.env.scope) t1 && namesOnly tg1 && itOk it1 t1 && (mt N G tst1).tst (relS scope X.env.scope) ifs1 && ((asgE tg1).all fun i => own1.contains i) && own1.all fun i => own.contains i
      | _ => false) = true → valTest e = true ∧ SndV c X W (.comp2 elt tg it tst tg1 it1 tst1 own own1) e := fun gd e h => by
    split at h
    · rename_i x t i ifs t1 i1 ifs1 scope hx
      obtain ⟨ps, rfl⟩ := xComp_eq hx
      obtain ⟨ownp, h1, h2, h3, h4, h5, h6, h7, h8, h9, h10, h11, h12, h13, h14⟩ := comp2_parts he ht hi hs ht1 hi1 hs1 gd h
      exact ⟨rfl, sv_comp2 gd.calm (by rw [gd.hN]; exact gd.nd) h3 h2 h1 h4 h5 h6 h7 h8 h9 h10 h11 h12 h13 h14⟩
    · cases h
  exact .ord (f := fun sc e => match xComp e with
      | some (x, [⟨t, i, ifs, 0⟩, ⟨t1, i1, ifs1, 0⟩], scope) => blkB N sc scope own && (mt N G it).ex sc i && (mt N G tg).tg scope (relS scope sc) t && namesOnly tg && itOk it t && (mt N G tst).tst (relS scope sc) ifs && (mt N G elt).ex (relS scope sc) x
          && ((asgE tg).all fun i => own.contains i) && (mt N G it1).ex (relS scope sc) i1 && (mt N G tg1).tg scope (relS scope sc) t1 && namesOnly tg1 && itOk it1 t1 && (mt N G tst1).tst (relS scope sc) ifs1 && ((asgE tg1).all fun i => own1.contains i) && own1.all fun i => own.contains i
      | _ => false) rfl (fun _ _ e => by cases e) (fun _ e => by cases e) (fun e => by cases e) (fun _ => rfl) (.inl rfl) (fun gd e _ h => (nm gd e h).2) (fun gd e _ h => st_val (nm gd e h).2 (nm gd e h).1 rfl) (.inl fun _ => .inl rfl)
theorem all_lrg {a : E} (ha : AllE c N G a) : AllE c N G (.lrg a) := by
  have nm : ∀ {X : Cx} {W : WX}, Good c G N X W → ∀ e, (match xLrg e with
      | some x => isGl X.env.scope "list" && isGl X.env.scope "range" && decide (("list" : Str) ∈ G.free) && decide (("range" : Str) ∈ G.free) && (mt N G a).ex X.env.scope x
      | none => false) = true → SndV c X W (.lrg a) e := fun gd e h => by
    split at h
    · rename_i x hx
      obtain ⟨p, q, r, t, rfl⟩ := xLrg_eq hx
      simp only [Bool.and_eq_true, decide_eq_true_eq] at h
      obtain ⟨⟨⟨⟨h1, h2⟩, h3⟩, h4⟩, h5⟩ := h
      exact sv_lrg gd.calm (gl_is h1) (gd.free _ h3) (gl_is h2) (gd.free _ h4) (ha.pln _ _ h5) (ha.val gd x h5)
    · cases h
  exact .ord (f := fun sc e => match xLrg e with
      | some x => isGl sc "list" && isGl sc "range" && decide (("list" : Str) ∈ G.free) && decide (("range" : Str) ∈ G.free) && (mt N G a).ex sc x
      | none => false) rfl (fun _ _ e => by cases e) (fun _ e => by cases e) (fun e => by cases e) (fun _ => rfl) (.inl rfl) (fun gd e _ h => nm gd e h) (fun gd e _ h => st_no fun _ => rfl) (.inl fun _ => .inl rfl)
theorem all_idxOf {a j : E} (ha : AllE c N G a) (hj : AllE c N G j) : AllE c N G (.idxOf a j) := by
  have nm : ∀ {X : Cx} {W : WX}, Good c G N X W → ∀ e, (match xMeth e with
      | some (o, m, [x], ln) => decide (m = ("index" : Str)) && ln && baseOk o && plainE x && (mt N G a).ex X.env.scope o && (mt N G j).ex X.env.scope x
      | _ => false) = true → SndV c X W (.idxOf a j) e := fun gd e h => by
    split at h
    · rename_i o m x ln hx
      obtain ⟨ap, p, rfl, rfl⟩ := xMeth_eq hx
      simp only [Bool.and_eq_true, decide_eq_true_eq] at h
      obtain ⟨⟨⟨⟨⟨rfl, h2⟩, h3⟩, h4⟩, h5⟩, h6⟩ := h
      exact sv_idxOf h3 h2 h4 (ha.val gd o h5) (hj.val gd x h6)
    · cases h
  exact .ord (f := fun sc e => match xMeth e with
      | some (o, m, [x], ln) => decide (m = ("index" : Str)) && ln && baseOk o && plainE x && (mt N G a).ex sc o && (mt N G j).ex sc x
      | _ => false) rfl (fun _ _ e => by cases e) (fun _ e => by cases e) (fun e => by cases e) (fun _ => rfl) (.inl rfl) (fun gd e _ h => nm gd e h) (fun gd e _ h => st_no fun _ => rfl) (.inl fun _ => .inl rfl)
theorem all_cst (a : At) : AllE c N G (.cst a) := by
  have ex : ∀ sc e, (mt N G (.cst a)).ex sc e = true → plainE e = true ∧ (match xConst e with
      | some k => cstB a k
      | none => false) = true := fun sc e h => Bool.and_eq_true_iff.mp h
  have val : ∀ {X : Cx} {W : WX} (e : Expr), plainE e = true → (match xConst e with
      | some k => cstB a k
      | none => false) = true → SndV c X W (.cst a) e := fun e _ h => sv_at (pe_cst h) (fun _ e => by cases e) fun _ => rfl
  have tst : ∀ {X : Cx} {W : WX} (e : Expr), plainE e = true → (match xConst e with
      | some k => cstB a k
      | none => false) = true → SndT c X W (.cst a) e := fun e p h => by
    have vt : valTest e = true := by
      split at h
      · rename_i k hk
        obtain ⟨kk, ps, rfl⟩ := xConst_eq hk
        rfl
      · cases h
    exact st_val (val e p h) vt rfl
  have one : ∀ sc es, (match es with
      | [e] => plainE e && (match xConst e with
        | some k => cstB a k
        | none => false)
      | _ => false) = true → ∃ e, es = [e] ∧ plainE e = true ∧ (match xConst e with
      | some k => cstB a k
      | none => false) = true := fun (sc : Scope) es h => by
    obtain ⟨e, rfl, h⟩ := one_of (f := fun _ e => match xConst e with
      | some k => cstB a k
      | none => false) (sc := sc) h
    exact ⟨e, rfl, Bool.and_eq_true_iff.mp h⟩
  refine ⟨fun gd e h => val e (ex _ _ h).1 (ex _ _ h).2, fun sc e h => (ex sc e h).1, fun gd e h => tst e (ex _ _ h).1 (ex _ _ h).2, fun gd e h => sp_no fun _ => rfl, fun gd e h => so1_val (fun _ e => by cases e) (val e (ex _ _ h).1 (ex _ _ h).2), fun gd e h => ssr_val (val e (ex _ _ h).1 (ex _ _ h).2) rfl, fun gd tg e h ok => si_val (val e (ex _ _ h).1 (ex _ _ h).2) fun _ => .inl rfl, fun gd es h => (nomatch h), fun sc es h => (nomatch h), fun gd es h => (nomatch h), fun gd a e => (nomatch e), fun gd a b e => (nomatch e), fun gd st e _ h => (nomatch h), fun st sc e h => (nomatch h), fun gd st es _ h => (nomatch h), fun st sc es h => (nomatch h), fun {X W} gd op es h => ?_, fun {X W} gd op es h => ?_, fun {X W} gd es h => ?_, fun gd e h => ?_⟩
  · obtain ⟨e, rfl, p, h⟩ := one X.env.scope es h
    exact bov_one (val e p h)
  · obtain ⟨e, rfl, p, h⟩ := one X.env.scope es h
    exact bot_one (tst e p h)
  · obtain ⟨e, rfl, p, h⟩ := one X.env.scope es h
    exact sts_one (tst e p h)
  · have h : (match a, e with
        | .non, none => true
        | .non, some _ => false
        | _, some e => plainE e && (match xConst e with
          | some k => cstB a k
          | none => false)
        | _, _ => false) = true := h
    cases a with
    | non =>
      cases e with
      | none => exact so_none
      | some e => cases h
    | _ =>
      cases e with
      | none => cases h
      | some e =>
        have h := Bool.and_eq_true_iff.mp h
        exact so_some (val e h.1 h.2) fun e => by cases e
end
end Bm

set_option maxHeartbeats 2000000
/-! B53: instances, matched. -/
namespace Bm
open PySem PySem.Spec PyProof.Rows L2
variable [TheK]
section
variable {c : Str → List D → CRes} {N : List Str} {G : Glb}
theorem all_fld {C f : Str} {a : E} (ha : AllE c N G a) : AllE c N G (.fld C f a) := by
  have nm : ∀ {X : Cx} {W : WX}, Good c G N X W → ∀ e, (match xAttr e with
      | some (o, m) => decide (m = f) && baseOk o && decide (C ∈ G.cls) && decide ((C, f) ∈ G.flds) && (mt N G a).ex X.env.scope o
      | none => false) = true → valTest e = true ∧ SndV c X W (.fld C f a) e := fun gd e h => by
    split at h
    · rename_i o m hx
      obtain ⟨ps, rfl⟩ := xAttr_eq hx
      simp only [Bool.and_eq_true, decide_eq_true_eq] at h
      obtain ⟨⟨⟨⟨rfl, h2⟩, h3⟩, h4⟩, h5⟩ := h
      exact ⟨rfl, sv_fld h2 gd.kk (gd.cls _ h3).cls (gd.flds _ _ h4) (ha.val gd o h5)⟩
    · cases h
  exact .ord (f := fun sc e => match xAttr e with
      | some (o, m) => decide (m = f) && baseOk o && decide (C ∈ G.cls) && decide ((C, f) ∈ G.flds) && (mt N G a).ex sc o
      | none => false) rfl (fun _ _ e => by cases e) (fun _ e => by cases e) (fun e => by cases e) (fun _ => rfl) (.inl rfl) (fun gd e _ h => (nm gd e h).2) (fun gd e _ h => st_val (nm gd e h).2 (nm gd e h).1 rfl) (.inl fun _ => .inl rfl)
theorem all_prop {x C f : Str} {a : E} (ha : AllE c N G a) : AllE c N G (.prop x C f a) := by
  have nm : ∀ {X : Cx} {W : WX}, Good c G N X W → ∀ e, (match xAttr e with
      | some (o, m) => decide (m = f) && baseOk o && decide (x ∈ G.defs) && decide (G.kind x = .prop C f) && (mt N G a).ex X.env.scope o
      | none => false) = true → SndV c X W (.prop x C f a) e := fun gd e h => by
    split at h
    · rename_i o m hx
      obtain ⟨ps, rfl⟩ := xAttr_eq hx
      simp only [Bool.and_eq_true, decide_eq_true_eq] at h
      obtain ⟨⟨⟨⟨rfl, h2⟩, h3⟩, h4⟩, h5⟩ := h
      exact sv_prop h2 gd.kk (by rw [← h4]; exact gd.defs _ h3) (ha.one gd o h5)
    · cases h
  exact .ord (f := fun sc e => match xAttr e with
      | some (o, m) => decide (m = f) && baseOk o && decide (x ∈ G.defs) && decide (G.kind x = .prop C f) && (mt N G a).ex sc o
      | none => false) rfl (fun _ _ e => by cases e) (fun _ e => by cases e) (fun e => by cases e) (fun _ => rfl) (.inl rfl) (fun gd e _ h => nm gd e h) (fun gd e _ h => st_no fun _ => rfl) (.inl fun _ => .inl rfl)
theorem all_meth {x C m : Str} {a es : E} (ha : AllE c N G a) (hes : AllE c N G es) : AllE c N G (.meth x C m a es) := by
  have nm : ∀ {X : Cx} {W : WX}, Good c G N X W → ∀ e, (match xMeth e with
      | some (o, y, as, ln) => decide (y = m) && ln && decide (as.length < 29) && baseOk o && decide (x ∈ G.defs) && decide (G.kind x = .meth C m) && (mt N G a).ex X.env.scope o && (mt N G es).es X.env.scope as
      | none => false) = true → SndV c X W (.meth x C m a es) e := fun gd e h => by
    split at h
    · rename_i o y as ln hx
      obtain ⟨ap, ps, rfl, rfl⟩ := xMeth_eq hx
      simp only [Bool.and_eq_true, decide_eq_true_eq] at h
      obtain ⟨⟨⟨⟨⟨⟨⟨rfl, h2⟩, h3⟩, h4⟩, h5⟩, h6⟩, h7⟩, h8⟩ := h
      obtain ⟨pl, _, h0⟩ := hes.lpl _ _ h8
      exact sv_meth h4 h2 h3 gd.kk (by rw [← h6]; exact gd.defs _ h5) gd.tk pl (ha.one gd o h7) (hes.arg gd as h8) h0
    · cases h
  exact .ord (f := fun sc e => match xMeth e with
      | some (o, y, as, ln) => decide (y = m) && ln && decide (as.length < 29) && baseOk o && decide (x ∈ G.defs) && decide (G.kind x = .meth C m) && (mt N G a).ex sc o && (mt N G es).es sc as
      | none => false) rfl (fun _ _ e => by cases e) (fun _ e => by cases e) (fun e => by cases e) (fun _ => rfl) (.inl rfl) (fun gd e _ h => nm gd e h) (fun gd e _ h => st_no fun _ => rfl) (.inl fun _ => .inl rfl)
theorem all_make {x C : Str} {es : E} (hes : AllE c N G es) : AllE c N G (.make x C es) := by
  have nm : ∀ {X : Cx} {W : WX}, Good c G N X W → ∀ e, (match xCall e with
      | some (n, as, []) => (match xName n with
        | some y => decide (y = C) && isGl X.env.scope y && okName y && decide (x ∈ G.defs) && decide (G.kind x = .init C) && (mt N G es).es X.env.scope as
        | none => false)
      | _ => false) = true → SndV c X W (.make x C es) e := fun gd e h => by
    split at h
    · rename_i n as hx
      obtain ⟨ps, rfl⟩ := xCall_eq hx
      split at h
      · rename_i y hy
        obtain ⟨p2, rfl⟩ := xName_eq hy
        simp only [Bool.and_eq_true, decide_eq_true_eq] at h
        obtain ⟨⟨⟨⟨⟨rfl, h2⟩, h3⟩, h4⟩, h5⟩, h6⟩ := h
        obtain ⟨pl, _, h0⟩ := hes.lpl _ _ h6
        exact sv_make gd.kk (gl_is h2) (okName_is h3).1 (by rw [← h5]; exact gd.defs _ h4) gd.tk pl (hes.arg gd as h6) h0
      · cases h
    · cases h
  exact .ord (f := fun sc e => match xCall e with
      | some (n, as, []) => (match xName n with
        | some y => decide (y = C) && isGl sc y && okName y && decide (x ∈ G.defs) && decide (G.kind x = .init C) && (mt N G es).es sc as
        | none => false)
      | _ => false) rfl (fun _ _ e => by cases e) (fun _ e => by cases e) (fun e => by cases e) (fun _ => rfl) (.inl rfl) (fun gd e _ h => nm gd e h) (fun gd e _ h => st_no fun _ => rfl) (.inl fun _ => .inl rfl)
theorem all_isi {t : Ty} {a : E} (ha : AllE c N G a) : AllE c N G (.isi t a) := by
  have nm : ∀ {X : Cx} {W : WX}, Good c G N X W → ∀ e, (match xIsi e with
      | some (o, y) => decide (y = tyName t) && plainE o && isGl X.env.scope "isinstance" && decide (("isinstance" : Str) ∈ G.free) && isGl X.env.scope y && okName y && tyOk G t y && (mt N G a).ex X.env.scope o
      | none => false) = true → SndV c X W (.isi t a) e ∧ SndT c X W (.isi t a) e := fun gd e h => by
    split at h
    · rename_i o y hx
      obtain ⟨p, q, r, rfl⟩ := xIsi_eq hx
      simp only [Bool.and_eq_true, decide_eq_true_eq] at h
      obtain ⟨⟨⟨⟨⟨⟨⟨rfl, h2⟩, h3⟩, h4⟩, h5⟩, h6⟩, h7⟩, h8⟩ := h
      refine sv_isi (gl_is h3) (gd.free _ h4) h2 gd.kk (gl_is h5) (okName_is h6).1 ?_ (fun C e => ?_) (ha.val gd o h8)
      · cases t with
        | own C =>
          have := (gd.cls C (of_decide_eq_true h7)).mg
          rw [gd.kk] at this
          exact this
        | _ => exact gd.free _ (of_decide_eq_true h7)
      · subst e
        have := gd.cls C (of_decide_eq_true h7)
        rw [gd.kk] at this
        exact this
    · cases h
  exact .ord (f := fun sc e => match xIsi e with
      | some (o, y) => decide (y = tyName t) && plainE o && isGl sc "isinstance" && decide (("isinstance" : Str) ∈ G.free) && isGl sc y && okName y && tyOk G t y && (mt N G a).ex sc o
      | none => false) rfl (fun _ _ e => by cases e) (fun _ e => by cases e) (fun e => by cases e) (fun _ => rfl) (.inl rfl) (fun gd e _ h => (nm gd e h).1) (fun gd e _ h => (nm gd e h).2) (.inl fun _ => .inl rfl)
end
end Bm

set_option maxHeartbeats 2000000
/-! B25: and, or, lists of expressions; all expressions. -/
namespace Bm
open PySem PySem.Spec PyProof.Rows L2
variable [TheK]
section
variable {c : Str → List D → CRes} {N : List Str} {G : Glb}
theorem boolB_eq {o : BoolOp} {A B : Mt} {sc : Scope} {es : List Expr} (h : boolB o A B sc es = true) : ∃ x y r, es = x :: y :: r ∧ A.ex sc x = true ∧ B.bo o sc (y :: r) = true := by
  unfold boolB at h
  split at h
  · rename_i x y r
    rw [Bool.and_eq_true] at h
    exact ⟨x, y, r, rfl, h.1, h.2⟩
  · cases h
/-- and, or: alike -/
theorem AllE.bool {m : E} {o : BoolOp} (hex : ∀ sc e, (mt N G m).ex sc e = true → plainE e = true ∧ ∃ es, xBool e = some (o, es) ∧ ∃ x y r, es = x :: y :: r ∧ (mt N G m).bo o sc (x :: y :: r) = true)
    (hbo1 : ∀ op sc e, (mt N G m).bo op sc [e] = true → (mt N G m).ex sc e = true) (hboo : ∀ op sc x y r, (mt N G m).bo op sc (x :: y :: r) = true → op = o)
    (hbv : ∀ {X : Cx} {W : WX}, Good c G N X W → ∀ x y r, (mt N G m).bo o X.env.scope (x :: y :: r) = true → BoV c X W o m (x :: y :: r) ∧ BoT c X W o m (x :: y :: r)) (hbn : ∀ op sc, (mt N G m).bo op sc [] = false)
    (hes : ∀ sc es, (mt N G m).es sc es = false) (hts : ∀ sc es, (mt N G m).tst sc es = true → ∃ e, es = [e] ∧ (mt N G m).ex sc e = true) (hpr : ∀ sc e, (mt N G m).prt sc e = true → ∃ x, e = some x ∧ (mt N G m).ex sc x = true)
    (htg : ∀ st sc e, (mt N G m).tg st sc e = false) (htgs : ∀ st sc e, (mt N G m).tgs st sc e = false) (nc : ∀ a b, m ≠ .cons a b) (nv : ∀ i, m ≠ .var i) (nn : m ≠ .cst .non) (hplc : ∀ g, (den c m).plc g = .no) (hl : (den c m).lsr = lsrOf (den c m).val) (hi : ∀ g, (den c m).itr g = itrOf (den c m).val g) : AllE c N G m := by
  have val : ∀ {X : Cx} {W : WX}, Good c G N X W → ∀ e, (mt N G m).ex X.env.scope e = true → SndV c X W m e := fun gd e h => by
    obtain ⟨_, es, hx, x, y, r, rfl, hb⟩ := hex _ _ h
    obtain ⟨ps, rfl⟩ := xBool_eq hx
    exact sv_bov (hbv gd x y r hb).1 nv
  have tst : ∀ {X : Cx} {W : WX}, Good c G N X W → ∀ e, (mt N G m).ex X.env.scope e = true → SndT c X W m e := fun gd e h => by
    obtain ⟨_, es, hx, x, y, r, rfl, hb⟩ := hex _ _ h
    obtain ⟨ps, rfl⟩ := xBool_eq hx
    exact st_bot (hbv gd x y r hb).2
  refine ⟨val, fun sc e h => (hex sc e h).1, tst, fun gd e h => sp_no hplc, fun gd e h => so1_val nv (val gd e h), fun gd e h => ssr_val (val gd e h) hl, fun gd tg e h ok => si_val (val gd e h) fun g => .inl (hi g), fun gd es h => ?_, fun sc es h => ?_, fun gd es h => ?_, fun gd a e => absurd e (nc _ _), fun gd a b e => absurd e (nc _ _), fun gd st e _ h => ?_, fun st sc e h => ?_, fun gd st es _ h => ?_, fun st sc es h => ?_, fun gd op es h => ?_, fun gd op es h => ?_, fun gd es h => ?_, fun gd e h => ?_⟩
  · rw [hes] at h; cases h
  · rw [hes] at h; cases h
  · rw [hes] at h; cases h
  · rw [htg] at h; cases h
  · rw [htg] at h; cases h
  · rw [htgs] at h; cases h
  · rw [htgs] at h; cases h
  · match es, h with
    | [], h => rw [hbn] at h; cases h
    | [e], h => exact bov_one (val gd e (hbo1 _ _ _ h))
    | x :: y :: r, h => obtain rfl := hboo _ _ _ _ _ h; exact (hbv gd x y r h).1
  · match es, h with
    | [], h => rw [hbn] at h; cases h
    | [e], h => exact bot_one (tst gd e (hbo1 _ _ _ h))
    | x :: y :: r, h => obtain rfl := hboo _ _ _ _ _ h; exact (hbv gd x y r h).2
  · obtain ⟨e, rfl, h'⟩ := hts _ _ h
    exact sts_one (tst gd e h')
  · obtain ⟨x, rfl, h'⟩ := hpr _ _ h
    exact so_some (val gd x h') nn
theorem all_and {a b : E} (ha : AllE c N G a) (hb : AllE c N G b) : AllE c N G (.andE a b) := by
  have ex : ∀ sc e, (mt N G (.andE a b)).ex sc e = true → plainE e = true ∧ ∃ es, xBool e = some (.And, es) ∧ boolB .And (mt N G a) (mt N G b) sc es = true := fun sc e h => by
    have h := Bool.and_eq_true_iff.mp h
    refine ⟨h.1, ?_⟩
    have h2 := h.2
    dsimp only at h2
    split at h2
    · rename_i es hx
      exact ⟨es, hx, h2⟩
    · cases h2
  have bo : ∀ op sc x y r, (mt N G (.andE a b)).bo op sc (x :: y :: r) = true → op = .And ∧ (mt N G a).ex sc x = true ∧ (mt N G b).bo .And sc (y :: r) = true := fun op sc x y r h => by
    have h := Bool.and_eq_true_iff.mp h
    obtain ⟨x', y', r', e, h1, h2⟩ := boolB_eq h.2
    cases e
    exact ⟨(by cases op <;> first | rfl | (cases h.1)), h1, h2⟩
  refine .bool (o := .And) (fun sc e h => ?_) (fun op sc e h => ?_) (fun op sc x y r h => (bo op sc x y r h).1) (fun gd x y r h => ?_) (fun op sc => ?_) (fun _ _ => rfl) (fun sc es h => ?_) (fun sc e h => ?_) (fun _ _ _ => rfl) (fun _ _ _ => rfl) (fun _ _ e => by cases e) (fun _ e => by cases e) (fun e => by cases e) (fun _ => rfl) rfl fun _ => rfl
  · obtain ⟨p, es, hx, hb⟩ := ex sc e h
    obtain ⟨x, y, r, rfl, h1, h2⟩ := boolB_eq hb
    exact ⟨p, _, hx, x, y, r, rfl, hb⟩
  · exact h
  · obtain ⟨_, h1, h2⟩ := bo _ _ _ _ _ h
    exact ⟨bov_and (ha.val gd x h1) (hb.bov gd _ _ h2), bot_and (ha.tst gd x h1) (hb.bot gd _ _ h2)⟩
  · show (sameBo op .And && boolB .And (mt N G a) (mt N G b) sc []) = false
    simp [boolB]
  · obtain ⟨e, rfl, h⟩ := one_of (f := fun sc e => match xBool e with
      | some (.And, es) => boolB .And (mt N G a) (mt N G b) sc es
      | _ => false) h
    exact ⟨e, rfl, h⟩
  · cases e with
    | none => cases h
    | some x => exact ⟨x, rfl, h⟩
theorem all_or {a b : E} (ha : AllE c N G a) (hb : AllE c N G b) : AllE c N G (.orE a b) := by
  have ex : ∀ sc e, (mt N G (.orE a b)).ex sc e = true → plainE e = true ∧ ∃ es, xBool e = some (.Or, es) ∧ boolB .Or (mt N G a) (mt N G b) sc es = true := fun sc e h => by
    have h := Bool.and_eq_true_iff.mp h
    refine ⟨h.1, ?_⟩
    have h2 := h.2
    dsimp only at h2
    split at h2
    · rename_i es hx
      exact ⟨es, hx, h2⟩
    · cases h2
  have bo : ∀ op sc x y r, (mt N G (.orE a b)).bo op sc (x :: y :: r) = true → op = .Or ∧ (mt N G a).ex sc x = true ∧ (mt N G b).bo .Or sc (y :: r) = true := fun op sc x y r h => by
    have h := Bool.and_eq_true_iff.mp h
    obtain ⟨x', y', r', e, h1, h2⟩ := boolB_eq h.2
    cases e
    exact ⟨(by cases op <;> first | rfl | (cases h.1)), h1, h2⟩
  refine .bool (o := .Or) (fun sc e h => ?_) (fun op sc e h => ?_) (fun op sc x y r h => (bo op sc x y r h).1) (fun gd x y r h => ?_) (fun op sc => ?_) (fun _ _ => rfl) (fun sc es h => ?_) (fun sc e h => ?_) (fun _ _ _ => rfl) (fun _ _ _ => rfl) (fun _ _ e => by cases e) (fun _ e => by cases e) (fun e => by cases e) (fun _ => rfl) rfl fun _ => rfl
  · obtain ⟨p, es, hx, hb⟩ := ex sc e h
    obtain ⟨x, y, r, rfl, h1, h2⟩ := boolB_eq hb
    exact ⟨p, _, hx, x, y, r, rfl, hb⟩
  · exact h
  · obtain ⟨_, h1, h2⟩ := bo _ _ _ _ _ h
    exact ⟨bov_or (ha.val gd x h1) (hb.bov gd _ _ h2), bot_or (ha.tst gd x h1) (hb.bot gd _ _ h2)⟩
  · show (sameBo op .Or && boolB .Or (mt N G a) (mt N G b) sc []) = false
    simp [boolB]
  · obtain ⟨e, rfl, h⟩ := one_of (f := fun sc e => match xBool e with
      | some (.Or, es) => boolB .Or (mt N G a) (mt N G b) sc es
      | _ => false) h
    exact ⟨e, rfl, h⟩
  · cases e with
    | none => cases h
    | some x => exact ⟨x, rfl, h⟩
theorem all_nil : AllE c N G .nil := by
  have em : ∀ {es : List Expr}, es.isEmpty = true → es = [] := fun h => List.isEmpty_iff.mp h
  have nf : ∀ {e : Expr}, (plainE e && false) = true → False := fun h => by cases (Bool.and_eq_true_iff.mp h).2
  refine ⟨fun gd e h => (nf h).elim, fun sc e h => (nf h).elim, fun gd e h => (nf h).elim, fun gd e h => (nf h).elim, fun gd e h => (nf h).elim, fun gd e h => (nf h).elim, fun gd tg e h ok => (nf h).elim, fun gd es h => ?_, fun sc es h => ?_, fun gd es h => ?_, fun gd a e => (nomatch e), fun gd a b e => (nomatch e), fun gd st e _ h => (nomatch h), fun st sc e h => (nomatch h), fun gd st es _ h => ?_, fun st sc es h => ?_, fun gd op es h => ?_, fun gd op es h => ?_, fun gd es h => ?_, fun gd e h => ?_⟩
  · obtain rfl := em h; exact sl_nil
  · obtain rfl := em h; exact ⟨fun _ z => (nomatch z), fun g xs g' e => by cases e; rfl, fun _ => rfl⟩
  · obtain rfl := em h; exact sa_nil
  · obtain rfl := em h; exact sgs_nil
  · obtain rfl := em h; exact ⟨fun _ z => (nomatch z), rfl⟩
  · obtain ⟨e, _, h⟩ := one_of (f := fun _ _ => false) (sc := default) h
    simp at h
  · obtain ⟨e, _, h⟩ := one_of (f := fun _ _ => false) (sc := default) h
    simp at h
  · obtain rfl := em h; exact sts_nil
  · cases e with
    | none => cases h
    | some x =>
      have h := Bool.and_eq_true_iff.mp h
      cases h.2
theorem all_cons {a b : E} (ha : AllE c N G a) (hb : AllE c N G b) : AllE c N G (.cons a b) := by
  have sp : ∀ sc es, (mt N G (.cons a b)).es sc es = true → ∃ e r, es = e :: r ∧ (mt N G a).ex sc e = true ∧ (mt N G b).es sc r = true := fun sc es h => by
    cases es with
    | nil => cases h
    | cons e r =>
      have h := Bool.and_eq_true_iff.mp h
      exact ⟨e, r, rfl, h.1, h.2⟩
  have sg : ∀ st sc es, (mt N G (.cons a b)).tgs st sc es = true → ∃ e r, es = e :: r ∧ plainE e = true ∧ (mt N G a).tg st sc e = true ∧ (mt N G b).tgs st sc r = true := fun st sc es h => by
    cases es with
    | nil => cases h
    | cons e r =>
      have h := Bool.and_eq_true_iff.mp h
      have h1 := Bool.and_eq_true_iff.mp h.1
      exact ⟨e, r, rfl, h1.1, h1.2, h.2⟩
  have no1 : ∀ (sc : Scope) (es : List Expr), (match es with
      | [e] => plainE e && false
      | _ => false) = true → False := fun sc es h => by
    split at h <;> simp at h
  refine ⟨fun gd e h => ?_, fun sc e h => ?_, fun gd e h => ?_, fun gd e h => ?_, fun gd e h => ?_, fun gd e h => ?_, fun gd tg e h ok => ?_, fun gd es h => ?_, fun sc es h => ?_, fun gd es h => ?_, fun gd a' e es h => ?_, fun gd a' b' e es h => ?_, fun gd st e _ h => (nomatch h), fun st sc e h => (nomatch h), fun gd st es so h => ?_, fun st sc es h => ?_, fun {X W} gd op es h => (no1 X.env.scope es h).elim, fun {X W} gd op es h => (no1 X.env.scope es h).elim, fun {X W} gd es h => (no1 X.env.scope es h).elim, fun gd e h => ?_⟩
  · have h := Bool.and_eq_true_iff.mp h; cases h.2
  · have h := Bool.and_eq_true_iff.mp h; cases h.2
  · have h := Bool.and_eq_true_iff.mp h; cases h.2
  · have h := Bool.and_eq_true_iff.mp h; cases h.2
  · have h := Bool.and_eq_true_iff.mp h; cases h.2
  · have h := Bool.and_eq_true_iff.mp h; cases h.2
  · have h := Bool.and_eq_true_iff.mp h; cases h.2
  · obtain ⟨e, r, rfl, h1, h2⟩ := sp _ _ h
    exact sl_cons (ha.pln _ _ h1) (ha.val gd e h1) (hb.lst gd r h2)
  · obtain ⟨e, r, rfl, h1, h2⟩ := sp _ _ h
    obtain ⟨p, l, _⟩ := hb.lpl _ _ h2
    refine ⟨fun y hy => (List.mem_cons.mp hy).elim (fun e => by rw [e]; exact ha.pln _ _ h1) (p y), fun g xs g' e => ?_, fun e => by cases e⟩
    have e : consL a b (den c a) (den c b) g = .ok xs g' := e
    unfold consL at e
    cases ea : (den c a).val g with
    | ok x g1 =>
      rw [ea] at e
      simp only [Bm.R.bind] at e
      cases eb : (den c b).lst g1 with
      | ok ys g2 =>
        rw [eb] at e
        simp only [Bm.R.bind] at e
        split at e
        · cases e
          simp [l _ _ _ eb]
        · cases e
      | ex x g2 => rw [eb] at e; cases e
      | no => rw [eb] at e; cases e
    | ex x g1 => rw [ea] at e; cases e
    | no => rw [ea] at e; cases e
  · obtain ⟨e, r, rfl, h1, h2⟩ := sp _ _ h
    exact sa_cons (ha.pln _ _ h1) (ha.one gd e h1) (hb.arg gd r h2)
  · cases e
    obtain ⟨e, r, rfl, h1, h2⟩ := sp _ _ h
    obtain rfl : r = [] := List.isEmpty_iff.mp h2
    exact ⟨e, rfl, ha.pln _ _ h1, ha.lsr gd e h1⟩
  · cases e
    obtain ⟨e, r, rfl, h1, h2⟩ := sp _ _ h
    obtain ⟨e2, rfl, p2, s2⟩ := hb.ls1 gd b' rfl r h2
    exact ⟨e, e2, rfl, ha.pln _ _ h1, p2, ha.lsr gd e h1, s2⟩
  · obtain ⟨e, r, rfl, p, h1, h2⟩ := sg _ _ _ h
    exact sgs_cons p (ha.tg gd st e so h1) (hb.tgs gd st r so h2)
  · obtain ⟨e, r, rfl, p, h1, h2⟩ := sg _ _ _ h
    obtain ⟨p2, l⟩ := hb.tgl _ _ _ h2
    exact ⟨fun y hy => (List.mem_cons.mp hy).elim (fun e => by rw [e]; exact p) (p2 y), by simp [cntE, l]⟩
  · cases e with
    | none => cases h
    | some x => have h := Bool.and_eq_true_iff.mp h; cases h.2
theorem all_E (c : Str → List D → CRes) (N : List Str) (G : Glb) : ∀ m : E, AllE c N G m := by
  intro m
  induction m with
  | cst a => exact all_cst a
  | var i => exact all_var i
  | mv i => exact all_mv i
  | glb x a => exact all_glb x a
  | bin o a b ha hb => exact all_bin ha hb
  | cmp o a b ha hb => exact all_cmp ha hb
  | cmp2 o o' a b d ha hb hd => exact all_cmp2 ha hb hd
  | neg a ha => exact all_neg ha
  | notE a ha => exact all_not ha
  | andE a b ha hb => exact all_and ha hb
  | orE a b ha hb => exact all_or ha hb
  | ife t a b ht ha hb => exact all_ife ht ha hb
  | nil => exact all_nil
  | cons a b ha hb => exact all_cons ha hb
  | tupE a ha => exact all_tup ha
  | lstE a ha => exact all_lst ha
  | idx a j ha hj => exact all_idx ha hj
  | slc a lo hi ha hl hh => exact all_slc ha hl hh
  | rev a ha => exact all_rev ha
  | call f a ha => exact all_call ha
  | blt b a ha => exact all_blt ha
  | lm m a b ha hb => exact all_lm ha hb
  | lrg a ha => exact all_lrg ha
  | idxOf a e ha he => exact all_idxOf ha he
  | comp elt tg it tst own he ht hi hs => exact all_comp he ht hi hs
  | comp2 elt tg it tst tg1 it1 tst1 own own1 he ht hi hs ht1 hi1 hs1 => exact all_comp2 he ht hi hs ht1 hi1 hs1
  | frz a ha => exact all_frz ha
  | fld C f a ha => exact all_fld ha
  | prop x C f a ha => exact all_prop ha
  | meth x C m a es ha hes => exact all_meth ha hes
  | make x C es hes => exact all_make hes
  | isi t a ha => exact all_isi ha
  | never => exact all_never
end
end Bm

set_option maxHeartbeats 2000000
/-! B26: the match of statements, and that matched ones do what their texts say. -/
namespace Bm
open PySem PySem.Spec PyProof.Rows L2
variable [TheK]
/-! ### destructors -/
def isSkip : List Stmt → Bool
  | [] => true
  | [.Pass _] => true
  | _ => false
def xExprS : List Stmt → Option (Expr × Pos)
  | [.Expr e p] => some (e, p)
  | _ => none
def xAsg : List Stmt → Option (Expr × Expr × Pos)
  | [.Assign [t] e p] => some (t, e, p)
  | _ => none
def xAug : List Stmt → Option (Expr × Operator × Expr)
  | [.AugAssign t o e _] => some (t, o, e)
  | _ => none
def xRet : List Stmt → Option (Option Expr)
  | [.Return e _] => some e
  | _ => none
def xIfS : List Stmt → Option (Expr × List Stmt × List Stmt)
  | [.If e a b _] => some (e, a, b)
  | _ => none
def xFor : List Stmt → Option (Expr × Expr × List Stmt)
  | [.For t i b [] _] => some (t, i, b)
  | _ => none
def isBrk : List Stmt → Bool
  | [.Break _] => true
  | _ => false
def isCont : List Stmt → Bool
  | [.Continue _] => true
  | _ => false
theorem isSkip_eq {s : List Stmt} (h : isSkip s = true) : s = [] ∨ ∃ p, s = [.Pass p] := by
  unfold isSkip at h
  split at h
  · exact .inl rfl
  · exact .inr ⟨_, rfl⟩
  · cases h
theorem xExprS_eq {s : List Stmt} {e : Expr} {p : Pos} (h : xExprS s = some (e, p)) : s = [.Expr e p] := by
  unfold xExprS at h
  split at h <;> first | (cases h; rfl) | cases h
theorem xAsg_eq {s : List Stmt} {t e : Expr} {p : Pos} (h : xAsg s = some (t, e, p)) : s = [.Assign [t] e p] := by
  unfold xAsg at h
  split at h <;> first | (cases h; rfl) | cases h
theorem xAug_eq {s : List Stmt} {t e : Expr} {o : Operator} (h : xAug s = some (t, o, e)) : ∃ p, s = [.AugAssign t o e p] := by
  unfold xAug at h
  split at h <;> first | (cases h; exact ⟨_, rfl⟩) | cases h
theorem xRet_eq {s : List Stmt} {e : Option Expr} (h : xRet s = some e) : ∃ p, s = [.Return e p] := by
  unfold xRet at h
  split at h <;> first | (cases h; exact ⟨_, rfl⟩) | cases h
theorem xIfS_eq {s a b : List Stmt} {e : Expr} (h : xIfS s = some (e, a, b)) : ∃ p, s = [.If e a b p] := by
  unfold xIfS at h
  split at h <;> first | (cases h; exact ⟨_, rfl⟩) | cases h
theorem xFor_eq {s b : List Stmt} {t i : Expr} (h : xFor s = some (t, i, b)) : ∃ p, s = [.For t i b [] p] := by
  unfold xFor at h
  split at h <;> first | (cases h; exact ⟨_, rfl⟩) | cases h
theorem isBrk_eq {s : List Stmt} (h : isBrk s = true) : ∃ p, s = [.Break p] := by
  unfold isBrk at h
  split at h <;> first | exact ⟨_, rfl⟩ | cases h
theorem isCont_eq {s : List Stmt} (h : isCont s = true) : ∃ p, s = [.Continue p] := by
  unfold isCont at h
  split at h <;> first | exact ⟨_, rfl⟩ | cases h
/-! ### the store of a comprehension -/
/-- a name that a comprehension on its line is stored in at once -/
def swB (sc : Scope) (tg x : Expr) : Bool := match tg, x with
  | .Name y p, .ListComp _ _ scope q => sc.names.lookup y == some .local && p.line == q.line && !(scope.names.any fun z => z.1 == y && (z.2 == .local || z.2 == .cell))
  | _, _ => false
theorem sw_false {env : Env} {tg x : Expr} {l : Nat} (fk : env.scope.kind = .function) (px : plainE x = true) (h : swB env.scope tg x = false) : swapsWithSole [tg] x l env = pure false := by
  by_cases nc : noComp x = true
  · exact noComp_swap nc _ _ _
  · cases x <;> first | (exact absurd px nc) | (simp [plainE] at px; done) | skip
    rename_i elt gs scope q
    cases tg <;> first | rfl | skip
    rename_i y p
    have e : (env.blockKind == .function) = true := by
      unfold Env.blockKind
      rw [fk]
      rfl
    show pure (env.blockKind == .function && env.kindOf y == some .local && p.line == q.line && !(scope.names.any fun z => z.1 == y && (z.2 == .local || z.2 == .cell))) = _
    rw [e, Bool.true_and]
    exact congrArg _ h
theorem sw_true {env : Env} {tg x : Expr} {l : Nat} (fk : env.scope.kind = .function) (h : swB env.scope tg x = true) : ∃ y p elt gs scope q, tg = .Name y p ∧ x = .ListComp elt gs scope q ∧ env.scope.names.lookup y = some .local ∧ swapsWith x (some (.Name y p)) l env = pure true := by
  unfold swB at h
  split at h
  · rename_i y p elt gs scope q
    have e : (env.blockKind == .function) = true := by
      unfold Env.blockKind
      rw [fk]
      rfl
    refine ⟨y, p, elt, gs, scope, q, rfl, rfl, ?_, ?_⟩
    · simp only [Bool.and_eq_true] at h
      exact eq_of_beq h.1.1
    · show pure (env.blockKind == .function && env.kindOf y == some .local && p.line == q.line && !(scope.names.any fun z => z.1 == y && (z.2 == .local || z.2 == .cell))) = _
      rw [e, Bool.true_and]
      exact congrArg _ h
  · cases h
def compOf : E → Option (E × E × E × E × List Nat)
  | .comp a b d f own => some (a, b, d, f, own)
  | _ => none
def comp2B : E → Bool
  | .comp2 _ _ _ _ _ _ _ _ _ => true
  | _ => false
/-- names that are stored at once -/
def parB (N : List Str) (sc : Scope) (is : List Nat) (tg x : Expr) : Bool := match is, tg with
  | [i, j], .Tuple [.Name y _, .Name z _] _ _ => decide (i ≠ j) && decide (N[i]? = some y) && decide (N[j]? = some z) && decide (sc.names.lookup y = some .local) && decide (sc.names.lookup z = some .local) && decide (swapC sc tg x = some (some [y, z]))
  | [i, j, l], .Tuple [.Name y _, .Name z _, .Name w _] _ _ => decide (i ≠ j) && decide (i ≠ l) && decide (j ≠ l) && decide (N[i]? = some y) && decide (N[j]? = some z) && decide (N[l]? = some w) && decide (sc.names.lookup y = some .local) && decide (sc.names.lookup z = some .local) && decide (sc.names.lookup w = some .local) && decide (swapC sc tg x = some (some [y, z, w]))
  | _, _ => false
def xPair : Expr → Option (Expr × Expr)
  | .Tuple [a, b] _ _ => some (a, b)
  | _ => none
def xEnum : Expr → Option Expr
  | .Call (.Name f _) [e] [] _ => if f == ("enumerate" : Str) then some e else none
  | _ => none
theorem xPair_eq {e a b : Expr} (h : xPair e = some (a, b)) : ∃ k p, e = .Tuple [a, b] k p := by
  unfold xPair at h
  split at h
  · cases h; exact ⟨_, _, rfl⟩
  · cases h
theorem xEnum_eq {e a : Expr} (h : xEnum e = some a) : ∃ p q, e = .Call (.Name "enumerate" p) [a] [] q := by
  unfold xEnum at h
  split at h
  · split at h
    · rename_i hf
      cases h
      obtain rfl := eq_of_beq hf
      exact ⟨_, _, rfl⟩
    · cases h
  · cases h
def gEnum (G : Glb) (sc : Scope) : Bool := isGl sc "enumerate" && decide (("enumerate" : Str) ∈ G.free)
def koB (N : List Str) (G : Glb) (sc : Scope) (ko : Option Nat) (x : Nat) (A : Expr → Bool) (tg i : Expr) : Bool := match ko with
  | none => locB N sc x tg && A i
  | some k => match xPair tg, xEnum i with
    | some (t1, t2), some e => locB N sc k t1 && locB N sc x t2 && gEnum G sc && plainE e && A e
    | _, _ => false
def varOf : E → Option Nat
  | .var i => some i
  | _ => none
/-! ### the match -/
def mB (N : List Str) (G : Glb) : S → Scope → List Stmt → Bool
  | .skip, _, s => isSkip s
  | .never, _, _ => true
  | .seq a b, sc, s => match s with
    | x :: y :: r => mB N G a sc [x] && mB N G b sc (y :: r)
    | _ => false
  | .expr e, sc, s => match xExprS s with
    | some (x, _) => noComp x && (mt N G e).ex sc x
    | none => false
  | .asg t e, sc, s => match xAsg s with
    | some (tg, x, _) => decide (swapC sc tg x = some none) && (mt N G t).tg sc sc tg && (mt N G e).ex sc x && (!swB sc tg x || ((varOf t).isSome && ((compOf e).isSome || comp2B e)))
    | none => false
  | .par is es, sc, s => match xAsg s with
    | some (tg, x, _) => (match xTup x with
      | some vs => parB N sc is tg x && (mt N G es).es sc vs
      | none => false)
    | none => false
  | .peek _ b, sc, s => mB N G b sc s
  | .forR ko x a b, sc, s => match xFor s with
    | some (tg, i, p) => koB N G sc ko x ((mt N G a).ex sc) tg i && mB N G b sc p
    | none => false
  | .aug i o e, sc, s => match xAug s with
    | some (tg, p, x) => (decide (o = .add) || decide (o = .sub)) && bopB o p && locB N sc i tg && (mt N G e).ex sc x
    | none => false
  | .augI a j o e, sc, s => match xAug s with
    | some (tg, p, x) => (match xSub tg with
      | some (l, r) => (decide (o = .add) || decide (o = .sub)) && bopB o p && plainE r && (mt N G a).ex sc l && (mt N G j).ex sc r && (mt N G e).ex sc x
      | none => false)
    | none => false
  | .ret e, sc, s => match xRet s with
    | some (some x) => (mt N G e).ex sc x
    | _ => false
  | .retN, _, s => match xRet s with
    | some none => true
    | _ => false
  | .ifS t a b, sc, s => match xIfS s with
    | some (x, p, q) => (mt N G t).ex sc x && mB N G a sc p && mB N G b sc q
    | none => false
  | .forS t it b, sc, s => match xFor s with
    | some (tg, x, p) => (mt N G t).tg sc sc tg && (mt N G it).ex sc x && itOk it tg && mB N G b sc p
    | none => false
  | .brk, _, s => isBrk s
  | .cont, _, s => isCont s
  | .kill _ a, sc, s => mB N G a sc s
  | .gift _ a, sc, s => mB N G a sc s
  | .setF i C f e, sc, s => match xAsg s with
    | some (tg, x, _) => (match xAttr tg with
      | some (o, m) => decide (m = f) && slotB N sc i o && noComp x && decide (C ∈ G.cls) && decide ((C, f) ∈ G.flds) && (mt N G e).ex sc x
      | none => false)
    | none => false
section
variable {c : Str → List D → CRes} {N : List Str} {G : Glb} {X : Cx} {W : WX}
/-- the function's own frame -/
structure Own (X : Cx) : Prop where
  st : StoreOk X X.env.scope
  ps : PassesOwn (model X.prog X.w) X.A X.env X.xe
structure AllS (c : Str → List D → CRes) (N : List Str) (G : Glb) (X : Cx) (W : WX) (m : S) : Prop where
  one : ∀ s, mB N G m X.env.scope [s] = true → Snd1 c X W m s
  all : ∀ s, mB N G m X.env.scope s = true → SndS c X W m s
theorem AllS.single {m : S} (h : ∀ s, mB N G m X.env.scope s = true → ∃ x, s = [x] ∧ Snd1 c X W m x) : AllS c N G X W m :=
  ⟨fun s hs => by
    obtain ⟨x, e, r⟩ := h [s] hs
    cases e
    exact r, fun s hs => by
    obtain ⟨x, e, r⟩ := h s hs
    rw [e]
    exact r.one⟩
theorem aug_op {o : BOp} (h : (decide (o = .add) || decide (o = .sub)) = true) : o = .add ∨ o = .sub := by
  rw [Bool.or_eq_true] at h
  exact h.imp of_decide_eq_true of_decide_eq_true
theorem s_asg (gd : Good c G N X W) (ow : Own X) {t e : E} : AllS c N G X W (.asg t e) := by
  refine .single fun s h => ?_
  replace h : (match xAsg s with
    | some (tg, x, _) => decide (swapC X.env.scope tg x = some none) && (mt N G t).tg X.env.scope X.env.scope tg && (mt N G e).ex X.env.scope x && (!swB X.env.scope tg x || ((varOf t).isSome && ((compOf e).isSome || comp2B e)))
    | none => false) = true := h
  split at h
  · rename_i tg x p hx
    obtain rfl := xAsg_eq hx
    simp only [Bool.and_eq_true, Bool.or_eq_true, decide_eq_true_eq] at h
    obtain ⟨⟨⟨h1, h2⟩, h3⟩, h4⟩ := h
    have T := all_E c N G t
    have V := all_E c N G e
    refine ⟨_, rfl, ?_⟩
    by_cases hs : swB X.env.scope tg x = true
    · obtain ⟨h5, h6⟩ : (varOf t).isSome = true ∧ ((compOf e).isSome = true ∨ comp2B e = true) := h4.resolve_left (by rw [hs]; simp)
      cases t <;> first | (cases h5; done) | skip
      rename_i i
      obtain ⟨y, py, el, gs, scope, q, rfl, rfl, hl, sw⟩ := sw_true (l := p.line) gd.fk hs
      replace h2 : locB N X.env.scope i (.Name y py) = true := h2
      obtain ⟨y', p', e', hN, _⟩ := loc_is gd.hN ow.st h2
      cases e'
      rcases h6 with h6 | h6
      · cases e <;> first | (cases h6; done) | skip
        rename_i elt tgm itm tstm own
        replace h3 : (true && (match xComp (.ListComp el gs scope q) with
          | some (x, [⟨t, i, ifs, 0⟩], scope) => blkB N X.env.scope scope own && (mt N G itm).ex X.env.scope i && (mt N G tgm).tg scope (relS scope X.env.scope) t && namesOnly tgm && itOk itm t && (mt N G tstm).tst (relS scope X.env.scope) ifs && (mt N G elt).ex (relS scope X.env.scope) x
            && (asgE tgm).all fun i => own.contains i
          | _ => false)) = true := h3
        rw [Bool.true_and] at h3
        split at h3
        · rename_i x t i2 ifs scope2 hc
          obtain ⟨ps, e3⟩ := xComp_eq hc
          cases e3
          obtain ⟨ownp, g1, g2, g3, g4, g5, g6, g7, g8⟩ := comp_parts (all_E c N G elt) (all_E c N G tgm) (all_E c N G itm) (all_E c N G tstm) gd h3
          exact s1_setLc gd.calm (by rw [gd.hN]; exact gd.nd) hN hl sw g3 g2 g1 g4 g5 g6 g7 g8
        · cases h3
      · cases e <;> first | (cases h6; done) | skip
        rename_i elt tgm itm tstm tgm1 itm1 tstm1 own own1
        replace h3 : (true && (match xComp (.ListComp el gs scope q) with
          | some (x, [⟨t, i, ifs, 0⟩, ⟨t1, i1, ifs1, 0⟩], scope) => blkB N X.env.scope scope own && (mt N G itm).ex X.env.scope i && (mt N G tgm).tg scope (relS scope X.env.scope) t && namesOnly tgm && itOk itm t && (mt N G tstm).tst (relS scope X.env.scope) ifs && (mt N G elt).ex (relS scope X.env.scope) x
            && ((asgE tgm).all fun i => own.contains i) && (mt N G itm1).ex (relS scope X.env.scope) i1 && (mt N G tgm1).tg scope (relS scope X.env.scope) t1 && namesOnly tgm1 && itOk itm1 t1 && (mt N G tstm1).tst (relS scope X.env.scope) ifs1 && ((asgE tgm1).all fun i => own1.contains i) && own1.all fun i => own.contains i
          | _ => false)) = true := h3
        rw [Bool.true_and] at h3
        split at h3
        · rename_i x t i2 ifs t1 i1 ifs1 scope2 hc
          obtain ⟨ps, e3⟩ := xComp_eq hc
          cases e3
          obtain ⟨ownp, g1, g2, g3, g4, g5, g6, g7, g8, g9, g10, g11, g12, g13, g14⟩ := comp2_parts (all_E c N G elt) (all_E c N G tgm) (all_E c N G itm) (all_E c N G tstm) (all_E c N G tgm1) (all_E c N G itm1) (all_E c N G tstm1) gd h3
          exact s1_setLc2 gd.calm (by rw [gd.hN]; exact gd.nd) hN hl sw g3 g2 g1 g4 g5 g6 g7 g8 g9 g10 g11 g12 g13 g14
        · cases h3
    · exact s1_asg (sw_false gd.fk (V.pln _ _ h3) (by simpa using hs)) (swapC_is gd.fk h1) (T.tgp _ _ _ h2) (V.val gd x h3) (T.tg gd _ tg ow.st h2)
  · cases h
theorem s_par (gd : Good c G N X W) {is : List Nat} {es : E} : AllS c N G X W (.par is es) := by
  refine .single fun s h => ?_
  replace h : (match xAsg s with
    | some (tg, x, _) => (match xTup x with
      | some vs => parB N X.env.scope is tg x && (mt N G es).es X.env.scope vs
      | none => false)
    | none => false) = true := h
  split at h
  · rename_i tg x p hx
    obtain rfl := xAsg_eq hx
    split at h
    · rename_i vs hv
      obtain ⟨k, p2, rfl⟩ := xTup_eq hv
      rw [Bool.and_eq_true] at h
      obtain ⟨h1, h2⟩ := h
      have L := all_E c N G es
      have sl : SndL c X W es vs := L.lst gd vs h2
      have nd : X.N.Nodup := by rw [gd.hN]; exact gd.nd
      refine ⟨_, rfl, ?_⟩
      have sw := fun r (h : swapC X.env.scope tg (.Tuple vs k p2) = some r) => swapC_is (env := X.env) gd.fk h
      unfold parB at h1
      split at h1
      · rename_i i j y py z pz kt pt
        simp only [Bool.and_eq_true, decide_eq_true_eq] at h1
        obtain ⟨⟨⟨⟨⟨a1, a2⟩, a3⟩, a4⟩, a5⟩, a6⟩ := h1
        have hw := sw _ a6
        have hl : vs.length = 2 := by
          unfold swapC at a6
          simp only at a6
          split at a6
          · cases a6
          · rename_i c1
            simpa using c1
        match vs, hl with
        | [a, b], _ => exact s1_par2 gd.calm nd (by rw [gd.hN]; exact a2) (by rw [gd.hN]; exact a3) a1 a4 a5 sl hw
      · rename_i i j l y py z pz w pw kt pt
        simp only [Bool.and_eq_true, decide_eq_true_eq] at h1
        obtain ⟨⟨⟨⟨⟨⟨⟨⟨⟨b1, b2⟩, b3⟩, a1⟩, a2⟩, a3⟩, a4⟩, a5⟩, a6⟩, a7⟩ := h1
        have hw := sw _ a7
        have hl : vs.length = 3 := by
          unfold swapC at a7
          simp only at a7
          split at a7
          · cases a7
          · rename_i c1
            simpa using c1
        match vs, hl with
        | [a, b, d], _ => exact s1_par3 gd.calm nd (by rw [gd.hN]; exact a1) (by rw [gd.hN]; exact a2) (by rw [gd.hN]; exact a3) b1 b2 b3 a4 a5 a6 sl hw
      · cases h1
    · cases h
  · cases h
theorem s_forR (gd : Good c G N X W) (ow : Own X) {ko : Option Nat} {x : Nat} {a : E} {b : S} (hb : AllS c N G X W b) : AllS c N G X W (.forR ko x a b) := by
  refine .single fun s h => ?_
  replace h : (match xFor s with
    | some (tg, i, p) => koB N G X.env.scope ko x ((mt N G a).ex X.env.scope) tg i && mB N G b X.env.scope p
    | none => false) = true := h
  have nd : X.N.Nodup := by rw [gd.hN]; exact gd.nd
  have I := all_E c N G a
  split at h
  · rename_i tg i p hx
    obtain ⟨ps, rfl⟩ := xFor_eq hx
    rw [Bool.and_eq_true] at h
    obtain ⟨h, hp⟩ := h
    cases ko with
    | none =>
      unfold koB at h
      simp only [Bool.and_eq_true] at h
      obtain ⟨h1, h2⟩ := h
      obtain ⟨y, py, rfl, g1, g2, g3⟩ := loc_is gd.hN ow.st h1
      exact ⟨_, rfl, s1_forR ow.ps gd.calm nd g1 g2 g3 (I.plc gd i h2) (hb.all p hp) fun v => plain_fold (I.pln _ _ h2) _ v⟩
    | some k =>
      unfold koB at h
      simp only at h
      split at h
      · rename_i t1 t2 e e1 e2
        obtain ⟨kt, tp, rfl⟩ := xPair_eq e1
        obtain ⟨ep, cp, rfl⟩ := xEnum_eq e2
        simp only [Bool.and_eq_true] at h
        obtain ⟨⟨⟨⟨h1, h2⟩, h3⟩, h4⟩, h5⟩ := h
        obtain ⟨z, pz, rfl, q1, q2, q3⟩ := loc_is gd.hN ow.st h1
        obtain ⟨y, py, rfl, g1, g2, g3⟩ := loc_is gd.hN ow.st h2
        unfold gEnum at h3
        simp only [Bool.and_eq_true, decide_eq_true_eq] at h3
        exact ⟨_, rfl, s1_forRe ow.ps gd.calm nd (gl_is h3.1) (gd.free _ h3.2) q1 q2 q3 g1 g2 g3 (I.plc gd e h5) h4 (hb.all p hp)⟩
      · cases h
  · cases h
theorem all_S (gd : Good c G N X W) (ow : Own X) (m : S) : AllS c N G X W m := by
  induction m with
  | skip =>
    refine ⟨fun s h => ?_, fun s h => ?_⟩
    · rcases isSkip_eq h with e | ⟨p, e⟩
      · cases e
      · cases e; exact s1_pass
    · rcases isSkip_eq h with e | ⟨p, e⟩
      · rw [e]; exact ss_nil
      · rw [e]; exact s1_pass.one
  | never => exact ⟨fun s h => s1_never, fun s h => ss_never⟩
  | seq a b ha hb =>
    refine ⟨fun s h => ?_, fun s h => ?_⟩
    · cases h
    · match s, h with
      | x :: y :: r, h =>
        replace h : (mB N G a X.env.scope [x] && mB N G b X.env.scope (y :: r)) = true := h
        rw [Bool.and_eq_true] at h
        exact ss_seq (ha.one x h.1) (hb.all _ h.2)
      | [], h => cases h
      | [_], h => cases h
  | expr e =>
    refine .single fun s h => ?_
    replace h : (match xExprS s with
      | some (x, _) => noComp x && (mt N G e).ex X.env.scope x
      | none => false) = true := h
    split at h
    · rename_i x p hx
      obtain rfl := xExprS_eq hx
      rw [Bool.and_eq_true] at h
      exact ⟨_, rfl, s1_expr h.1 ((all_E c N G e).val gd x h.2)⟩
    · cases h
  | asg t e => exact s_asg gd ow
  | par is es => exact s_par gd
  | peek i b hb =>
    refine ⟨fun s h => ?_, fun s h => ?_⟩
    · obtain ⟨t, p, q⟩ := hb.one s h
      exact ⟨t, p, sem_peek q⟩
    · obtain ⟨t, p, q⟩ := hb.all s h
      exact ⟨t, p, sem_peek q⟩
  | forR ko x a b hb => exact s_forR gd ow hb
  | setF i C f e =>
    refine .single fun s h => ?_
    replace h : (match xAsg s with
      | some (tg, x, _) => (match xAttr tg with
        | some (o, m) => decide (m = f) && slotB N X.env.scope i o && noComp x && decide (C ∈ G.cls) && decide ((C, f) ∈ G.flds) && (mt N G e).ex X.env.scope x
        | none => false)
      | none => false) = true := h
    split at h
    · rename_i tg x p hx
      obtain rfl := xAsg_eq hx
      split at h
      · rename_i o m hy
        obtain ⟨ps, rfl⟩ := xAttr_eq hy
        simp only [Bool.and_eq_true, decide_eq_true_eq] at h
        obtain ⟨⟨⟨⟨⟨rfl, h2⟩, h3⟩, h4⟩, h5⟩, h6⟩ := h
        obtain ⟨y, py, rfl, g1, g2, g3, g4⟩ := slot_is gd.hN h2
        exact ⟨_, rfl, s1_setF gd.kk g1 g2 g3 g4 h3 (gd.cls _ h4).cls (gd.flds _ _ h5) ((all_E c N G e).val gd x h6)⟩
      · cases h
    · cases h
  | gift is a ha =>
    refine ⟨fun s h => ?_, fun s h => ?_⟩
    · obtain ⟨t, p, q⟩ := ha.one s h
      exact ⟨t, p, sem_gift q⟩
    · obtain ⟨t, p, q⟩ := ha.all s h
      exact ⟨t, p, sem_gift q⟩
  | aug i o e =>
    refine .single fun s h => ?_
    replace h : (match xAug s with
      | some (tg, p, x) => (decide (o = .add) || decide (o = .sub)) && bopB o p && locB N X.env.scope i tg && (mt N G e).ex X.env.scope x
      | none => false) = true := h
    split at h
    · rename_i tg p x hx
      obtain ⟨ps, rfl⟩ := xAug_eq hx
      simp only [Bool.and_eq_true] at h
      obtain ⟨⟨⟨h1, h2⟩, h3⟩, h4⟩ := h
      obtain rfl := bopB_eq h2
      obtain ⟨y, py, rfl, g1, g2, g3⟩ := loc_is gd.hN ow.st h3
      exact ⟨_, rfl, s1_aug (aug_op h1) (by rw [gd.hN]; exact gd.nd) g1 g2 g3 ((all_E c N G e).val gd x h4)⟩
    · cases h
  | augI a j o e =>
    refine .single fun s h => ?_
    replace h : (match xAug s with
      | some (tg, p, x) => (match xSub tg with
        | some (l, r) => (decide (o = .add) || decide (o = .sub)) && bopB o p && plainE r && (mt N G a).ex X.env.scope l && (mt N G j).ex X.env.scope r && (mt N G e).ex X.env.scope x
        | none => false)
      | none => false) = true := h
    split at h
    · rename_i tg p x hx
      obtain ⟨ps, rfl⟩ := xAug_eq hx
      split at h
      · rename_i l r hy
        obtain ⟨p2, rfl⟩ := xSub_eq hy
        simp only [Bool.and_eq_true] at h
        obtain ⟨⟨⟨⟨⟨h1, h2⟩, h3⟩, h4⟩, h5⟩, h6⟩ := h
        obtain rfl := bopB_eq h2
        exact ⟨_, rfl, s1_augI (aug_op h1) h3 ((all_E c N G a).plc gd l h4) ((all_E c N G j).val gd r h5) ((all_E c N G e).val gd x h6)⟩
      · cases h
    · cases h
  | ret e =>
    refine .single fun s h => ?_
    replace h : (match xRet s with
      | some (some x) => (mt N G e).ex X.env.scope x
      | _ => false) = true := h
    split at h
    · rename_i x hx
      obtain ⟨ps, rfl⟩ := xRet_eq hx
      exact ⟨_, rfl, s1_ret ((all_E c N G e).val gd x h)⟩
    · cases h
  | retN =>
    refine .single fun s h => ?_
    replace h : (match xRet s with
      | some none => true
      | _ => false) = true := h
    split at h
    · rename_i hx
      obtain ⟨ps, rfl⟩ := xRet_eq hx
      exact ⟨_, rfl, s1_retN⟩
    · cases h
  | ifS t a b ha hb =>
    refine .single fun s h => ?_
    replace h : (match xIfS s with
      | some (x, p, q) => (mt N G t).ex X.env.scope x && mB N G a X.env.scope p && mB N G b X.env.scope q
      | none => false) = true := h
    split at h
    · rename_i x p q hx
      obtain ⟨ps, rfl⟩ := xIfS_eq hx
      simp only [Bool.and_eq_true] at h
      exact ⟨_, rfl, s1_if ((all_E c N G t).tst gd x h.1.1) (ha.all p h.1.2) (hb.all q h.2)⟩
    · cases h
  | forS t it b hb =>
    refine .single fun s h => ?_
    replace h : (match xFor s with
      | some (tg, x, p) => (mt N G t).tg X.env.scope X.env.scope tg && (mt N G it).ex X.env.scope x && itOk it tg && mB N G b X.env.scope p
      | none => false) = true := h
    split at h
    · rename_i tg x p hx
      obtain ⟨ps, rfl⟩ := xFor_eq hx
      simp only [Bool.and_eq_true] at h
      obtain ⟨⟨⟨h1, h2⟩, h3⟩, h4⟩ := h
      have I := all_E c N G it
      exact ⟨_, rfl, s1_for ow.ps gd.calm (I.itr gd tg x h2 h3) ((all_E c N G t).tg gd _ tg ow.st h1) (hb.all p h4) fun y => plain_fold (I.pln _ _ h2) _ y⟩
    · cases h
  | brk =>
    refine .single fun s h => ?_
    obtain ⟨p, rfl⟩ := isBrk_eq h
    exact ⟨_, rfl, s1_brk⟩
  | cont =>
    refine .single fun s h => ?_
    obtain ⟨p, rfl⟩ := isCont_eq h
    exact ⟨_, rfl, s1_cont⟩
  | kill is a ha =>
    refine ⟨fun s h => ?_, fun s h => ?_⟩
    · obtain ⟨t, p, q⟩ := ha.one s h
      exact ⟨t, p, sem_kill q⟩
    · obtain ⟨t, p, q⟩ := ha.all s h
      exact ⟨t, p, sem_kill q⟩
end
end Bm

set_option maxHeartbeats 2000000
/-! B27: defs, programs. -/
namespace Bm
open PySem PySem.Spec PyProof.Rows L2
variable [TheK]
theorem run_len {c : Str → List D → CRes} {d : Def} {as : List D} (h : d.run c as ≠ .no) : as.length = d.np := by
  unfold Def.run at h
  split at h
  · assumption
  · exact absurd rfl h
theorem sit_start {N : List Str} {H : Hp} {Z O : AS} {as : List D} {vs : List V} {n : Nat} (zk : ZOk H Z) (oz : ∀ b, O b → Z b) (ra : RepA H Z as vs O) (hn : n = N.length - vs.length) : Sit H Z (L2.start N vs) (as ++ List.replicate n .dead) O := by
  obtain ⟨l, F, f1, f2, r⟩ := ra
  refine ⟨zk, oz, by unfold L2.start; simp [l, hn], F, f1, f2, fun i d e => ?_⟩
  unfold L2.start
  rw [List.getElem?_append] at e ⊢
  by_cases hi : i < as.length
  · rw [if_pos hi] at e
    have hv : i < vs.length := by rw [← l]; exact hi
    rw [List.length_map, if_pos hv]
    exact .inr ⟨vs[i], by simp [hv], r i d _ e (by simp [hv])⟩
  · rw [if_neg hi] at e
    refine .inl ?_
    have := List.mem_of_getElem? e
    rw [List.mem_replicate] at this
    rw [this.2]; rfl
theorem bwipe_get (g : List D) : ∀ (vs : List Nat) (i : Nat) (d : D), (Bm.wipe g vs)[i]? = some d → d = .dead ∨ (i ∉ vs ∧ g[i]? = some d)
  | [], i, d, e => .inr ⟨by simp, e⟩
  | v :: vs, i, d, e => by
    have e : ((Bm.wipe g vs).set v .dead)[i]? = some d := e
    rcases get_set e with ⟨rfl, h, _⟩ | ⟨ne, h⟩
    · exact .inl h
    · rcases bwipe_get g vs i d h with h | ⟨h1, h2⟩
      · exact .inl h
      · exact .inr ⟨by simp [h1, Ne.symm ne], h2⟩
theorem bwipe_len (g : List D) : ∀ vs : List Nat, (Bm.wipe g vs).length = g.length
  | [] => rfl
  | v :: vs => by
    show ((Bm.wipe g vs).set v .dead).length = _
    rw [List.length_set, bwipe_len g vs]
/-- the arguments behind the call -/
theorem args_back {N : List Str} {H' : Hp} {Z' O' : AS} {vs : List V} {σ' : Sg} {g' : List D} {ns : List Nat} (hl : vs.length ≤ N.length) (s : Sit H' Z' σ' g' O') (ag : Agree ns (L2.start N vs) σ') : RepA H' Z' ((Bm.wipe g' ns).take vs.length) vs O' := by
  obtain ⟨z, oz, l, F, f1, f2, rr⟩ := s
  have lg : g'.length = N.length := by
    rw [← l, ag.len]
    unfold L2.start
    simp
    omega
  refine ⟨by rw [List.length_take, bwipe_len, lg]; omega, F, f1, f2, fun i d v e1 e2 => ?_⟩
  have hi : i < vs.length := (List.getElem?_eq_some_iff.mp e2).1
  rw [List.getElem?_take, if_pos hi] at e1
  rcases bwipe_get g' ns i d e1 with h | ⟨h1, h2⟩
  · rw [h]; exact .dead _ _
  · rcases rr i d h2 with h | ⟨w, h3, h4⟩
    · cases d with
      | dead => exact .dead _ _
      | «at» a => cases h
      | nd k xs => cases h
    · rw [ag.at_ i h1] at h3
      unfold L2.start at h3
      rw [List.getElem?_append, List.length_map, if_pos hi, List.getElem?_map, e2] at h3
      injection h3 with h3
      injection h3 with h3
      rw [h3]; exact h4
def CalleeK (P : Program) (w : World) (mg : Str → Option Value) (base : Heap) (k : Nat) (F : List D → CRes) (x : Str) (kd : Kc) : Prop :=
  ∃ (fa : Addr) (fd : FuncData) (ps : List Str), Found mg TheK.K x fa kd ∧ FnG P w TheK.K mg base (CX P w) k fa fd ps (spD mg F) ∧ Binds TheK.K fd ps []
/-- what a module's names are, but for the defs; ks: which defs are no names -/
structure Gs where
  consts : List (Str × At)
  free : List Str
  kinds : List (Str × Kc) := []
  cls : List Str := []
  flds : List (Str × Str) := []
def Gs.glb (s : Gs) (defs : List Str) : Glb := ⟨s.consts, s.free, defs, s.kinds, s.cls, s.flds⟩
structure Globs (mg : Str → Option Value) (s : Gs) : Prop where
  consts : ∀ x a, (x, a) ∈ s.consts → ∃ u, mg x = some u ∧ RelV a.v u
  free : ∀ x, x ∈ s.free → mg x = none
  cls : ∀ C, C ∈ s.cls → ClsOk mg TheK.K C
  flds : ∀ C f, (C, f) ∈ s.flds → NoAttr TheK.K (He.ga TheK.K C) f
theorem def_sound {P : Program} {w : World} {mg : Str → Option Value} {base : Heap} {c : Str → List D → CRes} {k : Nat} {f : Addr} {fd : FuncData} {x qual : Str} {params : Arguments} {body : List Stmt} {scope : Scope} {N ps : List Str} {d : Def} {gs : Gs} {nms : List Str}
    (F : FunD TheK.K x qual params body scope [] [] f fd) (S : FnScope N ps scope) (hm : mB N (gs.glb nms) d.body scope body = true) (hnp : d.np = ps.length) (hnn : d.nn = N.length) (gl : Globs mg gs) (defs : ∀ x, x ∈ nms → CalleeK P w mg base k (c x) x ((gs.glb nms).kind x)) :
    FnG P w TheK.K mg base (CX P w) (k + 2) f fd ps (spD mg (d.run c)) := by
  have hpl : ps.length ≤ N.length := by have := congrArg List.length S.pre; rw [List.length_take] at this; omega
  have len : ∀ vs H Q E, spD mg (d.run c) vs H Q E → vs.length = ps.length := fun vs H Q E h => by
    obtain ⟨Z, ds, O, _, _, ra, h⟩ := h
    have : d.run c ds ≠ .no := fun e => by rw [e] at h; exact h
    rw [← ra.len, run_len this, hnp]
  refine FnG.of F S len fun cdv A out s H vs Q E rm want => ?_
  have lv := len _ _ _ _ want
  obtain ⟨Z, ds, O, zk, oz, ra, want⟩ := want
  generalize hX : cxOf (CX P w) P w TheK.K mg base N qual scope f cdv A out s H E = X
  have gd : Good c (gs.glb nms) N X (fun cls dd _ H => E cls dd H) := by
    subst hX
    refine ⟨rfl, S.nd, rfl, gl.consts, gl.free, ?_, rm.grd, rm.room.hd, fun x hx => ?_, gl.cls, gl.flds, S.kind, takes_of rfl rfl rfl rfl, rfl⟩
    · have := rm.room.un
      show (A.deeper (envOfC qual scope s.heap.objs.size f cdv)).units + 200 < cLine
      omega
    · obtain ⟨fa, fd, ps, h1, h2, h3⟩ := defs x hx
      exact ⟨k, fa, fd, ps, h1, h2, rm, h3⟩
  have ow : Own X := by
    subst hX
    exact ⟨fun x => ⟨fun h => h, fun h => ⟨h, rfl⟩⟩, passes_of rfl⟩
  have hsc : X.env.scope = scope := by subst hX; rfl
  obtain ⟨t, pt, st⟩ := (all_S gd ow d.body).all body (by rw [hsc]; exact hm)
  refine ⟨t, pt, st (L2.start N vs) H Z (ds ++ List.replicate (d.nn - d.np) .dead) O _ (sit_start zk oz ra (by rw [hnn, hnp, lv])) ?_⟩
  have dl : ds.length = d.np := by rw [ra.len, lv, hnp]
  unfold Def.run at want
  rw [if_pos dl] at want
  have exO : ∀ {H' : Hp} {Z' : AS}, Bm.Ext (Wq false O) H Z H' Z' → Bm.Ext O H Z H' Z' := fun e => ⟨oz, fun a o q n => e.same a o q fun w => n w.2, e.zold, fun a z n => e.zkeep a z fun w => n w.2⟩
  have tk : d.np = vs.length := by rw [hnp, lv]
  cases e : sden c d.body (ds ++ List.replicate (d.nn - d.np) .dead) with
  | rt dd g =>
    rw [e] at want
    exact fun v σ' H' Z' O' R o ag rd ow => want v H' Z' O' R o.sit.zok (exO o.ext) (fun b z => ⟨o.sit.oz b z, o.bnd b z⟩) (by rw [tk]; exact args_back (by omega) o.sit ag) rd ow
  | nx g =>
    rw [e] at want
    exact fun σ' H' Z' O' o ag => want .non H' Z' O' none_ o.sit.zok (exO o.ext) (fun b z => ⟨o.sit.oz b z, o.bnd b z⟩) (by rw [tk]; exact args_back (by omega) o.sit ag) (.at .non _) fun _ z => z.elim
  | ex x g =>
    rw [e] at want
    have hmg : X.mg = mg := by subst hX; rfl
    intro cls dd σ' H' Z' O' R o ag ex ow
    rw [hmg] at ex
    exact want cls dd H' Z' O' R o.sit.zok (exO o.ext) (fun b z => ⟨o.sit.oz b z, o.bnd b z⟩) (by rw [tk]; exact args_back (by omega) o.sit ag) ex ow
  | bk g => rw [e] at want; exact want.elim
  | ct g => rw [e] at want; exact want.elim
  | no => rw [e] at want; exact want.elim
/-! ### programs -/
/-- the function of a def: of any address -/
def DefAt (mg : Str → Option Value) (gs : Gs) (ds : List Str) (x : Str) (d : Def) : Prop :=
  ∃ (f : Addr) (fd : FuncData) (name qual : Str) (params : Arguments) (body : List Stmt) (scope : Scope) (N ps : List Str), Found mg TheK.K x f ((gs.glb ds).kind x) ∧ FunD TheK.K name qual params body scope [] [] f fd ∧ FnScope N ps scope ∧ mB N (gs.glb ds) d.body scope body = true ∧ d.np = ps.length ∧ d.nn = N.length ∧ Binds TheK.K fd ps []
def ProgOk (mg : Str → Option Value) (gs : Gs) : List (Str × Def) → Prop
  | [] => True
  | (x, d) :: r => x ∉ r.map (·.1) ∧ DefAt mg gs (r.map (·.1)) x d ∧ ProgOk mg gs r
theorem FnG.up {P : Program} {w : World} {K : PySem.W.Frag} {mg : Str → Option Value} {base : Heap} {CX : CXT} {k k' : Nat} {f : Addr} {fd : FuncData} {ps : List Str} {sp : Sp} (F : FnG P w K mg base CX k f fd ps sp) (h : k ≤ k') : FnG P w K mg base CX k' f fd ps sp :=
  ⟨F.len, fun A out s H args us vs Q E r => F.run A out s H args us vs Q E (r.mono h)⟩
theorem orc_skip {n x : Str} {d : Def} {r : List (Str × Def)} (h : x ≠ n) : orc ((n, d) :: r) x = orc r x := by
  funext as
  show (if x = n then _ else _) = _
  rw [if_neg h]
theorem orc_top {n : Str} {d : Def} {r : List (Str × Def)} : orc ((n, d) :: r) n = d.run (orc r) := by
  funext as
  show (if n = n then _ else _) = _
  rw [if_pos rfl]
theorem prog_sound {P : Program} {w : World} {mg : Str → Option Value} {base : Heap} {gs : Gs} (gl : Globs mg gs) : ∀ {pr : List (Str × Def)}, ProgOk mg gs pr → ∀ x, x ∈ pr.map (·.1) → CalleeK P w mg base (2 * pr.length) (orc pr x) x ((gs.glb []).kind x)
  | [], _, x, hx => by cases hx
  | (n, d) :: r, ⟨h1, h2, h3⟩, x, hx => by
    have ih := prog_sound (P := P) (w := w) (base := base) gl h3
    have len : 2 * ((n, d) :: r).length = 2 * r.length + 2 := by simp [Nat.mul_add]
    rw [len]
    by_cases e : x = n
    · subst e
      rw [orc_top]
      obtain ⟨f, fd, name, qual, params, body, scope, N, ps, g1, g2, g3, g4, g5, g6, g7⟩ := h2
      exact ⟨f, fd, ps, g1, def_sound g2 g3 g4 g5 g6 gl ih, g7⟩
    · rw [orc_skip e]
      have hx : x ∈ r.map (·.1) := by
        rw [List.map_cons, List.mem_cons] at hx
        exact hx.resolve_left e
      obtain ⟨fa, fd, ps, g1, g3, g4⟩ := ih x hx
      exact ⟨fa, fd, ps, g1, g3.up (by omega), g4⟩
end Bm

set_option maxHeartbeats 2000000
/-! B28: a law of one def, by what its text gives. -/
namespace Bm
open PySem PySem.Spec PyProof.Rows L2
/-- the script as a value -/
def scrD (ns : List Int) : D := .nd .scr (ns.map fun i => .int i)
theorem rep_script [TheK] {H : Hp} {a : Addr} {ns : List Int} (h : (∃ o, H a = some (.frz o (.lst (ns.map V.int)))) ∨ KL a (ns.map V.int)) : RepA H none_ [scrD ns] [.ref a] none_ := by
  refine ⟨rfl, fun _ => none_, fun _ _ z => z, fun _ _ _ z => z.elim, fun i d v e1 e2 => ?_⟩
  cases i with
  | zero =>
    simp at e1 e2
    subst e1 e2
    refine .nd .scr _ a _ none_ (fun _ => none_) h (by simp) (fun _ _ z => z) (fun _ _ _ z => z.elim) fun j d v e1 e2 => ?_
    rw [List.getElem?_map] at e1 e2
    obtain ⟨n, e3, e4⟩ := Option.map_eq_some_iff.mp e1
    rw [e3] at e2
    cases e2
    subst e4
    exact .at (.int n) _
  | succ i => simp at e1
theorem enter_law [TheK] {P : Program} {w : World} {mg mb : Str → Option Value} {k : Nat} {law scr : Addr} {x : Str} {F : List D → CRes} {st : Shared} {vals : List Value} {ns : List Int} {as : List D}
    (inK : TheK.K.In st.heap) (gNs : st.heap.Ns mainGlobals mg) (bNs : st.heap.Ns builtinsNs mb) (boot : ∀ y : Str, y ≠ "__name__" → mb y = bootBuiltins y) (nolim : st.heap.NoLimit) (nogen : st.gens = #[])
    (at_ : st.heap.get? scr = some { cls := .type "list", data := .seq vals.toArray }) (hints : IntsAre vals ns) (few : ns.length ≤ sizeLine) (room : Rm k callerA)
    (hlaw : mg x = some (.ref law)) (fn : ∀ base : Heap, CalleeK P w mg base k F x .fn) (res : F [scrD ns] = .ok (.bl true) as) :
    codeAny (model P w) callerA (.call (.ref law) ⟨[.ref scr], []⟩) (fun r s' => r = .ok (.ret (.bool true)) ∧ OldK st.heap s'.heap ∧ s'.os = st.os ∧ AllBare s'.gens) st := by
  have vv := vals_ints hints
  have go : ∀ H : Hp, ((∃ o, H scr = some (.frz o (.lst (ns.map V.int)))) ∨ KL scr (ns.map V.int)) → HOk P w H st.heap → (∀ b, H b ≠ none → b = scr ∧ ∃ o xs, H b = some (.frz o (.lst xs))) → (H scr ≠ none → TheK.K.lookup scr = none) →
      codeAny (model P w) callerA (.call (.ref law) ⟨[.ref scr], []⟩) (fun r s' => r = .ok (.ret (.bool true)) ∧ OldK st.heap s'.heap ∧ s'.os = st.os ∧ AllBare s'.gens) st := by
    intro H here hok only notK
    have keepB : ∀ (b : Addr) (o : Obj), st.heap.get? b = some o → H b = none → (hidT st.heap H).get? b = some o := fun b o e n => hidT_get e n
    have dicts : ∀ (b : Addr) (o : Obj) (es : Array DictEntry) (ep : Nat), st.heap.get? b = some o → o.data = .dict es ep → H b = none := fun b o es ep e d => by
      by_cases hb : H b = none
      · exact hb
      · obtain ⟨rfl, _⟩ := only b hb
        rw [at_] at e
        cases e
        have d' : Data.seq vals.toArray _ = Data.dict es ep := d
        cases d'
    have nsB : ∀ (b : Addr) (m : Str → Option Value), st.heap.Ns b m → (hidT st.heap H).Ns b m := fun b m ⟨o, es, ep, e, d, r⟩ => ⟨o, es, ep, keepB b o e (dicts b o es ep e d), d, r⟩
    have inB : TheK.K.In (hidT st.heap H) := fun b o e => keepB b o (inK b o e) (by
      by_cases hb : H b = none
      · exact hb
      · obtain ⟨rfl, _⟩ := only b hb
        rw [notK hb] at e
        cases e)
    have env : Env0 P w TheK.K mg (hidT st.heap H) callerA [] st H :=
      ⟨rfl, ⟨inB, nsB _ _ gNs, ⟨mb, nsB _ _ bNs, boot⟩, let ⟨mc, h1, h2⟩ := nolim; ⟨mc, nsB _ _ h1, h2⟩⟩, fun b o e => of_hidT e, Nat.le_of_eq (hidT_size _ _), trivial, fun b hb => (nomatch hb), hok, .of_eq nogen⟩
    have want : spD mg F [.ref scr] H (fun v _ => v = .bl true) (fun _ _ _ => False) := by
      refine ⟨none_, [scrD ns], none_, fun _ z => z.elim, fun _ z => z, rep_script here, ?_⟩
      rw [res]
      exact fun v H' Z' O' R _ _ _ _ r _ => rep_at r
    obtain ⟨fa, fd, ps, ⟨m1, _⟩, F1, b1⟩ := fn (hidT st.heap H)
    rw [hlaw] at m1
    cases m1
    have many := F1.len _ _ _ _ want
    refine codeAny_mono (F1.run callerA [] st H ⟨[.ref scr], []⟩ [.ref scr] [.ref scr] _ _ room env (b1 st [.ref scr] inK many) (.cons rfl .nil) want) fun r s' post => ?_
    match r, post with
    | .error e, ⟨_, _, _, _, _, _, _, _, _, _, _, _, bad⟩ => exact bad.elim
    | .ok (.ret u), ⟨v, H', os, bare, un, hok', ru, hv⟩ =>
      have hv : v = .bl true := hv
      subst hv
      obtain rfl : u = Value.bool true := ru
      refine ⟨rfl, OldK.of_keep fun b o e => ?_, os, bare⟩
      by_cases hb : H b = none
      · exact un.keep b o e hb (fun z => nomatch z) (by simp)
      · obtain ⟨_, ob, xs, hz⟩ := only b hb
        have hz' := un.frzs b ob _ hz
        obtain ⟨e1, _⟩ := hok b _ hz
        obtain ⟨e2, _⟩ := hok' b _ hz'
        rw [e] at e1
        cases e1
        exact e2
  cases hk : TheK.K.lookup scr with
  | some o =>
    have e := inK scr o hk
    rw [at_] at e
    cases e
    exact go (fun _ => none) (.inr ⟨_, vals.toArray, _, hk, rfl, rfl, rfl, by rw [List.size_toArray, hints.length]; exact few, by simpa using vv⟩) (fun b u z => by cases z) (fun b z => absurd rfl z) fun z => absurd rfl z
  | none =>
    let H1 : Hp := fun b => if b = scr then some (.frz { cls := .type "list", data := .seq vals.toArray } (.lst (ns.map V.int))) else none
    have h1 : H1 scr = some (.frz { cls := .type "list", data := .seq vals.toArray } (.lst (ns.map V.int))) := if_pos rfl
    have h2 : ∀ b, H1 b ≠ none → b = scr := fun b z => by
      by_cases hb : b = scr
      · exact hb
      · exact absurd (if_neg hb) z
    refine go H1 (.inl ⟨_, h1⟩) (fun b u z => ?_) (fun b z => ?_) fun _ => hk
    · obtain rfl := h2 b (by rw [z]; simp)
      rw [h1] at z
      cases z
      exact ⟨at_, by rw [List.length_map]; exact few, vals, _, vv, at_⟩
    · obtain rfl := h2 b z
      exact ⟨rfl, _, _, h1⟩
theorem room_caller {k : Nat} (h : Room k callerA) : Rm k callerA := ⟨h, rfl⟩
/-- a law: the text's defs, matched, give True at each script -/
theorem walk_bm {l : PySem.W.OpenLaw} {n : Nat} {q : Program} {loose : List Str} {XP : (Str → Option Value) → Heap → Prop} {YP : World → Heap → Prop} {d : DefRec} {pr : List (Str × Def)} {gs : Gs}
    (hn : l.most = some n) (hn2 : n ≤ sizeLine) (hdf : d.params.defaults = []) (hr : Room (2 * pr.length) callerA) (hd : d.name ∈ pr.map (·.1)) (hk : (gs.glb []).kind d.name = .fn)
    (F : ∀ (w : World) (mg : Str → Option Value) (fa : Addr) (h : Heap), YP w h → h.Ns mainGlobals mg → mg d.name = some (.ref fa) →
      ∃ (K : PySem.W.Frag), K.In h ∧ @Globs ⟨K⟩ mg gs ∧ @ProgOk ⟨K⟩ mg gs pr)
    (res : ∀ ns : List Int, ns.length ≤ n → ∃ as, orc pr d.name [scrD ns] = .ok (.bl true) as) :
    PySem.W.WalkO q loose XP YP l.row.toRowW d [] (fun f vs => PySem.call f vs) := by
  refine Att.attach_call hn hdf fun w s₀ s₁ mg mb fa o pm cd doc a vs ns G Y ho hfd hcd hmg hobj hints hlen hg => ?_
  obtain ⟨K, KX, gl, po⟩ := F w mg fa _ Y G.T.g hmg
  letI : TheK := ⟨K⟩
  obtain ⟨as, hres⟩ := res ns hlen
  exact enter_law KX G.T.g G.T.b G.T.builtins G.T.nolimit hg hobj hints (Nat.le_trans hlen hn2) (room_caller hr) hmg (fun base => by rw [← hk]; exact prog_sound gl po d.name hd) hres
end Bm

set_option maxHeartbeats 2000000
/-! B54: what of the module's classes is looked up once. -/
namespace Bm
open PySem PySem.Spec PyProof.Rows L2
def optB (a b : Option Bool) : Bool := decide (a = b)
def isiB (K : PySem.W.Frag) (a : Addr) : Bool := (tyNames.all fun n => optB (PySem.W.kitOne K (.type n) (.ref a)) (some false)) && (optB (PySem.W.kitOne K (.ref a) (.ref a)) (some true) &&
  (He.eqO (PySem.W.findIn K (.ref a) "__class__") (some (some (.builtin "object.__class__"))) && (He.eqO (PySem.W.specialIn K (.builtin "object.__class__") "__get__") (some (some (.builtin "getset_descriptor.__get__"))) &&
  (optB (PySem.W.takesIn K (.builtin "object.__class__")) (some true) && optB (PySem.W.mroIn K a (.type "object")) (some true)))))
theorem isiB_ok {K : PySem.W.Frag} {a : Addr} (h : isiB K a = true) : IsiOk K a := by
  obtain ⟨h1, h⟩ := He.ba h
  obtain ⟨h2, h⟩ := He.ba h
  obtain ⟨h3, h⟩ := He.ba h
  obtain ⟨h4, h⟩ := He.ba h
  obtain ⟨h5, h6⟩ := He.ba h
  exact ⟨fun n hn => of_decide_eq_true (List.all_eq_true.mp h1 n hn), of_decide_eq_true h2, He.eqO_ok h3, He.eqO_ok h4, of_decide_eq_true h5, of_decide_eq_true h6⟩
/-- a property's getter -/
def gtA (K : PySem.W.Frag) (C f : Str) : Addr := match PySem.W.recIn K (He.ma K (He.ga K C) f) "property" with
  | some (.ref g :: _) => g
  | _ => 0
def propB (K : PySem.W.Frag) (C f : Str) : Bool := He.eqO (PySem.W.findIn K (.ref (He.ga K C)) f) (some (some (.ref (He.ma K (He.ga K C) f)))) && (He.eqO (PySem.W.specialIn K (.ref (He.ma K (He.ga K C) f)) "__get__") (some (some (.builtin "property.__get__"))) &&
  (optB (PySem.W.takesIn K (.ref (He.ma K (He.ga K C) f))) (some true) && (match PySem.W.recIn K (He.ma K (He.ga K C) f) "property" with
    | some (.ref _ :: _) => true
    | _ => false)))
theorem propB_ok {K : PySem.W.Frag} {C f : Str} (h : propB K C f = true) : PropOf K (He.ga K C) f (He.ma K (He.ga K C) f) (gtA K C f) := by
  obtain ⟨h1, h⟩ := He.ba h
  obtain ⟨h2, h⟩ := He.ba h
  obtain ⟨h3, h4⟩ := He.ba h
  refine ⟨He.eqO_ok h1, He.eqO_ok h2, of_decide_eq_true h3, ?_⟩
  unfold gtA
  split at h4
  · rename_i g rest e
    rw [e]
    exact ⟨rest, rfl⟩
  · cases h4
inductive Xa where
  | isi (C : Str)
  | prop (C f : Str)
def Xa.ok (K : PySem.W.Frag) : Xa → Bool
  | .isi C => isiB K (He.ga K C)
  | .prop C f => propB K C f
def fnAt (K : PySem.W.Frag) (a : Addr) : He.FnW := match K.lookup a with
  | some ⟨_, _, .func fd, _⟩ => some (fd.name, fd.qualname, fd.params, fd.body, fd.scope, fd.globals, fd.closure, fd.builtins)
  | _ => none
def okAt (K : PySem.W.Frag) (a : Addr) (d : He.DefD) : Bool := PySem.W.keepIn K (.ref a) && (match K.lookup a with
  | some ⟨_, _, .func fd, _⟩ => PySem.W.codeIn K fd.code d.qual && (He.dflB K fd.defaults (d.dvs K) && He.kwdB K fd.kwdefaults (d.kws K))
  | _ => false)
theorem funAt {K : PySem.W.Frag} {a : Addr} {d : He.DefD} (e : fnAt K a = d.val) (c : okAt K a d = true) : ∃ fd, FunD K d.name d.qual d.params d.body d.scope (d.dvs K) (d.kws K) a fd := by
  obtain ⟨kp, c2⟩ := He.ba c
  unfold fnAt at e
  cases q : K.lookup a with
  | none =>
    rw [q] at c2
    cases c2
  | some o =>
    obtain ⟨oc, od, dt, osl⟩ := o
    rw [q] at c2 e
    cases dt with
    | func fd =>
      obtain ⟨n1, n2, n3, n4, n5, n6, n7, n8, n9, n10, n11, n12, n13, n14, n15⟩ := fd
      have e2 : (some (n1, n2, n3, n4, n5, n6, n7, n15) : He.FnW) = some (d.name, d.qual, d.params, .stmts d.body, d.scope, mainGlobals, [], builtinsNs) := e
      simp only [Option.some.injEq, Prod.mk.injEq] at e2
      obtain ⟨h1, h2, h3, h4, h5, h6, h7, h8⟩ := e2
      subst h1 h2 h3 h4 h5 h6 h7 h8
      have c3 : (PySem.W.codeIn K n13 d.qual && (He.dflB K n8 (d.dvs K) && He.kwdB K n9 (d.kws K))) = true := c2
      obtain ⟨k1, k2⟩ := He.ba c3
      obtain ⟨k3, k4⟩ := He.ba k2
      exact ⟨_, ⟨oc, od, n8, n9, n10, n11, n12, n13, n14, osl, rfl, q, k1, He.dflB_ok k3, He.kwdB_ok k4⟩, kp⟩
    | _ => cases c2
/-- a getter: its class, the property's name -/
structure Gt where
  C : Str
  f : Str
  d : He.DefD
abbrev AlB : Type := He.AlD × Bool × List He.FnW
def obsB (fa : List He.Fa) (fn : List He.DefD) (xs : List Xa) (gt : List Gt) (K : PySem.W.Frag) : AlB := (He.obsD fa fn K, (xs.all fun x => x.ok K) && (gt.all fun d => okAt K (gtA K d.C d.f) d.d), gt.map fun d => fnAt K (gtA K d.C d.f))
def valB (fn : List He.DefD) (gt : List Gt) : AlB := (He.valD fn, true, gt.map fun d => d.d.val)
def SaysB (fa : List He.Fa) (fn : List He.DefD) (xs : List Xa) (gt : List Gt) (K : PySem.W.Frag) : Prop := obsB fa fn xs gt K = valB fn gt
def obsBG (n : Nat) (fa : List He.Fa) (fn : List He.DefD) (xs : List Xa) (gt : List Gt) (g : Addr → Option Obj) : AlB := obsB fa fn xs gt (He.frG g (He.asD g n))
def hookB (n : Nat) (fa : List He.Fa) (fn : List He.DefD) (xs : List Xa) (gt : List Gt) : PySem.W.Hook where
  α := AlB
  obs := fun s => obsBG n fa fn xs gt s.heap.get?
  val := fun _ => valB fn gt
  says := fun _ h => ∃ K : PySem.W.Frag, K.In h ∧ SaysB fa fn xs gt K
  of := fun _ _ e => ⟨_, He.frG_in, e⟩
  keeps := fun _ _ _ ⟨K, hK, c⟩ k => ⟨K, PySem.W.Frag.In.keeps hK k, c⟩
theorem obsBG_eq {n : Nat} {fa : List He.Fa} {fn : List He.DefD} {xs : List Xa} {gt : List Gt} {g : Addr → Option Obj} {s : Shared} (h : ∀ a, g a = s.heap.get? a) : obsBG n fa fn xs gt g = (hookB n fa fn xs gt).obs s := by
  have e : g = s.heap.get? := funext h
  rw [e] <;> rfl
section
variable {fa : List He.Fa} {fn : List He.DefD} {xs : List Xa} {gt : List Gt} {K : PySem.W.Frag}
theorem SaysB.old (c : SaysB fa fn xs gt K) : He.SaysD fa fn K := congrArg (fun z : AlB => z.1) c
theorem SaysB.x (c : SaysB fa fn xs gt K) (i : Nat) {x : Xa} (h : xs[i]? = some x := by rfl) : x.ok K = true := by
  have c1 := (He.ba (show ((xs.all fun x => x.ok K) && (gt.all fun d => okAt K (gtA K d.C d.f) d.d)) = true from congrArg (fun z : AlB => z.2.1) c)).1
  exact List.all_eq_true.mp c1 x (List.mem_of_getElem? h)
theorem SaysB.getter (c : SaysB fa fn xs gt K) (i : Nat) {d : Gt} (h : gt[i]? = some d := by rfl) : ∃ fd, FunD K d.d.name d.d.qual d.d.params d.d.body d.d.scope (d.d.dvs K) (d.d.kws K) (gtA K d.C d.f) fd := by
  have c2 := (He.ba (show ((xs.all fun x => x.ok K) && (gt.all fun d => okAt K (gtA K d.C d.f) d.d)) = true from congrArg (fun z : AlB => z.2.1) c)).2
  have e : (gt.map fun d => fnAt K (gtA K d.C d.f)) = gt.map fun d => d.d.val := congrArg (fun z : AlB => z.2.2) c
  have e2 : (gt.map fun d => fnAt K (gtA K d.C d.f))[i]? = (gt.map fun d => d.d.val)[i]? := by rw [e]
  rw [List.getElem?_map, List.getElem?_map, h] at e2
  exact funAt (Option.some.inj e2) (List.all_eq_true.mp c2 d (List.mem_of_getElem? h))
end
end Bm

set_option maxHeartbeats 4000000
/-! B29: loops and comprehensions by invariants; the laws' own draw. -/
namespace Bm
open PySem
theorem for_inv {T : Den} {b : List D → RS} {src : Src} {x : Nat → D} {n : Nat} (P : Nat → List D → Prop) (hs : ∀ k g, k ≤ n → P k g → src.at g k = some (if k < n then some (x k) else none))
    (hb : ∀ k g, k < n → P k g → ∃ g1, T.asg (x k) g = .ok () g1 ∧ ∃ g2, (b g1 = .nx g2 ∨ b g1 = .ct g2) ∧ P (k + 1) g2) : ∀ m k g, k + m = n → P k g → ∃ g', forGo T b src m k g = .nx g' ∧ P n g' := by
  intro m
  induction m with
  | zero =>
    intro k g e p
    obtain rfl : k = n := by omega
    unfold forGo
    rw [hs k g (Nat.le_refl _) p, if_neg (Nat.lt_irrefl _)]
    exact ⟨g, rfl, p⟩
  | succ m ih =>
    intro k g e p
    unfold forGo
    rw [hs k g (by omega) p, if_pos (by omega)]
    obtain ⟨g1, h1, g2, h2, p2⟩ := hb k g (by omega) p
    obtain ⟨g', h3, p3⟩ := ih (k + 1) g2 (by omega) p2
    refine ⟨g', ?_, p3⟩
    simp only [h1, R.st]
    rcases h2 with h2 | h2 <;> (rw [h2]; exact h3)
theorem comp_inv {T C A : Den} {own : List Nat} {src : Src} {x : Nat → D} {n : Nat} (P : Nat → List D → Prop) (Y : Nat → D → Prop) (hs : ∀ k g, k ≤ n → P k g → src.at g k = some (if k < n then some (x k) else none))
    (hb : ∀ k g, k < n → P k g → ∃ g1 g2 g3 y, T.asg (x k) g = .ok () g1 ∧ C.tst g1 = .ok true g2 ∧ A.val g2 = .ok (y, false) g3 ∧ Y k y ∧ P (k + 1) (wipe g3 own)) :
    ∀ m k g, k + m = n → P k g → ∃ ys g', compGo T C A own src m k g = .ok ys g' ∧ P n g' ∧ ys.length = m ∧ ∀ i y, ys[i]? = some y → Y (k + i) y := by
  intro m
  induction m with
  | zero =>
    intro k g e p
    obtain rfl : k = n := by omega
    unfold compGo
    rw [hs k g (Nat.le_refl _) p, if_neg (Nat.lt_irrefl _)]
    exact ⟨[], g, rfl, p, rfl, fun i y h => by simp at h⟩
  | succ m ih =>
    intro k g e p
    unfold compGo
    rw [hs k g (by omega) p, if_pos (by omega)]
    obtain ⟨g1, g2, g3, y, h1, h2, h3, hy, p2⟩ := hb k g (by omega) p
    obtain ⟨ys, g', h4, p3, h5, h6⟩ := ih (k + 1) _ (by omega) p2
    refine ⟨y :: ys, g', ?_, p3, by simp [h5], fun i z hz => ?_⟩
    · simp only [h1, h2, h3, h4, R.bind, if_true]
    · cases i with
      | zero => simp at hz; subst hz; exact hy
      | succ i =>
        have := h6 i z (by simpa using hz)
        rw [show k + (i + 1) = k + 1 + i by omega]
        exact this
/-- a filter -/
theorem comp_flt {T C A : Den} {own : List Nat} {src : Src} {x y : Nat → D} {c : Nat → Bool} {n : Nat} (P : Nat → List D → Prop) (hs : ∀ k g, k ≤ n → P k g → src.at g k = some (if k < n then some (x k) else none))
    (hb : ∀ k g, k < n → P k g → ∃ g1 g2, T.asg (x k) g = .ok () g1 ∧ C.tst g1 = .ok (c k) g2 ∧ (c k = false → P (k + 1) (wipe g2 own)) ∧ (c k = true → ∃ g3, A.val g2 = .ok (y k, false) g3 ∧ P (k + 1) (wipe g3 own))) :
    ∀ m k g, k + m = n → P k g → ∃ g', compGo T C A own src m k g = .ok (((List.range' k m).filter c).map y) g' ∧ P n g' := by
  intro m
  induction m with
  | zero =>
    intro k g e p
    obtain rfl : k = n := by omega
    unfold compGo
    rw [hs k g (Nat.le_refl _) p, if_neg (Nat.lt_irrefl _)]
    exact ⟨g, rfl, p⟩
  | succ m ih =>
    intro k g e p
    unfold compGo
    rw [hs k g (by omega) p, if_pos (by omega)]
    obtain ⟨g1, g2, h1, h2, h3, h4⟩ := hb k g (by omega) p
    rw [List.range'_succ, List.filter_cons]
    cases hc : c k with
    | false =>
      rw [hc] at h2
      obtain ⟨g', h5, p3⟩ := ih (k + 1) _ (by omega) (h3 hc)
      refine ⟨g', ?_, p3⟩
      simp only [h1, h2, h5, R.bind, if_neg Bool.false_ne_true]
    | true =>
      rw [hc] at h2
      obtain ⟨g3, h6, p2⟩ := h4 hc
      obtain ⟨g', h5, p3⟩ := ih (k + 1) _ (by omega) p2
      refine ⟨g', ?_, p3⟩
      simp only [h1, h2, h6, h5, R.bind, if_true, List.map_cons]
theorem seq_nx {c : Str → List D → CRes} {a b : S} {g g1 : List D} (h : sden c a g = .nx g1) : sden c (.seq a b) g = sden c b g1 := by
  show (sden c a g).bind (sden c b) = _
  rw [h]; rfl
theorem if_t {c : Str → List D → CRes} {t : E} {a b : S} {g g1 : List D} (h : (den c t).tst g = .ok true g1) : sden c (.ifS t a b) g = sden c a g1 := by
  show ((den c t).tst g).st _ = _
  rw [h]; rfl
theorem if_f {c : Str → List D → CRes} {t : E} {a b : S} {g g1 : List D} (h : (den c t).tst g = .ok false g1) : sden c (.ifS t a b) g = sden c b g1 := by
  show ((den c t).tst g).st _ = _
  rw [h]; rfl
/-! ### the draw -/
def dBag : Def := ⟨1, 2,
  (.ret (.lstE (.cons (.cst (.int 0)) (.cons (.cst (.int 1234567891)) (.cons (.cst (.int 0)) (.cons (.comp (.blt .abs (.cons (.var 1) .nil)) (.var 1) (.slc (.var 0) (.cst .non) (.cst (.int 63))) .nil [1]) .nil))))))⟩
def sTake1 : S := .ifS (.cmp .eq (.idx (.var 0) (.cst (.int 0))) (.cst (.int 0)))
  (.seq (.asg (.var 2) (.cst (.int 0)))
  (.seq (.ifS (.cmp .lt (.idx (.var 0) (.cst (.int 2))) (.blt .len (.cons (.idx (.var 0) (.cst (.int 3))) .nil)))
  (.asg (.var 2) (.idx (.idx (.var 0) (.cst (.int 3))) (.idx (.var 0) (.cst (.int 2)))))
  .skip)
  (.seq (.augI (.var 0) (.cst (.int 2)) .add (.cst (.int 1)))
  (.seq (.ifS (.cmp .ge (.var 2) (.cst (.int 1000000000000000000)))
  (.asg (.idx (.var 0) (.cst (.int 0))) (.var 2))
  .skip)
  (.asg (.idx (.var 0) (.cst (.int 1))) (.bin .mod (.bin .add (.bin .add (.bin .mul (.idx (.var 0) (.cst (.int 1))) (.cst (.int 48271))) (.bin .mod (.var 2) (.cst (.int 2147483647)))) (.bin .mul (.cst (.int 7919)) (.idx (.var 0) (.cst (.int 2))))) (.cst (.int 2147483647))))))))
  .skip
def sTake2 : S := .seq (.ifS (.cmp .gt (.idx (.var 0) (.cst (.int 0))) (.cst (.int 0)))
  (.seq (.asg (.var 3) (.bin .mod (.idx (.var 0) (.cst (.int 0))) (.var 1)))
  (.seq (.asg (.idx (.var 0) (.cst (.int 0))) (.bin .fdiv (.idx (.var 0) (.cst (.int 0))) (.var 1)))
  (.ret (.mv 3))))
  .skip)
  (.seq (.asg (.var 4) (.bin .mod (.bin .mul (.bin .add (.idx (.var 0) (.cst (.int 1))) (.cst (.int 1))) (.cst (.int 39373))) (.cst (.int 1000000007))))
  (.seq (.asg (.var 5) (.bin .mod (.bin .mul (.bin .mod (.bin .mul (.var 4) (.var 4)) (.cst (.int 998244353))) (.cst (.int 30011))) (.cst (.int 998244353))))
  (.seq (.ifS (.cmp .gt (.var 1) (.cst (.int 1000000)))
  (.ret (.bin .mod (.bin .add (.bin .mul (.var 5) (.cst (.int 1000000007))) (.var 4)) (.var 1)))
  .skip)
  (.ret (.bin .mod (.bin .fdiv (.var 5) (.cst (.int 7))) (.var 1))))))
def dTake : Def := ⟨2, 6, .seq sTake1 sTake2⟩
def bagD (a b p : Int) (xs : List Int) : D := .lst true [.int a, .int b, .int p, .lst true (xs.map .int)]
theorem take1 {c : Str → List D → CRes} {a b p many : Int} {xs : List Int} (ha : 0 ≤ a) (hp : 0 ≤ p) (hx : ∀ x, x ∈ xs → 0 ≤ x) :
    ∃ a' b' p' d, sden c sTake1 [bagD a b p xs, .int many, .dead, .dead, .dead, .dead] = .nx [bagD a' b' p' xs, .int many, d, .dead, .dead, .dead] ∧ 0 ≤ a' ∧ 0 ≤ p' := by
  by_cases h0 : a = 0
  · subst h0
    obtain ⟨cell, hcell, hc⟩ : ∃ cell : Int, 0 ≤ cell ∧ sden c (.ifS (.cmp .lt (.idx (.var 0) (.cst (.int 2))) (.blt .len (.cons (.idx (.var 0) (.cst (.int 3))) .nil)))
        (.asg (.var 2) (.idx (.idx (.var 0) (.cst (.int 3))) (.idx (.var 0) (.cst (.int 2))))) .skip) [bagD 0 b p xs, .int many, .int 0, .dead, .dead, .dead] = .nx [bagD 0 b p xs, .int many, .int cell, .dead, .dead, .dead] := by
      by_cases hl : p < (xs.length : Int)
      · have hk : p.toNat < xs.length := by omega
        refine ⟨xs[p.toNat], hx _ (List.getElem_mem hk), ?_⟩
        simp [sden, den, bagD, RS.bind, R.st, Den.ofB, Den.ofVal, dVar, dIdx, two, varD, mkV, late, ofO, R.bind, D.isDead, D.pers, persL, idxD, L2.atI, L2.ixN, cmpV, cmpD, eqD, isVar, quiet, own1, dBlt, dCons, dNil, consL, bltD, hl, hp, hk]
      · refine ⟨0, Int.le_refl _, ?_⟩
        simp [sden, den, bagD, RS.bind, R.st, Den.ofB, Den.ofVal, dVar, dIdx, two, varD, mkV, late, ofO, R.bind, D.isDead, D.pers, persL, idxD, L2.atI, L2.ixN, cmpV, cmpD, eqD, isVar, quiet, own1, dBlt, dCons, dNil, consL, bltD, hl, hp]
    have e1 : sden c (.augI (.var 0) (.cst (.int 2)) .add (.cst (.int 1))) [bagD 0 b p xs, .int many, .int cell, .dead, .dead, .dead] = .nx [bagD 0 b (p + 1) xs, .int many, .int cell, .dead, .dead, .dead] := by
      simp [sden, den, bagD, RS.bind, R.st, Den.ofB, Den.ofVal, dVar, dIdx, two, varD, mkV, late, ofO, R.bind, D.isDead, D.pers, persL, idxD, L2.atI, L2.ixN, cmpV, cmpD, eqD, isVar, quiet, own1, dBin, binD, mulOk, plcIdx, asgIdx, getG, getP, setG, setP, augV]
    obtain ⟨a2, ha2, e2⟩ : ∃ a2 : Int, 0 ≤ a2 ∧ sden c (.ifS (.cmp .ge (.var 2) (.cst (.int 1000000000000000000))) (.asg (.idx (.var 0) (.cst (.int 0))) (.var 2)) .skip) [bagD 0 b (p + 1) xs, .int many, .int cell, .dead, .dead, .dead] = .nx [bagD a2 b (p + 1) xs, .int many, .int cell, .dead, .dead, .dead] := by
      by_cases hb : 1000000000000000000 ≤ cell
      · refine ⟨cell, hcell, ?_⟩
        simp [sden, den, bagD, RS.bind, R.st, Den.ofB, Den.ofVal, dVar, dIdx, two, varD, mkV, late, ofO, R.bind, D.isDead, D.pers, persL, idxD, L2.atI, L2.ixN, cmpV, cmpD, eqD, isVar, quiet, own1, dBin, binD, mulOk, plcIdx, asgIdx, getG, getP, setG, setP, augV, hb]
      · refine ⟨0, Int.le_refl _, ?_⟩
        simp [sden, den, bagD, RS.bind, R.st, Den.ofB, Den.ofVal, dVar, dIdx, two, varD, mkV, late, ofO, R.bind, D.isDead, D.pers, persL, idxD, L2.atI, L2.ixN, cmpV, cmpD, eqD, isVar, quiet, own1, dBin, binD, mulOk, plcIdx, asgIdx, getG, getP, setG, setP, augV, hb]
    have e3 : sden c (.asg (.idx (.var 0) (.cst (.int 1))) (.bin .mod (.bin .add (.bin .add (.bin .mul (.idx (.var 0) (.cst (.int 1))) (.cst (.int 48271))) (.bin .mod (.var 2) (.cst (.int 2147483647)))) (.bin .mul (.cst (.int 7919)) (.idx (.var 0) (.cst (.int 2))))) (.cst (.int 2147483647)))) [bagD a2 b (p + 1) xs, .int many, .int cell, .dead, .dead, .dead]
        = .nx [bagD a2 ((b * 48271 + cell % 2147483647 + 7919 * (p + 1)) % 2147483647) (p + 1) xs, .int many, .int cell, .dead, .dead, .dead] := by
      simp [sden, den, bagD, RS.bind, R.st, Den.ofB, Den.ofVal, dVar, dIdx, two, varD, mkV, late, ofO, R.bind, D.isDead, D.pers, persL, idxD, L2.atI, L2.ixN, cmpV, cmpD, eqD, isVar, quiet, own1, dBin, binD, mulOk, plcIdx, asgIdx, getG, getP, setG, setP, augV]
    refine ⟨a2, (b * 48271 + cell % 2147483647 + 7919 * (p + 1)) % 2147483647, p + 1, .int cell, ?_, ha2, by omega⟩
    have e0 : sden c (.asg (.var 2) (.cst (.int 0))) [bagD 0 b p xs, .int many, .dead, .dead, .dead, .dead] = .nx [bagD 0 b p xs, .int many, .int 0, .dead, .dead, .dead] := by
      simp [sden, den, bagD, RS.bind, R.st, Den.ofB, Den.ofVal, dVar, dIdx, two, varD, mkV, late, ofO, R.bind, D.isDead, D.pers, persL, idxD, L2.atI, L2.ixN, cmpV, cmpD, eqD, isVar, quiet, own1, dBin, binD, mulOk, plcIdx, asgIdx, getG, getP, setG, setP, augV]
    have t0 : (den c (.cmp .eq (.idx (.var 0) (.cst (.int 0))) (.cst (.int 0)))).tst [bagD 0 b p xs, .int many, .dead, .dead, .dead, .dead] = .ok true [bagD 0 b p xs, .int many, .dead, .dead, .dead, .dead] := by
      simp [sden, den, bagD, RS.bind, R.st, Den.ofB, Den.ofVal, dVar, dIdx, two, varD, mkV, late, ofO, R.bind, D.isDead, D.pers, persL, idxD, L2.atI, L2.ixN, cmpV, cmpD, eqD, isVar, quiet, own1, dBin, binD, mulOk, plcIdx, asgIdx, getG, getP, setG, setP, augV]
    unfold sTake1
    rw [if_t t0, seq_nx e0, seq_nx hc, seq_nx e1, seq_nx e2]
    exact e3
  · refine ⟨a, b, p, .dead, ?_, ha, hp⟩
    have h1 : (a == 0) = false := by simpa using h0
    simp [sTake1, sden, den, bagD, RS.bind, R.st, Den.ofB, Den.ofVal, dVar, dIdx, two, varD, mkV, late, ofO, R.bind, D.isDead, D.pers, persL, idxD, L2.atI, L2.ixN, cmpV, cmpD, eqD, h0]
theorem take2 {c : Str → List D → CRes} {a b p many : Int} {xs : List Int} {d : D} (ha : 0 ≤ a) (hm : 0 < many) (hm2 : many < 2 ^ 200) :
    ∃ v a' g3 g4 g5 g2, sden c sTake2 [bagD a b p xs, .int many, d, .dead, .dead, .dead] = .rt (.int v) [bagD a' b p xs, .int many, g2, g3, g4, g5] ∧ 0 ≤ a' ∧ 0 ≤ v ∧ v < many := by
  have hm3 : many < 1606938044258990275541962092341162602522202993782792835301376 := hm2
  by_cases h0 : 0 < a
  · refine ⟨a % many, a / many, .int (a % many), .dead, .dead, d, ?_, Int.ediv_nonneg ha (by omega), Int.emod_nonneg _ (by omega), Int.emod_lt_of_pos _ hm⟩
    simp [sTake2, sden, den, bagD, RS.bind, R.st, Den.ofB, Den.ofVal, dVar, dIdx, two, varD, mkV, late, ofO, R.bind, D.isDead, D.pers, persL, idxD, L2.atI, L2.ixN, cmpV, cmpD, eqD, isVar, quiet, own1, dBin, binD, mulOk, plcIdx, asgIdx, getG, getP, setG, setP, augV, mvD, h0, hm, hm3]
  · have h4 : -(18446744073709551616 : Int) < (b + 1) * 39373 % 1000000007 ∧ (b + 1) * 39373 % 1000000007 < 18446744073709551616 := by omega
    by_cases h5 : 1000000 < many
    · refine ⟨((b + 1) * 39373 % 1000000007 * ((b + 1) * 39373 % 1000000007) % 998244353 * 30011 % 998244353 * 1000000007 + (b + 1) * 39373 % 1000000007) % many, a, .dead, .int ((b + 1) * 39373 % 1000000007), .int ((b + 1) * 39373 % 1000000007 * ((b + 1) * 39373 % 1000000007) % 998244353 * 30011 % 998244353), d, ?_, ha, Int.emod_nonneg _ (by omega), Int.emod_lt_of_pos _ hm⟩
      simp [sTake2, sden, den, bagD, RS.bind, R.st, Den.ofB, Den.ofVal, dVar, dIdx, two, varD, mkV, late, ofO, R.bind, D.isDead, D.pers, persL, idxD, L2.atI, L2.ixN, cmpV, cmpD, eqD, isVar, quiet, own1, dBin, binD, mulOk, plcIdx, asgIdx, getG, getP, setG, setP, augV, mvD, h0, hm, h4, h5]
    · refine ⟨((b + 1) * 39373 % 1000000007 * ((b + 1) * 39373 % 1000000007) % 998244353 * 30011 % 998244353 / 7) % many, a, .dead, .int ((b + 1) * 39373 % 1000000007), .int ((b + 1) * 39373 % 1000000007 * ((b + 1) * 39373 % 1000000007) % 998244353 * 30011 % 998244353), d, ?_, ha, Int.emod_nonneg _ (by omega), Int.emod_lt_of_pos _ hm⟩
      simp [sTake2, sden, den, bagD, RS.bind, R.st, Den.ofB, Den.ofVal, dVar, dIdx, two, varD, mkV, late, ofO, R.bind, D.isDead, D.pers, persL, idxD, L2.atI, L2.ixN, cmpV, cmpD, eqD, isVar, quiet, own1, dBin, binD, mulOk, plcIdx, asgIdx, getG, getP, setG, setP, augV, mvD, h0, hm, h4, h5]
/-- the state of a draw -/
def Bag (d : D) : Prop := ∃ a b p xs, d = bagD a b p xs ∧ 0 ≤ a ∧ 0 ≤ p ∧ ∀ x, x ∈ xs → 0 ≤ x
theorem Bag.not_pers {d : D} (h : Bag d) : d.pers = false ∧ d.isDead = false := by
  obtain ⟨a, b, p, xs, rfl, _⟩ := h
  exact ⟨rfl, rfl⟩
theorem take_ok {c : Str → List D → CRes} {bag : D} {many : Int} (h : Bag bag) (hm : 0 < many) (hm2 : many < 2 ^ 200) : ∃ v bag', dTake.run c [bag, .int many] = .ok (.int v) [bag', .int many] ∧ Bag bag' ∧ 0 ≤ v ∧ v < many := by
  obtain ⟨a, b, p, xs, rfl, ha, hp, hx⟩ := h
  obtain ⟨a1, b1, p1, d1, e1, ha1, hp1⟩ := take1 (c := c) (b := b) (many := many) ha hp hx
  obtain ⟨v, a2, g3, g4, g5, g2, e2, ha2, hv, hv2⟩ := take2 (c := c) (b := b1) (p := p1) (xs := xs) (d := d1) ha1 hm hm2
  refine ⟨v, bagD a2 b1 p1 xs, ?_, ⟨a2, b1, p1, xs, rfl, ha2, hp1, hx⟩, hv, hv2⟩
  unfold Def.run
  have e : sden c dTake.body ([bagD a b p xs, .int many] ++ List.replicate (dTake.nn - dTake.np) .dead) = .rt (.int v) [bagD a2 b1 p1 xs, .int many, g2, g3, g4, g5] := by
    show sden c (.seq sTake1 sTake2) [bagD a b p xs, .int many, .dead, .dead, .dead, .dead] = _
    rw [seq_nx e1]
    exact e2
  rw [e]
  rfl
end Bm

set_option maxHeartbeats 4000000
/-! B30: the laws' bag. -/
namespace Bm
open PySem
theorem late_own {m l : E} {d : D} {g : List D} (h : isVar m = false) : late m l (d, false) g = some (d, false) := by
  cases m <;> first | rfl | cases h
theorem late_cst {a : At} {l : E} {z : D} {g : List D} : late (.cst a) l (z, false) g = some (z, false) := rfl
theorem late_mv {i : Nat} {l : E} {z : D} {g : List D} : late (.mv i) l (z, false) g = some (z, false) := rfl
theorem late_glb {x : Str} {a : At} {l : E} {z : D} {g : List D} : late (.glb x a) l (z, false) g = some (z, false) := rfl
theorem late_bin {o : BOp} {a b : E} {l : E} {z : D} {g : List D} : late (.bin o a b) l (z, false) g = some (z, false) := rfl
theorem late_cmp {o : COp} {a b : E} {l : E} {z : D} {g : List D} : late (.cmp o a b) l (z, false) g = some (z, false) := rfl
theorem late_cmp2 {o p : COp} {a b d : E} {l : E} {z : D} {g : List D} : late (.cmp2 o p a b d) l (z, false) g = some (z, false) := rfl
theorem late_neg {a : E} {l : E} {z : D} {g : List D} : late (.neg a) l (z, false) g = some (z, false) := rfl
theorem late_notE {a : E} {l : E} {z : D} {g : List D} : late (.notE a) l (z, false) g = some (z, false) := rfl
theorem late_andE {a b : E} {l : E} {z : D} {g : List D} : late (.andE a b) l (z, false) g = some (z, false) := rfl
theorem late_orE {a b : E} {l : E} {z : D} {g : List D} : late (.orE a b) l (z, false) g = some (z, false) := rfl
theorem late_ife {a b d : E} {l : E} {z : D} {g : List D} : late (.ife a b d) l (z, false) g = some (z, false) := rfl
theorem late_tupE {a : E} {l : E} {z : D} {g : List D} : late (.tupE a) l (z, false) g = some (z, false) := rfl
theorem late_lstE {a : E} {l : E} {z : D} {g : List D} : late (.lstE a) l (z, false) g = some (z, false) := rfl
theorem late_idx {a b : E} {l : E} {z : D} {g : List D} : late (.idx a b) l (z, false) g = some (z, false) := rfl
theorem late_slc {a b d : E} {l : E} {z : D} {g : List D} : late (.slc a b d) l (z, false) g = some (z, false) := rfl
theorem late_rev {a : E} {l : E} {z : D} {g : List D} : late (.rev a) l (z, false) g = some (z, false) := rfl
theorem late_call {f : Str} {a : E} {l : E} {z : D} {g : List D} : late (.call f a) l (z, false) g = some (z, false) := rfl
theorem late_blt {b : Blt} {a : E} {l : E} {z : D} {g : List D} : late (.blt b a) l (z, false) g = some (z, false) := rfl
theorem late_lm {m : Lm} {a b : E} {l : E} {z : D} {g : List D} : late (.lm m a b) l (z, false) g = some (z, false) := rfl
theorem late_comp {a b d e : E} {f : List Nat} {l : E} {z : D} {g : List D} : late (.comp a b d e f) l (z, false) g = some (z, false) := rfl
theorem late_frz {a : E} {l : E} {z : D} {g : List D} : late (.frz a) l (z, false) g = some (z, false) := rfl
theorem late_var {i : Nat} {l : E} {x : VD} {g : List D} : late (.var i) l x g = (match g[i]? with
    | some d => mkV d true
    | none => none) := rfl
theorem ints_of {ys : List D} (h : ∀ (i : Nat) (y : D), ys[i]? = some y → ∃ z : Int, y = D.int z ∧ 0 ≤ z) : ∃ xs : List Int, ys = xs.map D.int ∧ ∀ x, x ∈ xs → 0 ≤ x := by
  induction ys with
  | nil => exact ⟨[], rfl, fun _ z => nomatch z⟩
  | cons y ys ih =>
    obtain ⟨z, rfl, hz⟩ := h 0 y rfl
    obtain ⟨xs, rfl, hx⟩ := ih fun i y e => h (i + 1) y (by simpa using e)
    exact ⟨z :: xs, rfl, fun x hm => (List.mem_cons.mp hm).elim (fun e => by rw [e]; exact hz) (hx x)⟩
theorem at_fix {xs : List D} {g : List D} {k : Nat} : (Src.fix xs).at g k = some xs[k]? := rfl
theorem fix_at {xs : List D} {d : D} {g : List D} {k : Nat} (hk : k ≤ xs.length) : (Src.fix xs).at g k = some (if k < xs.length then some (xs.getD k d) else none) := by
  rw [at_fix]
  by_cases h : k < xs.length
  · rw [if_pos h]; simp [h]
  · rw [if_neg h]; simp [h]
theorem persL_ints (ns : List Int) : persL (ns.map D.int) = true := by
  induction ns with
  | nil => rfl
  | cons n ns ih => simp [persL, D.pers, ih]
theorem bag_comp {c : Str → List D → CRes} {ns : List Int} (h : ns.length ≤ 63) : ∃ xs : List Int, (den c (.comp (.blt .abs (.cons (.var 1) .nil)) (.var 1) (.slc (.var 0) (.cst .non) (.cst (.int 63))) .nil [1])).val [scrD ns, .dead] = .ok (.lst true (xs.map D.int), false) [scrD ns, .dead] ∧ ∀ x, x ∈ xs → 0 ≤ x := by
  have hi : ((den c (.slc (.var 0) (.cst .non) (.cst (.int 63)))).itr) [scrD ns, .dead] = .ok (.fix (cutD (ns.map D.int) none (some 63))) [scrD ns, .dead] := by
    simp [den, dSlc, Den.ofVal, itrOf, dVar, varD, mkV, ofO, R.bind, scrD, D.isDead, D.pers, prtD, partI, late, slcD, persL_ints, iterV, iterL]
  obtain ⟨zs, hz⟩ : ∃ zs : List Int, cutD (ns.map D.int) none (some 63) = zs.map D.int := by
    unfold cutD
    exact ⟨_, by rw [← List.map_drop, ← List.map_take]⟩
  have hzl : zs.length ≤ 63 := by
    have : (zs.map D.int).length ≤ ns.length := by
      rw [← hz]; unfold cutD; simp [List.length_take, List.length_drop]; omega
    simp at this; omega
  rw [hz] at hi
  obtain ⟨ys, g', h1, h2, h3, h4⟩ := comp_inv (T := den c (.var 1)) (C := den c .nil) (A := den c (.blt .abs (.cons (.var 1) .nil))) (own := [1]) (src := .fix (zs.map D.int)) (x := fun k => (zs.map D.int).getD k .dead) (n := zs.length)
    (fun _ g => g = [scrD ns, .dead]) (fun _ y => ∃ z : Int, y = D.int z ∧ 0 ≤ z) (fun k g hk p => by have := fix_at (xs := zs.map D.int) (d := .dead) (g := g) (k := k) (by simpa using hk); simpa using this) (fun k g hk p => by
      subst p
      refine ⟨[scrD ns, .int zs[k]], [scrD ns, .int zs[k]], [scrD ns, .int zs[k]], .int (if zs[k] < 0 then -zs[k] else zs[k]), ?_, rfl, ?_, ⟨_, rfl, by split <;> omega⟩, ?_⟩
      · simp [den, dVar, Den.ofVal, hk]
      · simp [den, dBlt, Den.ofVal, dCons, dNil, consL, dVar, varD, mkV, ofO, R.bind, D.isDead, D.pers, late, bltD]
      · simp [wipe]) zs.length 0 [scrD ns, .dead] (by simp) rfl
  subst h2
  obtain ⟨xs, hx, hx2⟩ := ints_of fun i y e => h4 i y e
  refine ⟨xs, ?_, hx2⟩
  show (dComp [1] _ _ _ _).val _ = _
  unfold dComp
  show R.bind _ _ = _
  rw [hi]
  have e0 : ((Src.fix (zs.map D.int)).names.all fun i => !([1] : List Nat).contains i) = true := rfl
  simp only [R.bind, e0, if_true]
  have e1 : wipe [scrD ns, .dead] [1] = [scrD ns, .dead] := rfl
  have e2 : Src.len [scrD ns, .dead] (.fix (zs.map D.int)) = zs.length := by simp [Src.len]
  rw [e1, e2, h1]
  show (if ys.length ≤ sizeLine then _ else _) = _
  rw [if_pos (by rw [h3]; have := sizeLine_eq; omega), hx]
  rfl
theorem bag_ok {c : Str → List D → CRes} {ns : List Int} (h : ns.length ≤ 63) : ∃ bag, dBag.run c [scrD ns] = .ok bag [scrD ns] ∧ Bag bag := by
  obtain ⟨xs, h1, h2⟩ := bag_comp (c := c) h
  refine ⟨bagD 0 1234567891 0 xs, ?_, 0, _, 0, xs, rfl, Int.le_refl _, Int.le_refl _, h2⟩
  have gen : ∀ m : E, isVar m = false → (den c m).val [scrD ns, .dead] = .ok (.lst true (xs.map D.int), false) [scrD ns, .dead] → sden c (.ret (.lstE (.cons (.cst (.int 0)) (.cons (.cst (.int 1234567891)) (.cons (.cst (.int 0)) (.cons m .nil)))))) [scrD ns, .dead] = .rt (bagD 0 1234567891 0 xs) [scrD ns, .dead] := fun m hv hm => by
    simp [sden, den, dLst, dCons, dNil, consL, Den.ofVal, R.bind, R.st, hm, late_own hv, late_cst, mkLst, allOwn, own1, ofO, bagD, sizeLine_eq]
  unfold Def.run
  have e : sden c dBag.body ([scrD ns] ++ List.replicate (dBag.nn - dBag.np) .dead) = .rt (bagD 0 1234567891 0 xs) [scrD ns, .dead] := gen _ rfl h1
  rw [e]
  rfl
theorem comp_val {c : Str → List D → CRes} {elt tg it tst : E} {own : List Nat} {g g0 g' : List D} {src : Src} {ys : List D} (hi : (den c it).itr g = .ok src g0) (hn : (src.names.all fun i => !own.contains i) = true)
    (hg : compGo (den c tg) (den c tst) (den c elt) own src (src.len g0) 0 (wipe g0 own) = .ok ys g') (hl : ys.length ≤ sizeLine) : (den c (.comp elt tg it tst own)).val g = .ok (.lst true ys, false) (rest g0 g' own) := by
  show Bm.R.bind ((den c it).itr g) _ = _
  rw [hi]
  simp only [Bm.R.bind, if_pos hn, hg, Bm.R.noex, if_pos hl]
theorem for_st {c : Str → List D → CRes} {t it : E} {b : S} {g g0 : List D} {src : Src} (hi : (den c it).itr g = .ok src g0) (hn : (src.names.all fun i => !(asgE t ++ asgS b).contains i) = true) :
    sden c (.forS t it b) g = forGo (den c t) (sden c b) src (src.len g0) 0 g0 := by
  show Bm.R.st ((den c it).itr g) _ = _
  rw [hi]
  simp only [Bm.R.st, if_pos hn]
theorem kill_nx {c : Str → List D → CRes} {is : List Nat} {a : S} {g g1 : List D} (h : sden c a g = .nx g1) : sden c (.kill is a) g = .nx (wipe g1 is) := by
  rw [sden, h]
theorem asg_nx {c : Str → List D → CRes} {t e : E} {d : D} {g g1 g2 : List D} (h : (den c e).val g = .ok (d, false) g1) (h2 : (den c t).asg d g1 = .ok () g2) : sden c (.asg t e) g = .nx g2 := by
  show Bm.R.st ((den c e).val g) _ = _
  rw [h]
  show Bm.R.st ((den c t).asg d g1) _ = _
  rw [h2]
  rfl
theorem var_asg {c : Str → List D → CRes} {i : Nat} {d : D} {g : List D} (h : i < g.length) : (den c (.var i)).asg d g = .ok () (g.set i d) := by
  show (if i < g.length then _ else _) = _
  rw [if_pos h]
theorem ret_rt {c : Str → List D → CRes} {e : E} {d : D} {g g1 : List D} (h : (den c e).val g = .ok (d, false) g1) : sden c (.ret e) g = .rt d g1 := by
  show Bm.R.st ((den c e).val g) _ = _
  rw [h]
  rfl
theorem run_rt {c : Str → List D → CRes} {f : Def} {as : List D} {d : D} {g : List D} (hl : as.length = f.np) (h : sden c f.body (as ++ List.replicate (f.nn - f.np) .dead) = .rt d g) : f.run c as = .ok d ((wipe g (asgS f.body)).take f.np) := by
  unfold Def.run
  rw [if_pos hl, h]
theorem enum_at {s : Src} {g : List D} {k n : Nat} {x : D} (h : s.at g k = some (if k < n then some x else none)) : (Src.enum s).at g k = some (if k < n then some (.tup [.int (k : Int), x]) else none) := by
  simp only [Src.at, h, Option.map_some]
  split <;> rfl
theorem blt1 {c : Str → List D → CRes} {b : Blt} {m : E} {g g1 : List D} {v : D} (hv : isVar m = false) (h : (den c m).val g = .ok (v, false) g1) : (den c (.blt b (.cons m .nil))).val g = ofO (bltD b [(v, false)]) g1 := by
  show Bm.R.bind (consL m .nil (den c m) (den c .nil) g) _ = _
  have e : consL m .nil (den c m) (den c .nil) g = .ok [(v, false)] g1 := by
    unfold consL
    rw [h]
    show (match late m .nil (v, false) g1 with
      | some x => Bm.R.ok (x :: []) g1
      | none => .no) = _
    rw [late_own hv]
  rw [e]
  rfl
theorem bin_val {c : Str → List D → CRes} {o : BOp} {a b : E} {g g1 g2 : List D} {x : D} {y : VD} (hv : isVar a = false) (ha : (den c a).val g = .ok (x, false) g1) (hb : (den c b).val g1 = .ok y g2) : (den c (.bin o a b)).val g = ofO (binD o (x, false) y) g2 := by
  show Bm.R.bind (two a b (den c a) (den c b) g) _ = _
  unfold two
  rw [ha]
  simp only [Bm.R.bind, hb, late_own hv, Option.map, ofO]
theorem mul_lst {m l l' : Bool} {xs : List D} {k : Nat} (h : (k : Int) < 2 ^ 63) (hs : xs.length * k ≤ sizeLine) (hp : persL xs = true) : binD .mul (.nd (.lst m) xs, l) (.int (k : Int), l') = some (.lst true (List.replicate k xs).flatten, false) := by
  simp only [binD]
  rw [if_pos ⟨by omega, h, by rw [Int.toNat_natCast]; exact hs, hp⟩, Int.toNat_natCast]
theorem repl_one {α : Type} (x : α) (k : Nat) : (List.replicate k [x]).flatten = List.replicate k x := by
  induction k with
  | zero => rfl
  | succ k ih => simp [List.replicate_succ, ih]
end Bm

set_option maxHeartbeats 4000000
/-! B31: data that are equal and print alike. -/
namespace Bm
open PySem
/-- data of ints below 10^60: shown in few signs; dp deep, bk big -/
structure Fine (dp bk : Nat) (d : D) : Prop where
  isp : d.isP = true
  lay : d.toP.canLay0 = true
  depth : d.toP.depth ≤ dp
  show_ : d.toP.showable = true
  short : d.toP.leavesShort 64 = true
  bulk : d.toP.bulk ≤ bk
theorem Fine.mono {a b a' b' : Nat} {d : D} (h : Fine a b d) (ha : a ≤ a') (hb : b ≤ b') : Fine a' b' d := ⟨h.isp, h.lay, Nat.le_trans h.depth ha, h.show_, h.short, Nat.le_trans h.bulk hb⟩
theorem Fine.shaped {a b : Nat} {d : D} (h : Fine a b d) (ha : a ≤ 64) : SeqAt.shaped d.toP = true := by
  unfold SeqAt.shaped
  rw [h.lay]
  simpa using Nat.le_trans h.depth ha
theorem Fine.len {a b : Nat} {d : D} (h : Fine a b d) (hb : b ≤ 100000) : d.toP.shown.length ≤ sizeLine := by
  have := PyData.shown_le_bulk 64 (by omega) d.toP h.short
  have := h.bulk
  rw [sizeLine_eq]
  omega
theorem int_short {i : Int} (h : i.natAbs < 10 ^ 60) : PyData.leavesShort 64 (.int i) = true := by
  have e := int_text_length_le10 (a := i) (k := 60) (by omega) h
  have : (Str.ofString (toString i)).length ≤ 64 := by
    rw [ofString_length]
    omega
  exact decide_eq_true this
theorem fine_int {i : Int} (h : i.natAbs < 10 ^ 60) : Fine 1 0 (.int i) := by
  refine ⟨rfl, rfl, ?_, ?_, int_short h, Nat.le_refl _⟩
  · simp [D.toP, PyData.depth]
  · refine decide_eq_true ?_
    have h2 : i.natAbs < 2 ^ 200 := Nat.lt_of_lt_of_le h (by decide +kernel)
    by_cases h0 : i.natAbs = 0
    · rw [h0]; decide
    · exact Nat.lt_trans ((Nat.log2_lt h0).mpr h2) (by decide)
theorem fine_all {a b : Nat} : ∀ {xs : List D}, (∀ x, x ∈ xs → Fine a b x) → isPL xs = true ∧ PyData.canLayAll0 (toPL xs) = true ∧ PyData.depthAll (toPL xs) ≤ a ∧ PyData.showableAll (toPL xs) = true ∧ PyData.leavesShortAll 64 (toPL xs) = true ∧ PyData.bulkAll (toPL xs) ≤ (b + 1) * xs.length
  | [], _ => ⟨rfl, rfl, Nat.zero_le _, rfl, rfl, Nat.zero_le _⟩
  | x :: xs, h => by
    obtain ⟨h1, h2, h3, h4, h5, h6⟩ := fine_all (xs := xs) fun y hy => h y (by simp [hy])
    have f := h x (by simp)
    refine ⟨by simp [isPL, f.isp, h1], by simp [toPL, PyData.canLayAll0, f.lay, h2], ?_, by simp [toPL, PyData.showableAll, f.show_, h4], by simp [toPL, PyData.leavesShortAll, f.short, h5], ?_⟩
    · have := f.depth
      simp only [toPL, PyData.depthAll]
      omega
    · have := f.bulk
      simp only [toPL, PyData.bulkAll, List.length_cons]
      rw [Nat.mul_succ]
      omega
theorem fine_lst {a b : Nat} {m : Bool} {xs : List D} (h : ∀ x, x ∈ xs → Fine a b x) : Fine (a + 1) ((b + 1) * xs.length) (.lst m xs) := by
  obtain ⟨h1, h2, h3, h4, h5, h6⟩ := fine_all h
  refine ⟨h1, h2, ?_, h4, h5, h6⟩
  simp only [D.toP, PyData.depth]
  omega
theorem fine_tup {a b : Nat} {xs : List D} (h : ∀ x, x ∈ xs → Fine a b x) : Fine (a + 1) ((b + 1) * xs.length) (.tup xs) := by
  obtain ⟨h1, h2, h3, h4, h5, h6⟩ := fine_all h
  refine ⟨h1, h2, ?_, h4, h5, h6⟩
  simp only [D.toP, PyData.depth]
  omega
theorem fine_ints {m : Bool} {xs : List Int} (h : ∀ x, x ∈ xs → x.natAbs < 10 ^ 60) : Fine 2 xs.length (.lst m (xs.map D.int)) := by
  have := fine_lst (m := m) (xs := xs.map D.int) (a := 1) (b := 0) fun x hx => by
    obtain ⟨i, hi, rfl⟩ := List.mem_map.mp hx
    exact fine_int (h i hi)
  simpa using this
/-- the laws' own: equal, and print alike -/
def dAlike : Def := ⟨2, 2, (.ret (.andE (.cmp .eq (.var 0) (.var 1)) (.cmp .eq (.blt .repr (.cons (.var 0) .nil)) (.blt .repr (.cons (.var 1) .nil)))))⟩
theorem eqD_same {a b a' b' : Nat} {k k' : Kd} {xs ys : List D} (hx : Fine a b (.nd k xs)) (hy : Fine a' b' (.nd k' ys)) (ha : a ≤ 64) (ha' : a' ≤ 64) (e : (D.nd k xs).toP = (D.nd k' ys).toP) : eqD (.nd k xs) (.nd k' ys) = some true := by
  simp only [eqD]
  rw [if_pos ⟨hx.isp, hy.isp, hx.shaped ha, hy.shaped ha'⟩, e, SeqAt.eqv_refl _ hy.lay]
theorem alike_ok {c : Str → List D → CRes} {a b a' b' : Nat} {k k' : Kd} {xs ys : List D} (hx : Fine a b (.nd k xs)) (hy : Fine a' b' (.nd k' ys)) (ha : a ≤ 64) (ha' : a' ≤ 64) (hb : b ≤ 100000) (hb' : b' ≤ 100000) (e : (D.nd k xs).toP = (D.nd k' ys).toP) :
    dAlike.run c [.nd k xs, .nd k' ys] = .ok (.bl true) [.nd k xs, .nd k' ys] := by
  have h1 : (den c (.cmp .eq (.var 0) (.var 1))).val [.nd k xs, .nd k' ys] = .ok (.bl true, false) [.nd k xs, .nd k' ys] := by
    simp [den, Den.ofB, cmpV, two, dVar, Den.ofVal, varD, mkV, ofO, R.bind, D.isDead, late_var, cmpD, eqD_same hx hy ha ha' e]
  have rp : ∀ {a b : Nat} {k : Kd} {xs : List D}, Fine a b (.nd k xs) → a ≤ 64 → b ≤ 100000 → ∀ l, bltD .repr [(.nd k xs, l)] = some (.str (D.nd k xs).toP.shown, false) := fun {a b k xs} h ha hb l => by
    simp only [bltD]
    rw [if_pos ⟨h.isp, h.show_, Nat.le_trans h.depth ha, h.len hb⟩]
  have h2 : (den c (.cmp .eq (.blt .repr (.cons (.var 0) .nil)) (.blt .repr (.cons (.var 1) .nil)))).val [.nd k xs, .nd k' ys] = .ok (.bl true, false) [.nd k xs, .nd k' ys] := by
    have r1 := rp hx ha hb
    have r2 := rp hy ha' hb'
    simp [den, Den.ofB, cmpV, two, dBlt, dCons, dNil, consL, dVar, Den.ofVal, varD, mkV, ofO, R.bind, D.isDead, late_var, late_blt, cmpD, eqD, r1, r2, e]
  have body : sden c dAlike.body ([.nd k xs, .nd k' ys] ++ List.replicate (dAlike.nn - dAlike.np) .dead) = .rt (.bl true) [.nd k xs, .nd k' ys] := by
    refine ret_rt ?_
    show andV _ _ _ = _
    unfold andV
    show Bm.R.bind ((den c (.cmp .eq (.var 0) (.var 1))).val [.nd k xs, .nd k' ys]) _ = _
    rw [h1]
    exact h2
  rw [run_rt rfl body]
  rfl
end Bm

set_option maxHeartbeats 4000000
/-! B32: draws as calls. -/
namespace Bm
open PySem
/-- the oracle draws -/
def Draws (c : Str → List D → CRes) : Prop := ∀ bag many, Bag bag → 0 < many → many < 2 ^ 200 → ∃ v bag', c "_law_take" [bag, .int many] = .ok (.int v) [bag', .int many] ∧ Bag bag' ∧ 0 ≤ v ∧ v < many
theorem bind_bind' {α β γ : Type} (r : R α) (f : α → List D → R β) (k : β → List D → R γ) : (r.bind f).bind k = r.bind fun a g => (f a g).bind k := by cases r <;> rfl
theorem one_eq' {c : Str → List D → CRes} {m : E} (h : isVar m = false) : (den c m).one = oneOf (den c m).val := by
  have ob : ∀ (f : List D → R Bool), (Den.ofB f).one = oneOf (Den.ofB f).val := fun f => by
    funext g
    show (f g).bind _ = Bm.R.bind (Bm.R.bind (f g) _) _
    cases f g <;> rfl
  cases m <;> first | (cases h; done) | exact ob _ | (funext g; first | rfl | (show Bm.R.bind _ _ = Bm.R.bind (Bm.R.bind _ _) _; rw [bind_bind']; rfl))
theorem one_val {c : Str → List D → CRes} {m : E} {g g1 : List D} {d : D} (hv : isVar m = false) (h : (den c m).val g = .ok (d, false) g1) : (den c m).one g = .ok (.v d) g1 := by
  have e := one_eq' (c := c) hv
  rw [e]
  show Bm.R.bind ((den c m).val g) _ = _
  rw [h]
  rfl
/-- f(name, value) where the name lends what it owns -/
theorem call_rv {c : Str → List D → CRes} {f : Str} {i : Nat} {m : E} {g : List D} {b b' d v : D} {vs : D} (hi : g[i]? = some b) (nd : b.isDead = false) (np : b.pers = false) (hv : isVar m = false) (hm : (den c m).val g = .ok (d, false) g) (hc : c f [b, d] = .ok v [b', vs]) :
    (den c (.call f (.cons (.var i) (.cons m .nil)))).val g = .ok (v, false) (g.set i b') := by
  have h1 : (den c (.cons (.var i) (.cons m .nil))).arg g = .ok [.r i, .v d] g := by
    show Bm.R.bind (Bm.R.bind (varD i g) fun _ g => .ok (Arg.r i) g) _ = _
    unfold varD
    rw [hi]
    simp only [mkV, nd, Bool.false_eq_true, if_false, ofO, Bm.R.bind]
    show Bm.R.bind (Bm.R.bind ((den c m).one g) _) _ = _
    rw [one_val hv hm]
    rfl
  show Bm.R.bind ((den c (.cons (.var i) (.cons m .nil))).arg g) _ = _
  rw [h1]
  simp only [Bm.R.bind, callD, takeA, hi, nd, np, Bool.false_eq_true, if_false, Option.map, hc, backA]
  congr 1
  rw [List.set_set]
theorem draw_call {c : Str → List D → CRes} (hc : Draws c) {i : Nat} {m : E} {g : List D} {bag : D} {many : Int} (hi : g[i]? = some bag) (hb : Bag bag) (hv : isVar m = false) (hm : (den c m).val g = .ok (.int many, false) g) (h1 : 0 < many) (h2 : many < 2 ^ 200) :
    ∃ v bag', (den c (.call "_law_take" (.cons (.var i) (.cons m .nil)))).val g = .ok (.int v, false) (g.set i bag') ∧ Bag bag' ∧ 0 ≤ v ∧ v < many := by
  obtain ⟨v, bag', e, hb', h3, h4⟩ := hc bag many hb h1 h2
  exact ⟨v, bag', call_rv hi hb.not_pers.2 hb.not_pers.1 hv hm e, hb', h3, h4⟩
theorem idx_val {c : Str → List D → CRes} {a j : E} {g g1 g2 : List D} {x : D} {y : VD} (hv : isVar a = false) (ha : (den c a).val g = .ok (x, false) g1) (hb : (den c j).val g1 = .ok y g2) : (den c (.idx a j)).val g = ofO (idxD (x, false) y.1) g2 := by
  show Bm.R.bind (two a j (den c a) (den c j) g) _ = _
  unfold two
  rw [ha]
  simp only [Bm.R.bind, hb, late_own hv, Option.map, ofO]
theorem lst1_val {c : Str → List D → CRes} {m : E} {g g1 : List D} {v : D} (hv : isVar m = false) (h : (den c m).val g = .ok (v, false) g1) : (den c (.cons m .nil)).lst g = .ok [(v, false)] g1 := by
  show consL m .nil (den c m) (den c .nil) g = _
  unfold consL
  rw [h]
  show (match late m .nil (v, false) g1 with
    | some x => Bm.R.ok (x :: []) g1
    | none => .no) = _
  rw [late_own hv]
theorem range1_itr {c : Str → List D → CRes} {m : E} {g g1 : List D} {j : Int} (hv : isVar m = false) (h : (den c m).val g = .ok (.int j, false) g1) (hj : smallI j = true) : (den c (.blt .range (.cons m .nil))).itr g = .ok (.fix (rangeD 0 j.toNat)) g1 := by
  show Bm.R.bind ((den c (.cons m .nil)).lst g) _ = _
  rw [lst1_val hv h]
  simp only [Bm.R.bind, rangeS, if_pos hj, ofO]
theorem arg_r {c : Str → List D → CRes} {i : Nat} {b : D} {g : List D} (hi : g[i]? = some b) (nd : b.isDead = false) : (den c (.var i)).one g = .ok (.r i) g := by
  show Bm.R.bind (varD i g) _ = _
  unfold varD
  rw [hi]
  simp only [mkV, nd, Bool.false_eq_true, if_false, ofO, Bm.R.bind]
theorem args_cons {c : Str → List D → CRes} {m es : E} {g g1 g2 : List D} {a : Arg} {as : List Arg} (h : (den c m).one g = .ok a g1) (h2 : (den c es).arg g1 = .ok as g2) : (den c (.cons m es)).arg g = .ok (a :: as) g2 := by
  show Bm.R.bind ((den c m).one g) _ = _
  rw [h]
  show Bm.R.bind ((den c es).arg g1) _ = _
  rw [h2]
  rfl
theorem call_val {c : Str → List D → CRes} {f : Str} {es : E} {g g1 g2 g3 : List D} {as : List Arg} {ds ds' : List D} {v : D} (h : (den c es).arg g = .ok as g1) (ht : takeA as g1 = some (ds, g2)) (hc : c f ds = .ok v ds') (hb : backA as ds ds' g2 = some g3) : (den c (.call f es)).val g = .ok (v, false) g3 := by
  show Bm.R.bind ((den c es).arg g) _ = _
  rw [h]
  simp only [Bm.R.bind, callD, ht, hc, hb]
end Bm

set_option maxHeartbeats 4000000
/-! B36: what each form does, one equation for each. -/
namespace Bm
open PySem
section
variable {c : Str → List D → CRes} {g : List D} {a b e t j lo hi es : E} {o o' : BOp} {q q' : COp} {i : Nat}
theorem v_cst {k : At} : (den c (.cst k)).val g = .ok (.at k, false) g := rfl
theorem v_glb {x : Str} {k : At} : (den c (.glb x k)).val g = .ok (.at k, false) g := rfl
theorem v_var : (den c (.var i)).val g = varD i g := rfl
theorem v_mv : (den c (.mv i)).val g = mvD i g := rfl
theorem v_bin : (den c (.bin o a b)).val g = ((den c a).val g).bind fun x g => ((den c b).val g).bind fun y g => (ofO ((late a b x g).map fun x => (x, y)) g).bind fun p g => ofO (binD o p.1 p.2) g := by
  show Bm.R.bind (two a b (den c a) (den c b) g) _ = _
  unfold two
  rw [bind_bind']
  congr 1; funext x g
  rw [bind_bind']
theorem t_cmp : (den c (.cmp q a b)).tst g = ((den c a).val g).bind fun x g => ((den c b).val g).bind fun y g => (ofO ((late a b x g).map fun x => (x, y)) g).bind fun p g => ofO (cmpD q p.1.1 p.2.1) g := by
  show Bm.R.bind (two a b (den c a) (den c b) g) _ = _
  unfold two
  rw [bind_bind']
  congr 1; funext x g
  rw [bind_bind']
theorem v_cmp : (den c (.cmp q a b)).val g = ((den c (.cmp q a b)).tst g).bind fun x g => .ok (.bl x, false) g := rfl
theorem t_cmp2 : (den c (.cmp2 q q' a b e)).tst g = (two a b (den c a) (den c b) g).bind fun p g => match cmpD q p.1.1 p.2.1 with
    | none => .no
    | some false => .ok false g
    | some true => ((den c e).val g).bind fun z g => match late b e p.2 g with
      | some y => ofO (cmpD q' y.1 z.1) g
      | none => .no := rfl
theorem v_cmp2 : (den c (.cmp2 q q' a b e)).val g = ((den c (.cmp2 q q' a b e)).tst g).bind fun x g => .ok (.bl x, false) g := rfl
theorem v_neg : (den c (.neg a)).val g = ((den c a).val g).bind fun x g => match x.1 with
    | .at (.int i) => .ok (.int (-i), false) g
    | _ => .no := rfl
theorem v_not : (den c (.notE a)).val g = ((den c a).val g).bind fun x g => match x.1 with
    | .at (.bl b) => .ok (.bl (!b), false) g
    | _ => .no := rfl
theorem t_not : (den c (.notE a)).tst g = ((den c a).tst g).bind fun x g => .ok (!x) g := rfl
theorem v_and : (den c (.andE a b)).val g = ((den c a).val g).bind fun x g => match x.1 with
    | .at (.bl y) => if y = true then (den c b).val g else .ok (.bl false, false) g
    | _ => .no := rfl
theorem v_or : (den c (.orE a b)).val g = ((den c a).val g).bind fun x g => match x.1 with
    | .at (.bl y) => if y = true then .ok (.bl true, false) g else (den c b).val g
    | _ => .no := rfl
theorem t_and : (den c (.andE a b)).tst g = ((den c a).tst g).bind fun x g => if x = true then (den c b).tst g else .ok false g := rfl
theorem t_or : (den c (.orE a b)).tst g = ((den c a).tst g).bind fun x g => if x = true then .ok true g else (den c b).tst g := rfl
theorem v_ife : (den c (.ife t a b)).val g = ((den c t).tst g).bind fun x g => if x = true then (den c a).val g else (den c b).val g := rfl
theorem l_nil : (den c .nil).lst g = .ok [] g := rfl
theorem l_cons : (den c (.cons a b)).lst g = ((den c a).val g).bind fun x g => ((den c b).lst g).bind fun ys g => match late a b x g with
    | some x => .ok (x :: ys) g
    | none => .no := rfl
theorem v_tup : (den c (.tupE es)).val g = ((den c es).lst g).bind fun xs g => ofO (mkTup xs) g := rfl
theorem v_lst : (den c (.lstE es)).val g = ((den c es).lst g).bind fun xs g => ofO (mkLst xs) g := rfl
theorem v_idx : (den c (.idx a j)).val g = ((den c a).val g).bind fun x g => ((den c j).val g).bind fun y g => (ofO ((late a j x g).map fun x => (x, y)) g).bind fun p g => ofO (idxD p.1 p.2.1) g := by
  show Bm.R.bind (two a j (den c a) (den c j) g) _ = _
  unfold two
  rw [bind_bind']
  congr 1; funext x g
  rw [bind_bind']
theorem v_slc : (den c (.slc a lo hi)).val g = ((den c a).val g).bind fun x g => (prtD lo (den c lo) g).bind fun l g => (prtD hi (den c hi) g).bind fun h g => match late a (.cons lo hi) x g with
    | some x => ofO (slcD x l h) g
    | none => .no := rfl
theorem p_part : prtD a (den c a) g = ((den c a).val g).bind fun x g => ofO (partI a x.1) g := rfl
theorem v_lrg : (den c (.lrg a)).val g = ((den c a).val g).bind fun x g => match x.1 with
  | .at (.int n) => if 0 ≤ n ∧ n ≤ 1000000 then .ok (.lst true (rangeD 0 n.toNat), false) g else .no
  | _ => .no := rfl
theorem v_idxOf : (den c (.idxOf a e)).val g = ((den c a).val g).bind fun x g => if isLstD x.1 = true then ((den c e).val g).bind fun y g => ofO ((late a e x g).bind fun x => idxOfD x.1 y.1) g else .no := rfl
theorem v_rev : (den c (.rev a)).val g = ((den c a).val g).bind fun x g => ofO (revD x) g := rfl
theorem v_blt {f : Blt} : (den c (.blt f es)).val g = ((den c es).lst g).bind fun xs g => ofO (bltD f xs) g := rfl
theorem v_frz : (den c (.frz a)).val g = ((den c a).val g).bind fun x g => if x.2 = false then .ok (x.1.frz, false) g else .no := rfl
theorem v_call {f : Str} : (den c (.call f es)).val g = ((den c es).arg g).bind fun as g => callD c f as g := rfl
theorem a_nil : (den c .nil).arg g = .ok [] g := rfl
theorem a_cons : (den c (.cons a b)).arg g = ((den c a).one g).bind fun x g => ((den c b).arg g).bind fun ys g => .ok (x :: ys) g := rfl
theorem o_var : (den c (.var i)).one g = (varD i g).bind fun _ g => .ok (.r i) g := rfl
theorem o_val (h : isVar a = false) : (den c a).one g = ((den c a).val g).bind fun x g => if x.2 = false then .ok (.v x.1) g else .no := by rw [one_eq' h]; rfl
theorem t_nil : (den c .nil).tst g = .ok true g := rfl
theorem t_var : (den c (.var i)).tst g = ((den c (.var i)).val g).bind fun x g => ofO (truD x.1) g := rfl
theorem t_blt {f : Blt} : (den c (.blt f es)).tst g = ((den c (.blt f es)).val g).bind fun x g => ofO (truD x.1) g := rfl
theorem t_call {f : Str} : (den c (.call f es)).tst g = ((den c (.call f es)).val g).bind fun x g => ofO (truD x.1) g := rfl
theorem t_idx : (den c (.idx a j)).tst g = ((den c (.idx a j)).val g).bind fun x g => ofO (truD x.1) g := rfl
theorem t_cst {k : At} : (den c (.cst k)).tst g = .ok (match k with
    | .non => false
    | .bl b => b
    | .int i => i != 0
    | .str _ => false) g ∨ True := .inr trivial
theorem p_var : (den c (.var i)).plc g = (varD i g).bind fun _ g => .ok (i, []) g := rfl
theorem p_idx : (den c (.idx a j)).plc g = plcIdx a j (den c a) (den c j) g := rfl
theorem s_var {d : D} : (den c (.var i)).asg d g = if i < g.length then .ok () (g.set i d) else .no := rfl
theorem s_tup {d : D} : (den c (.tupE es)).asg d g = asgTup es (den c es) d g := rfl
theorem s_cons {d : D} : (den c (.cons a b)).asg d g = asgCons (den c a) (den c b) d g := rfl
theorem s_nil {d : D} : (den c .nil).asg d g = asgNil d g := rfl
theorem s_idx {d : D} : (den c (.idx a j)).asg d g = asgIdx a j (den c a) (den c j) d g := rfl
theorem i_var : (den c (.var i)).itr g = if isLive g i = true then .ok (.live i) g else ((den c (.var i)).val g).bind fun x g => ofO ((iterV x).map .fix) g := rfl
theorem i_range : (den c (.blt .range es)).itr g = ((den c es).lst g).bind fun xs g => ofO (rangeS xs) g := rfl
theorem i_enum : (den c (.blt .enumerate (.cons a .nil))).itr g = ((den c a).lsr g).bind fun s g => .ok (.enum s) g := rfl
theorem i_zip : (den c (.blt .zip (.cons a (.cons b .nil)))).itr g = (((den c a).lsr g).bind fun s g => ((den c b).lsr g).bind fun t g => if (s.at g 0).isSome = true then .ok (s, t) g else .no).bind fun p g => .ok (.zip p.1 p.2) g := rfl
theorem i_idx : (den c (.idx a j)).itr g = ((den c (.idx a j)).val g).bind fun x g => ofO ((iterV x).map .fix) g := rfl
theorem i_lst : (den c (.lstE es)).itr g = ((den c (.lstE es)).val g).bind fun x g => ofO ((iterV x).map .fix) g := rfl
theorem i_tup : (den c (.tupE es)).itr g = ((den c (.tupE es)).val g).bind fun x g => ofO ((iterV x).map .fix) g := rfl
theorem i_call {f : Str} : (den c (.call f es)).itr g = ((den c (.call f es)).val g).bind fun x g => ofO ((iterV x).map .fix) g := rfl
theorem i_slc : (den c (.slc a lo hi)).itr g = ((den c (.slc a lo hi)).val g).bind fun x g => ofO ((iterV x).map .fix) g := rfl
theorem r_var : (den c (.var i)).lsr g = if isLive g i = true then .ok (.live i) g else ((den c (.var i)).val g).bind fun x g => ofO ((iterL x).map .fix) g := rfl
theorem r_idx : (den c (.idx a j)).lsr g = ((den c (.idx a j)).val g).bind fun x g => ofO ((iterL x).map .fix) g := rfl
theorem r_slc : (den c (.slc a lo hi)).lsr g = ((den c (.slc a lo hi)).val g).bind fun x g => ofO ((iterL x).map .fix) g := rfl
theorem r_call {f : Str} : (den c (.call f es)).lsr g = ((den c (.call f es)).val g).bind fun x g => ofO ((iterL x).map .fix) g := rfl
/-! statements -/
variable {A B : S}
theorem w_skip : sden c .skip g = .nx g := rfl
theorem w_seq : sden c (.seq A B) g = (sden c A g).bind (sden c B) := rfl
theorem w_expr : sden c (.expr e) g = ((den c e).val g).st fun _ g => .nx g := rfl
theorem w_asg : sden c (.asg t e) g = ((den c e).val g).st fun x g => own1 x g fun d g => ((den c t).asg d g).st fun _ g => .nx g := rfl
theorem w_par {is : List Nat} : sden c (.par is es) g = ((den c es).lst g).st fun xs g => (match allOwn xs with
    | some ds => if ds.length = is.length ∧ (is.all fun i => decide (i < g.length)) = true then .nx (setAll g is ds) else .no
    | none => .no) := rfl
theorem w_ret : sden c (.ret e) g = ((den c e).val g).st fun x g => own1 x g fun d g => .rt d g := rfl
theorem w_if : sden c (.ifS t A B) g = ((den c t).tst g).st fun x g => if x = true then sden c A g else sden c B g := rfl
theorem w_kill {is : List Nat} : sden c (.kill is A) g = match sden c A g with
    | .nx g => .nx (wipe g is)
    | .ct g => .ct (wipe g is)
    | r => r := rfl
theorem w_peek : sden c (.peek i A) g = match g[i]? with
    | some t => (sden c A (g.set i t.frz)).back (unpeek (g.set i t.frz) (asgS A) i t)
    | none => .no := rfl
theorem rb_ok {α β : Type} {x : α} {f : α → List D → R β} : Bm.R.bind (.ok x g) f = f x g := rfl
theorem rs_ok {α : Type} {x : α} {f : α → List D → RS} : Bm.R.st (.ok x g) f = f x g := rfl
theorem sb_nx {f : List D → RS} : Bm.RS.bind (.nx g) f = f g := rfl
theorem sb_rt {d : D} {f : List D → RS} : Bm.RS.bind (.rt d g) f = .rt d g := rfl
theorem o_some {α : Type} {x : α} : ofO (some x) g = .ok x g := rfl
end
section
variable {i j : Int} {l l' : Bool} {x y : Str} {xs ys : List D} {m m' : Bool} {a b : D}
theorem b_add : binD .add (.at (.int i), l) (.at (.int j), l') = some (.int (i + j), false) := rfl
theorem b_sub : binD .sub (.at (.int i), l) (.at (.int j), l') = some (.int (i - j), false) := rfl
theorem b_mod (h : 0 < j) : binD .mod (.at (.int i), l) (.at (.int j), l') = some (.int (i % j), false) := by
  simp only [binD]
  rw [if_pos h]
theorem b_fdiv (h : 0 < j) (h2 : j < 2 ^ 200) : binD .fdiv (.at (.int i), l) (.at (.int j), l') = some (.int (i / j), false) := by
  simp only [binD]
  rw [if_pos ⟨h, h2⟩]
theorem b_mul (h : mulOk i j = true) : binD .mul (.at (.int i), l) (.at (.int j), l') = some (.int (i * j), false) := by
  simp only [binD]
  rw [if_pos h]
theorem b_cat (h : xs.length + ys.length ≤ sizeLine) (h1 : persL xs = true) (h2 : persL ys = true) : binD .add (.nd (.lst m) xs, l) (.nd (.lst m') ys, l') = some (.lst true (xs ++ ys), false) := by
  simp only [binD]
  rw [if_pos (show _ ∧ shares l xs = true ∧ shares l' ys = true from ⟨h, h1, h2⟩)]
theorem c_lt : cmpD .lt (.at (.int i)) (.at (.int j)) = some (decide (i < j)) := rfl
theorem c_le : cmpD .le (.at (.int i)) (.at (.int j)) = some (decide (i ≤ j)) := rfl
theorem c_gt : cmpD .gt (.at (.int i)) (.at (.int j)) = some (decide (j < i)) := rfl
theorem c_ge : cmpD .ge (.at (.int i)) (.at (.int j)) = some (decide (j ≤ i)) := rfl
theorem c_eq : cmpD .eq a b = eqD a b := rfl
theorem c_ne : cmpD .ne a b = (eqD a b).map (!·) := rfl
theorem e_int : eqD (.at (.int i)) (.at (.int j)) = some (i == j) := rfl
theorem e_str : eqD (.at (.str x)) (.at (.str y)) = some (x == y) := rfl
theorem f_len : bltD .len [(.nd (.lst m) xs, l)] = some (.int (xs.length : Int), false) := rfl
theorem f_lenT : bltD .len [(.nd .tup xs, l)] = some (.int (xs.length : Int), false) := rfl
theorem f_min2 : bltD .min [(.at (.int i), l), (.at (.int j), l')] = some (.int (if j < i then j else i), false) := rfl
theorem f_max2 : bltD .max [(.at (.int i), l), (.at (.int j), l')] = some (.int (if j > i then j else i), false) := rfl
theorem f_intB {b : Bool} : bltD .int [(.at (.bl b), l)] = some (.int (if b then 1 else 0), false) := rfl
theorem f_intI : bltD .int [(.at (.int i), l)] = some (.int i, false) := rfl
theorem f_list (h : persL xs = true) : bltD .list [(.nd (.lst m) xs, l)] = some (.lst true xs, false) := by
  simp only [bltD]
  rw [if_pos (show shares l xs = true from h)]
theorem f_listT (h : persL xs = true) : bltD .list [(.nd .tup xs, l)] = some (.lst true xs, false) := by
  simp only [bltD]
  rw [if_pos (show shares l xs = true from h)]
theorem x_lst {z : VD} {j : Int} (h : L2.atI xs j = some a) (hd : mkV a l = some z) : idxD (.nd (.lst m) xs, l) (.at (.int j)) = some z := by
  simp only [idxD, h, hd]
theorem x_tup {z : VD} {j : Int} (h : L2.atI xs j = some a) (hd : mkV a l = some z) : idxD (.nd .tup xs, l) (.at (.int j)) = some z := by
  simp only [idxD, h, hd]
end
end Bm

set_option maxHeartbeats 4000000
/-! B37: lists by their items' numbers; loops and comprehensions whose turns are known. -/
namespace Bm
open PySem
def rg (n : Nat) (f : Nat → D) : List D := (List.range n).map f
section
variable {n k : Nat} {f f' : Nat → D} {g : List D}
theorem rg_len : (rg n f).length = n := by simp [rg]
theorem rg_get (h : k < n) : (rg n f)[k]? = some (f k) := by simp [rg, h]
theorem rg_out (h : n ≤ k) : (rg n f)[k]? = none := by simp [rg, h]
theorem rg_zero : rg 0 f = [] := rfl
theorem rg_snoc : rg n f ++ [f n] = rg (n + 1) f := by simp [rg, List.range_succ]
theorem rg_congr (h : ∀ k, k < n → f k = f' k) : rg n f = rg n f' := List.map_congr_left fun k hk => h k (List.mem_range.mp hk)
theorem rg_map {h : D → D} : (rg n f).map h = rg n fun k => h (f k) := by simp [rg]
theorem rg_mem {x : D} (h : x ∈ rg n f) : ∃ k, k < n ∧ f k = x := by
  obtain ⟨k, hk, e⟩ := List.mem_map.mp h
  exact ⟨k, List.mem_range.mp hk, e⟩
theorem persL_rg (h : ∀ k, k < n → (f k).pers = true) : persL (rg n f) = true := by
  rw [persL_eq]
  exact List.all_eq_true.mpr fun x hx => by
    obtain ⟨k, hk, rfl⟩ := rg_mem hx
    exact h k hk
theorem cleanL_all : ∀ {xs : List D}, (∀ x, x ∈ xs → x.clean = true) → cleanL xs = true
  | [], _ => rfl
  | x :: xs, h => by
    simp only [cleanL, Bool.and_eq_true]
    exact ⟨h x (by simp), cleanL_all fun y hy => h y (by simp [hy])⟩
theorem cleanL_rg (h : ∀ k, k < n → (f k).clean = true) : cleanL (rg n f) = true := cleanL_all fun x hx => by
  obtain ⟨k, hk, rfl⟩ := rg_mem hx
  exact h k hk
theorem frzL_rg : frzL (rg n f) = rg n fun k => (f k).frz := by rw [frzL_eq, rg_map]
theorem toPL_rg : toPL (rg n f) = (List.range n).map fun k => (f k).toP := by rw [toPL_eq]; simp [rg]
theorem atI_rg (h : k < n) : L2.atI (rg n f) (k : Int) = some (f k) := by
  have : (k : Int) < (n : Int) := by omega
  simp [L2.atI, L2.ixN, rg_len, this, rg_get h]
theorem atI_rgI {j : Int} (h0 : 0 ≤ j) (h : j < n) : L2.atI (rg n f) j = some (f j.toNat) := by
  obtain ⟨k, rfl⟩ := Int.eq_ofNat_of_zero_le h0
  rw [Int.toNat_natCast]
  exact atI_rg (by omega)
theorem rangeD_rg {lo : Int} : rangeD lo n = rg n fun i => .int (lo + (i : Int)) := rfl
theorem rg_set {j : Nat} {y : D} : (rg n f).set j y = rg n fun i => if i = j then y else f i := by
  apply List.ext_getElem?
  intro i
  by_cases hi : i < n
  · rw [rg_get hi]
    by_cases h : j = i
    · subst h
      rw [List.getElem?_set_self (by rw [rg_len]; exact hi), if_pos rfl]
    · rw [List.getElem?_set_ne h, rg_get hi, if_neg (Ne.symm h)]
  · rw [rg_out (by omega), List.getElem?_eq_none (by rw [List.length_set, rg_len]; omega)]
theorem fix_rg (hk : k ≤ n) : (Src.fix (rg n f)).at g k = some (if k < n then some (f k) else none) := by
  rw [at_fix]
  by_cases h : k < n
  · rw [if_pos h, rg_get h]
  · rw [if_neg h, rg_out (by omega)]
theorem live_rg {i : Nat} (h : g[i]? = some (.lst true (rg n f))) (hp : ∀ k, k < n → (f k).pers = true) (hk : k ≤ n) : (Src.live i).at g k = some (if k < n then some (f k) else none) := by
  simp only [Src.at, h]
  by_cases hl : k < n
  · rw [if_pos hl, rg_get hl]
    simp [hp k hl]
  · rw [if_neg hl, rg_out (by omega)]
theorem len_fix : Src.len g (.fix (rg n f)) = n := by simp [Src.len, rg_len]
end
section
variable {c : Str → List D → CRes} {elt tg it t : E} {own : List Nat} {g g0 : List D} {src : Src} {n : Nat} {b : S}
theorem range'_all {α : Type} (n : Nat) (y : Nat → α) : ((List.range' 0 n).filter fun _ => true).map y = (List.range n).map y := by
  have : (List.range' 0 n).filter (fun _ => true) = List.range' 0 n := List.filter_eq_self.mpr fun _ _ => rfl
  rw [this, ← List.range_eq_range']
/-- [elt for tg in it], the names as they stand behind each turn -/
theorem comp_map (x y : Nat → D) (gw : List D) (hi : (den c it).itr g = .ok src g0) (hn : (src.names.all fun i => !own.contains i) = true) (hl : src.len g0 = n) (hw : wipe g0 own = gw) (hs : ∀ k, k ≤ n → src.at gw k = some (if k < n then some (x k) else none))
    (hb : ∀ k, k < n → ∃ g1 g2, (den c tg).asg (x k) gw = .ok () g1 ∧ (den c elt).val g1 = .ok (y k, false) g2 ∧ wipe g2 own = gw) (hz : n ≤ sizeLine) : (den c (.comp elt tg it .nil own)).val g = .ok (.lst true (rg n y), false) (rest g0 gw own) := by
  obtain ⟨g', h1, h2⟩ := comp_flt (T := den c tg) (C := den c .nil) (A := den c elt) (own := own) (src := src) (x := x) (y := y) (c := fun _ => true) (n := n) (fun _ g => g = gw) (fun k g hk e => by subst e; exact hs k hk) (fun k g hk e => by
    subst e
    obtain ⟨g1, g2, h1, h2, h3⟩ := hb k hk
    exact ⟨g1, g1, h1, rfl, fun e => (nomatch e), fun _ => ⟨g2, h2, h3⟩⟩) n 0 gw (by omega) rfl
  subst h2
  rw [range'_all] at h1
  refine comp_val hi hn (by rw [hl, hw]; exact h1) ?_
  show (rg n y).length ≤ _
  rw [rg_len]
  exact hz
/-- .. with a test -/
theorem comp_filter {tst : E} (x y : Nat → D) (p : Nat → Bool) (gw : List D) (hi : (den c it).itr g = .ok src g0) (hn : (src.names.all fun i => !own.contains i) = true) (hl : src.len g0 = n) (hw : wipe g0 own = gw) (hs : ∀ k, k ≤ n → src.at gw k = some (if k < n then some (x k) else none))
    (hb : ∀ k, k < n → ∃ g1 g2, (den c tg).asg (x k) gw = .ok () g1 ∧ (den c tst).tst g1 = .ok (p k) g1 ∧ (den c elt).val g1 = .ok (y k, false) g2 ∧ wipe g1 own = gw ∧ wipe g2 own = gw) (hz : n ≤ sizeLine) : (den c (.comp elt tg it tst own)).val g = .ok (.lst true (((List.range n).filter p).map y), false) (rest g0 gw own) := by
  obtain ⟨g', h1, h2⟩ := comp_flt (T := den c tg) (C := den c tst) (A := den c elt) (own := own) (src := src) (x := x) (y := y) (c := p) (n := n) (fun _ g => g = gw) (fun k g hk e => by subst e; exact hs k hk) (fun k g hk e => by
    subst e
    obtain ⟨g1, g2, h1, h2, h3, h4, h5⟩ := hb k hk
    exact ⟨g1, g1, h1, h2, fun _ => h4, fun _ => ⟨g2, h3, h5⟩⟩) n 0 gw (by omega) rfl
  subst h2
  rw [← List.range_eq_range'] at h1
  refine comp_val hi hn (by rw [hl, hw]; exact h1) ?_
  have := List.length_filter_le p (List.range n)
  rw [List.length_map]
  rw [List.length_range] at this
  omega
/-- a loop: the names behind k turns are st k -/
theorem for_fn (x : Nat → D) (st : Nat → List D) (hi : (den c it).itr g = .ok src (st 0)) (hn : (src.names.all fun i => !(asgE t ++ asgS b).contains i) = true) (hl : src.len (st 0) = n) (hs : ∀ k, k ≤ n → src.at (st k) k = some (if k < n then some (x k) else none))
    (hb : ∀ k, k < n → ∃ g1, (den c t).asg (x k) (st k) = .ok () g1 ∧ (sden c b g1 = .nx (st (k + 1)) ∨ sden c b g1 = .ct (st (k + 1)))) : sden c (.forS t it b) g = .nx (st n) := by
  obtain ⟨g', h1, h2⟩ := for_inv (T := den c t) (b := sden c b) (src := src) (x := x) (n := n) (fun k g => g = st k) (fun k g hk e => by subst e; exact hs k hk) (fun k g hk e => by
    subst e
    obtain ⟨g1, h1, h2⟩ := hb k hk
    exact ⟨g1, h1, st (k + 1), h2, rfl⟩) n 0 (st 0) (by omega) rfl
  subst h2
  rw [for_st hi hn, hl, h1]
/-- a loop: P holds of the names behind k turns -/
theorem for_P (x : Nat → D) (P : Nat → List D → Prop) (hi : (den c it).itr g = .ok src g0) (hn : (src.names.all fun i => !(asgE t ++ asgS b).contains i) = true) (hl : src.len g0 = n) (h0 : P 0 g0) (hs : ∀ k g, k ≤ n → P k g → src.at g k = some (if k < n then some (x k) else none))
    (hb : ∀ k g, k < n → P k g → ∃ g1, (den c t).asg (x k) g = .ok () g1 ∧ ∃ g2, (sden c b g1 = .nx g2 ∨ sden c b g1 = .ct g2) ∧ P (k + 1) g2) : ∃ g', sden c (.forS t it b) g = .nx g' ∧ P n g' := by
  obtain ⟨g', h1, h2⟩ := for_inv (T := den c t) (b := sden c b) (src := src) (x := x) (n := n) P hs hb n 0 g0 (by omega) h0
  exact ⟨g', by rw [for_st hi hn, hl, h1], h2⟩
/-- a loop by the items themselves -/
theorem forR_fn {ko : Option Nat} {x i : Nat} {p : List Nat} {a : E} (st : Nat → List D) (hp : (den c a).plc g = .ok (i, p) (st 0)) (hq : (okR ko i x && quiet a && decide (x < (st 0).length) && (ko.toList.all fun i => decide (i < (st 0).length))) = true) (ho : isOwnL (getG (st 0) i p) = true) (hl : lenR (st 0) i p = n)
    (hb : ∀ k, k < n → ∃ t g1 g2, hole (st k) ko i x p k = some (t, g1) ∧ (sden c b g1 = .nx g2 ∨ sden c b g1 = .ct g2) ∧ unhole g1 (asgS b) i x (p ++ [k]) t g2 = some (st (k + 1))) : sden c (.forR ko x a b) g = .nx (st n) := by
  have go : ∀ m k, k + m = n → forRGo ko i x p (asgS b) (sden c b) m k (st k) = .nx (st n) := by
    intro m
    induction m with
    | zero =>
      intro k e
      obtain rfl : k = n := by omega
      rfl
    | succ m ih =>
      intro k e
      obtain ⟨t, g1, g2, h1, h2, h3⟩ := hb k (by omega)
      unfold forRGo
      rw [h1]
      rcases h2 with h2 | h2 <;> (simp only [h2, RS.back, h3]; exact ih (k + 1) (by omega))
  show Bm.R.st ((den c a).plc g) _ = _
  rw [hp]
  simp only [Bm.R.st]
  rw [if_pos ⟨hq, ho⟩, hl]
  exact go n 0 (by omega)
theorem hole_is {g : List D} {ko : Option Nat} {i x k : Nat} {p : List Nat} {xs : List D} {d t : D} (h : getG g i p = some (.lst true xs)) (hk : xs[k]? = some d) (nd : d.isDead = false) (ht : (setG g i (p ++ [k]) .dead)[i]? = some t) :
    hole g ko i x p k = some (t, ((setO (setG g i (p ++ [k]) .dead) ko (.int (k : Int))).set x d).set i t.frz) := by
  unfold hole
  rw [h]
  simp only [hk, nd, Bool.false_eq_true, if_false, ht]
theorem held_of {g0 g : List D} {as ex : List Nat} (h : ∀ (j : Nat) (d : D), g[j]? = some d → j ∉ ex → d.clean = true ∨ (j ∉ as ∧ g0[j]? = some d ∧ d.pers = true)) (hs : ∀ d : D, d.same d = true) : held g0 g as ex = true := by
  refine List.all_eq_true.mpr fun j hj => ?_
  rw [Bool.or_eq_true]
  by_cases hx : j ∈ ex
  · exact .inl (by simpa using hx)
  · right
    cases e : g[j]? with
    | none => rfl
    | some d =>
      simp only
      rcases h j d e hx with q | ⟨q1, q2, q3⟩
      · simp [q]
      · simp [q1, q2, q3, hs]
mutual
theorem D.same_refl : ∀ d : D, d.same d = true
  | .dead => rfl
  | .at a => by simp [D.same]
  | .nd k xs => by simp [D.same, sameL_refl xs]
theorem sameL_refl : ∀ xs : List D, sameL xs xs = true
  | [] => rfl
  | x :: xs => by simp [sameL, D.same_refl x, sameL_refl xs]
end
theorem unhole_is2 {g g3 : List D} {as : List Nat} {i x : Nat} {p : List Nat} {t d : D} (ni : i ∉ as) (nx : x ∉ as) (ht : g3[i]? = some t.frz) (hd : g3[x]? = some d) (nd : d.isDead = false) (hh : ∀ (j : Nat) (d : D), g3[j]? = some d → j ≠ i → d.clean = true ∨ (j ∉ as ∧ g[j]? = some d ∧ d.pers = true)) :
    unhole g as i x p t g3 = some (setG ((g3.set i t).set x .dead) i p d) := by
  unfold unhole
  have e1 : (!as.contains i && !as.contains x && sameO g3[i]? (some t.frz) && held g g3 as [i]) = true := by
    rw [held_of (fun j d e n => hh j d e (by simpa using n)) D.same_refl, ht]
    simp [ni, nx, sameO, D.same_refl]
  rw [if_pos e1, hd]
  simp [nd]
theorem unpeek_is2 {g g1 : List D} {as : List Nat} {i : Nat} {t : D} (ni : i ∉ as) (ht : g1[i]? = some t.frz) (hh : ∀ (j : Nat) (d : D), g1[j]? = some d → j ≠ i → d.clean = true ∨ (j ∉ as ∧ g[j]? = some d ∧ d.pers = true)) : unpeek g as i t g1 = some (g1.set i t) := by
  unfold unpeek
  have e1 : (!as.contains i && sameO g1[i]? (some t.frz) && held g g1 as [i]) = true := by
    rw [held_of (fun j d e n => hh j d e (by simpa using n)) D.same_refl, ht]
    simp [ni, sameO, D.same_refl]
  rw [if_pos e1]
end
end Bm

set_option maxHeartbeats 4000000
/-! B38: layers. -/
namespace Bm
open PySem
def mn (i j : Int) : Int := if j < i then j else i
abbrev rowD (m : Bool) (n : Nat) (r : Nat → Int) : D := .lst m (rg n fun t => .int (r t))
abbrev tabD (m : Bool) (n : Nat) (A : Nat → Nat → Int) : D := .lst m (rg n fun k => rowD m n (A k))
abbrev layD (m : Bool) (F n : Nat) (L : Nat → Nat → Nat → Int) : D := .lst m (rg F fun f => tabD m n (L f))
/-- one comparison more -/
def cmpL (L : Nat → Nat → Nat → Int) (g : Nat) (f k t : Nat) : Int :=
  if t = g then (if f = 0 then mn (L f k (g - 1)) (L f k (g + 1) + 1) else mn (mn (L f k (g - 1)) (L f k (g + 1) + 1)) (L (f - 1) k g)) else L f k t
theorem cut_rg {n g : Nat} {r : Nat → D} {y : D} (hg : g < n) : cutD (rg n r) none (some (g : Int)) ++ (y :: cutD (rg n r) (some ((g : Int) + 1)) none) = rg n fun t => if t = g then y else r t := by
  have e : (g : Int) + 1 = ((g + 1 : Nat) : Int) := by omega
  unfold cutD
  rw [e]
  simp only [HT.sIx_none, HT.sIx_nat, rg_len]
  rw [Nat.min_eq_left (by omega), Nat.min_eq_left (by omega)]
  apply List.ext_getElem?
  intro i
  by_cases hi : i < n
  · rw [rg_get hi]
    rcases Nat.lt_trichotomy i g with h | h | h
    · rw [List.getElem?_append_left (by simp [rg_len]; omega)]
      simp [List.getElem?_take, h, rg_get hi, Nat.ne_of_lt h]
    · subst h
      rw [List.getElem?_append_right (by simp [rg_len]; omega)]
      simp [rg_len, Nat.min_eq_left (Nat.le_of_lt hg)]
    · rw [List.getElem?_append_right (by simp [rg_len]; omega)]
      have : (List.take (g - 0) (List.drop 0 (rg n r))).length = g := by simp [rg_len]; omega
      rw [this, show i - g = (i - (g + 1)) + 1 by omega, List.getElem?_cons_succ]
      simp only [List.getElem?_take, List.getElem?_drop]
      rw [if_pos (by omega), show g + 1 + (i - (g + 1)) = i by omega, rg_get hi, if_neg (by omega)]
  · rw [rg_out (by omega)]
    rw [List.getElem?_eq_none]
    simp [rg_len]
    omega
theorem app_lst {c : Str → List D → CRes} {i : Nat} {e : E} {g g1 : List D} {xs : List D} {y : D} (h0 : g[i]? = some (.lst true xs)) (hq : quiet e = true ∨ True) (he : (den c e).val g = .ok (y, false) g1) (hl : late e .nil (y, false) g1 = some (y, false)) (h1 : g1[i]? = some (.lst true xs)) (hz : xs.length < sizeLine) :
    sden c (.expr (.lm .append (.var i) (.cons e .nil))) g = .nx (g1.set i (.lst true (xs ++ [y]))) := by
  have e1 : (den c (.cons e .nil)).lst g = .ok [(y, false)] g1 := by
    rw [l_cons, he]
    simp only [rb_ok, l_nil, hl]
  show Bm.R.st (Bm.R.bind (Bm.R.bind (varD i g) fun _ g => .ok (i, []) g) _) _ = _
  have h2 : varD i g = .ok (.lst true xs, true) g := by
    unfold varD
    rw [h0]
    rfl
  rw [h2]
  simp only [rb_ok]
  have c1 : (quiet (.cons e .nil) = true ∨ isVar (.var i) = true) ∧ isOwnL (getG g i []) = true := ⟨.inr rfl, by unfold getG; rw [h0]; rfl⟩
  rw [if_pos c1, e1]
  simp only [rb_ok]
  have h3 : getG g1 i [] = some (.lst true xs) := by unfold getG; rw [h1]; rfl
  rw [h3]
  simp only [allOwn, if_true, Option.map, lmD, if_pos hz]
  have h4 : setG g1 i [] (.lst true (xs ++ [y])) = g1.set i (.lst true (xs ++ [y])) := by
    unfold setG
    rw [h1]
    rfl
  rw [h4]
  rfl
abbrev dCompared_i1 : S := (.ifS (.cmp .gt (.var 3) (.cst (.int 0))) (.asg (.var 8) (.blt .min (.cons (.var 8) (.cons (.idx (.idx (.idx (.var 0) (.bin .sub (.var 3) (.cst (.int 1)))) (.var 6)) (.var 1)) .nil)))) .skip)
abbrev dCompared_b2 : S := (.kill [ 6 , 7 , 8 ] (.seq (.asg (.var 8) (.blt .min (.cons (.idx (.var 7) (.bin .sub (.var 1) (.cst (.int 1)))) (.cons (.bin .add (.idx (.var 7) (.bin .add (.var 1) (.cst (.int 1)))) (.cst (.int 1))) .nil)))) (.seq dCompared_i1 (.expr (.lm .append (.var 5) (.cons (.bin .add (.bin .add (.slc (.var 7) (.cst .non) (.var 1)) (.lstE (.cons (.var 8) .nil))) (.slc (.var 7) (.bin .add (.var 1) (.cst (.int 1))) (.cst .non))) .nil))))))
abbrev dCompared_f2 : S := (.forS (.tupE (.cons (.var 6) (.cons (.var 7) .nil))) (.blt .enumerate (.cons (.var 4) .nil)) dCompared_b2)
abbrev dCompared_b1 : S := (.kill [ 3 , 4 , 5 , 6 , 7 , 8 ] (.seq (.asg (.var 5) (.lstE .nil)) (.seq (.kill [ 6 , 7 , 8 ] dCompared_f2) (.expr (.lm .append (.var 2) (.cons (.mv 5) .nil))))))
abbrev dCompared_f1 : S := (.forS (.tupE (.cons (.var 3) (.cons (.var 4) .nil))) (.blt .enumerate (.cons (.var 0) .nil)) dCompared_b1)
def dCompared : Def := ⟨2,  9,
  (.seq (.asg (.var 2) (.lstE .nil)) (.seq (.kill [ 3 , 4 , 5 , 6 , 7 , 8 ] dCompared_f1) (.ret (.mv 2))))⟩
abbrev sCmpRow : S := .seq (.asg (.var 8) (.blt .min (.cons (.idx (.var 7) (.bin .sub (.var 1) (.cst (.int 1)))) (.cons (.bin .add (.idx (.var 7) (.bin .add (.var 1) (.cst (.int 1)))) (.cst (.int 1))) .nil))))
  (.seq (.ifS (.cmp .gt (.var 3) (.cst (.int 0)))
  (.asg (.var 8) (.blt .min (.cons (.var 8) (.cons (.idx (.idx (.idx (.var 0) (.bin .sub (.var 3) (.cst (.int 1)))) (.var 6)) (.var 1)) .nil))))
  .skip)
  (.expr (.lm .append (.var 5) (.cons (.bin .add (.bin .add (.slc (.var 7) (.cst .non) (.var 1)) (.lstE (.cons (.var 8) .nil))) (.slc (.var 7) (.bin .add (.var 1) (.cst (.int 1))) (.cst .non))) .nil))))
theorem persL_row {n : Nat} {r : Nat → Int} : persL (rg n fun t => .int (r t)) = true := persL_rg fun _ _ => rfl
theorem persL_tab {n : Nat} {A : Nat → Nat → Int} : persL (rg n fun k => rowD false n (A k)) = true := persL_rg fun _ _ => rfl
theorem persL_lay {F n : Nat} {L : Nat → Nat → Nat → Int} : persL (rg F fun f => tabD false n (L f)) = true := persL_rg fun _ _ => rfl
theorem cmp_row {c : Str → List D → CRes} {F n g f k : Nat} {L : Nat → Nat → Nat → Int} {fd : D} {acc : List D} (hg : 1 ≤ g) (hn : g + 1 < n) (hn2 : n ≤ 100) (hf : f < F) (hk : k < n) (ha : acc.length ≤ 1000) :
    ∃ e, sden c sCmpRow [layD false F n L, .int (g : Int), fd, .int (f : Int), tabD false n (L f), .lst true acc, .int (k : Int), rowD false n (L f k), .dead] =
      .nx [layD false F n L, .int (g : Int), fd, .int (f : Int), tabD false n (L f), .lst true (acc ++ [rowD true n (cmpL L g f k)]), .int (k : Int), rowD false n (L f k), e] := by
  have i1 : L2.atI (rg n fun t => D.int (L f k t)) ((g : Int) - 1) = some (.int (L f k (g - 1))) := by
    rw [atI_rgI (by omega) (by omega)]
    congr 4
    omega
  have i2 : L2.atI (rg n fun t => D.int (L f k t)) ((g : Int) + 1) = some (.int (L f k (g + 1))) := by
    rw [atI_rgI (by omega) (by omega)]
    congr 4
  have sz := sizeLine_eq
  have hs : ((rg n fun t => D.int (L f k t)).take g).length ≤ 100 := by simp [rg_len]; omega
  refine ⟨.int (cmpL L g f k g), ?_⟩
  have e1 : sden c (.asg (.var 8) (.blt .min (.cons (.idx (.var 7) (.bin .sub (.var 1) (.cst (.int 1)))) (.cons (.bin .add (.idx (.var 7) (.bin .add (.var 1) (.cst (.int 1)))) (.cst (.int 1))) .nil)))) [layD false F n L, .int (g : Int), fd, .int (f : Int), tabD false n (L f), .lst true acc, .int (k : Int), rowD false n (L f k), .dead] =
      .nx [layD false F n L, .int (g : Int), fd, .int (f : Int), tabD false n (L f), .lst true acc, .int (k : Int), rowD false n (L f k), .int (mn (L f k (g - 1)) (L f k (g + 1) + 1))] := by
    simp [v_cst, v_glb, v_var, v_bin, t_cmp, v_cmp, v_neg, v_not, t_not, t_and, t_or, v_and, v_or, v_ife, l_nil, l_cons, v_tup, v_lst, v_idx, v_slc, p_part, v_rev, v_lrg, v_blt, v_mv, v_frz, t_nil, t_var, t_idx, t_blt, s_var, s_tup, s_cons, s_nil, w_skip, w_seq, w_expr, w_asg, w_par, w_ret, w_if, w_kill, rb_ok, rs_ok, sb_nx, sb_rt, o_some, varD, mvD, mkV, late, quiet, isVar, own1, D.isDead, D.pers, partI, binD, cmpD, eqD, truD, bltD, idxD, allOwn, mkLst, mkTup, asgTup, asgCons, asgNil, cntE, i1, i2, mn]
  have e2 : sden c (.ifS (.cmp .gt (.var 3) (.cst (.int 0))) (.asg (.var 8) (.blt .min (.cons (.var 8) (.cons (.idx (.idx (.idx (.var 0) (.bin .sub (.var 3) (.cst (.int 1)))) (.var 6)) (.var 1)) .nil)))) .skip)
      [layD false F n L, .int (g : Int), fd, .int (f : Int), tabD false n (L f), .lst true acc, .int (k : Int), rowD false n (L f k), .int (mn (L f k (g - 1)) (L f k (g + 1) + 1))] =
      .nx [layD false F n L, .int (g : Int), fd, .int (f : Int), tabD false n (L f), .lst true acc, .int (k : Int), rowD false n (L f k), .int (cmpL L g f k g)] := by
    by_cases h0 : f = 0
    · subst h0
      simp [v_cst, v_glb, v_var, v_bin, t_cmp, v_cmp, v_neg, v_not, t_not, t_and, t_or, v_and, v_or, v_ife, l_nil, l_cons, v_tup, v_lst, v_idx, v_slc, p_part, v_rev, v_lrg, v_blt, v_mv, v_frz, t_nil, t_var, t_idx, t_blt, s_var, s_tup, s_cons, s_nil, w_skip, w_seq, w_expr, w_asg, w_par, w_ret, w_if, w_kill, rb_ok, rs_ok, sb_nx, sb_rt, o_some, varD, mvD, mkV, late, quiet, isVar, own1, D.isDead, D.pers, partI, binD, cmpD, eqD, truD, bltD, idxD, allOwn, mkLst, mkTup, asgTup, asgCons, asgNil, cntE, cmpL]
    · have i3 : L2.atI (rg F fun f => tabD false n (L f)) ((f : Int) - 1) = some (tabD false n (L (f - 1))) := by
        rw [atI_rgI (by omega) (by omega)]
        congr 4
        omega
      have i4 : L2.atI (rg n fun k => rowD false n (L (f - 1) k)) (k : Int) = some (rowD false n (L (f - 1) k)) := atI_rg hk
      have i5 : L2.atI (rg n fun t => D.int (L (f - 1) k t)) (g : Int) = some (.int (L (f - 1) k g)) := atI_rg (by omega)
      have hp : 0 < f := by omega
      simp [v_cst, v_glb, v_var, v_bin, t_cmp, v_cmp, v_neg, v_not, t_not, t_and, t_or, v_and, v_or, v_ife, l_nil, l_cons, v_tup, v_lst, v_idx, v_slc, p_part, v_rev, v_lrg, v_blt, v_mv, v_frz, t_nil, t_var, t_idx, t_blt, s_var, s_tup, s_cons, s_nil, w_skip, w_seq, w_expr, w_asg, w_par, w_ret, w_if, w_kill, rb_ok, rs_ok, sb_nx, sb_rt, o_some, varD, mvD, mkV, late, quiet, isVar, own1, D.isDead, D.pers, partI, binD, cmpD, eqD, truD, bltD, idxD, allOwn, mkLst, mkTup, asgTup, asgCons, asgNil, cntE, cmpL, h0, hp, i3, i4, i5, mn]
      rfl
  have e3 : (den c (.bin .add (.bin .add (.slc (.var 7) (.cst .non) (.var 1)) (.lstE (.cons (.var 8) .nil))) (.slc (.var 7) (.bin .add (.var 1) (.cst (.int 1))) (.cst .non)))).val [layD false F n L, .int (g : Int), fd, .int (f : Int), tabD false n (L f), .lst true acc, .int (k : Int), rowD false n (L f k), .int (cmpL L g f k g)] =
      .ok (rowD true n (cmpL L g f k), false) [layD false F n L, .int (g : Int), fd, .int (f : Int), tabD false n (L f), .lst true acc, .int (k : Int), rowD false n (L f k), .int (cmpL L g f k g)] := by
    have cut := cut_rg (n := n) (g := g) (r := fun t => D.int (L f k t)) (y := .int (cmpL L g f k g)) (by omega)
    have q : (rg n fun t => if t = g then D.int (cmpL L g f k g) else D.int (L f k t)) = rg n fun t => D.int (cmpL L g f k t) := rg_congr fun t ht => by
      by_cases h : t = g
      · rw [if_pos h, h]
      · rw [if_neg h]
        simp [cmpL, h]
    rw [q] at cut
    have l1 : (cutD (rg n fun t => D.int (L f k t)) none (some (g : Int))).length + 1 ≤ 16777216 := by
      unfold cutD
      simp only [List.length_take, List.length_drop, rg_len]
      omega
    have l2 : (cutD (rg n fun t => D.int (L f k t)) none (some (g : Int))).length + (1 + (cutD (rg n fun t => D.int (L f k t)) (some ((g : Int) + 1)) none).length) ≤ 16777216 := by
      have := congrArg List.length cut
      simp [rg_len] at this
      omega
    have p1 : persL (cutD (rg n fun t => D.int (L f k t)) none (some (g : Int))) = true := by
      rw [persL_eq, List.all_eq_true]
      intro x hx
      unfold cutD at hx
      obtain ⟨j, _, rfl⟩ := rg_mem (List.mem_of_mem_drop (List.mem_of_mem_take hx))
      rfl
    have p2 : persL (cutD (rg n fun t => D.int (L f k t)) (some ((g : Int) + 1)) none) = true := by
      rw [persL_eq, List.all_eq_true]
      intro x hx
      unfold cutD at hx
      obtain ⟨j, _, rfl⟩ := rg_mem (List.mem_of_mem_drop (List.mem_of_mem_take hx))
      rfl
    have p3 : persL (cutD (rg n fun t => D.int (L f k t)) none (some (g : Int)) ++ [D.int (cmpL L g f k g)]) = true := by
      rw [persL_eq] at p1 ⊢
      rw [List.all_append, p1]
      rfl
    simp [v_cst, v_glb, v_var, v_bin, t_cmp, v_cmp, v_neg, v_not, t_not, t_and, t_or, v_and, v_or, v_ife, l_nil, l_cons, v_tup, v_lst, v_idx, v_slc, p_part, v_rev, v_lrg, v_blt, v_mv, v_frz, t_nil, t_var, t_idx, t_blt, s_var, s_tup, s_cons, s_nil, w_skip, w_seq, w_expr, w_asg, w_par, w_ret, w_if, w_kill, rb_ok, rs_ok, sb_nx, sb_rt, o_some, varD, mvD, mkV, late, quiet, isVar, own1, D.isDead, D.pers, partI, binD, cmpD, eqD, truD, bltD, idxD, allOwn, mkLst, mkTup, asgTup, asgCons, asgNil, cntE, slcD, shares, persL_row, persL, sz, l1, l2, p1, p2, p3, Nat.add_assoc, cut]
  rw [seq_nx e1, seq_nx e2]
  rw [app_lst (xs := acc) rfl (.inr trivial) e3 rfl rfl (by omega)]
  rfl
theorem app_mv {c : Str → List D → CRes} {i j : Nat} {g : List D} {xs : List D} {y : D} (h0 : g[i]? = some (.lst true xs)) (hj : g[j]? = some y) (nd : y.isDead = false) (np : y.pers = false) (ne : j ≠ i) (hz : xs.length < sizeLine) :
    sden c (.expr (.lm .append (.var i) (.cons (.mv j) .nil))) g = .nx ((g.set j .dead).set i (.lst true (xs ++ [y]))) := by
  refine app_lst h0 (.inr trivial) ?_ rfl ?_ hz
  · show mvD j g = _
    unfold mvD
    rw [hj]
    simp [nd, np]
  · rw [List.getElem?_set_ne ne]; exact h0
theorem compared_ok {c : Str → List D → CRes} {F n g : Nat} {L : Nat → Nat → Nat → Int} (hg : 1 ≤ g) (hn : g + 1 < n) (hn2 : n ≤ 100) (hF : F ≤ 1000) :
    dCompared.run c [layD false F n L, .int (g : Int)] = .ok (layD true F n (cmpL L g)) [layD false F n L, .int (g : Int)] := by
  have sz := sizeLine_eq
  have inner : ∀ f, f < F → ∀ fd, sden c (.kill [6, 7, 8] (.forS (.tupE (.cons (.var 6) (.cons (.var 7) .nil))) (.blt .enumerate (.cons (.var 4) .nil)) (.kill [6, 7, 8] sCmpRow))) [layD false F n L, .int (g : Int), fd, .int (f : Int), tabD false n (L f), .lst true [], .dead, .dead, .dead] =
      .nx [layD false F n L, .int (g : Int), fd, .int (f : Int), tabD false n (L f), tabD true n (cmpL L g f), .dead, .dead, .dead] := fun f hf fd => by
    have h := for_fn (c := c) (t := .tupE (.cons (.var 6) (.cons (.var 7) .nil))) (it := .blt .enumerate (.cons (.var 4) .nil)) (b := .kill [6, 7, 8] sCmpRow) (g := [layD false F n L, .int (g : Int), fd, .int (f : Int), tabD false n (L f), .lst true [], .dead, .dead, .dead]) (src := .enum (.fix (rg n fun k => rowD false n (L f k)))) (n := n)
      (fun k => .tup [.int (k : Int), rowD false n (L f k)]) (fun k => [layD false F n L, .int (g : Int), fd, .int (f : Int), tabD false n (L f), .lst true (rg k fun k => rowD true n (cmpL L g f k)), .dead, .dead, .dead])
      (by simp [i_enum, r_var, isLive, iterL, rg_zero, v_cst, v_glb, v_var, v_bin, t_cmp, v_cmp, v_neg, v_not, t_not, t_and, t_or, v_and, v_or, v_ife, l_nil, l_cons, v_tup, v_lst, v_idx, v_slc, p_part, v_rev, v_lrg, v_blt, v_mv, v_frz, t_nil, t_var, t_idx, t_blt, s_var, s_tup, s_cons, s_nil, w_skip, w_seq, w_expr, w_asg, w_par, w_ret, w_if, w_kill, rb_ok, rs_ok, sb_nx, sb_rt, o_some, varD, mvD, mkV, late, quiet, isVar, own1, D.isDead, D.pers, partI, binD, cmpD, eqD, truD, bltD, idxD, allOwn, mkLst, mkTup, asgTup, asgCons, asgNil, cntE]) rfl (by simp [Src.len, rg_len]) (fun k hk => enum_at (fix_rg hk)) (fun k hk => by
        obtain ⟨e, he⟩ := cmp_row (c := c) (F := F) (L := L) (fd := fd) (acc := rg k fun k => rowD true n (cmpL L g f k)) hg hn hn2 hf hk (by rw [rg_len]; omega)
        refine ⟨[layD false F n L, .int (g : Int), fd, .int (f : Int), tabD false n (L f), .lst true (rg k fun k => rowD true n (cmpL L g f k)), .int (k : Int), rowD false n (L f k), .dead], by simp [v_cst, v_glb, v_var, v_bin, t_cmp, v_cmp, v_neg, v_not, t_not, t_and, t_or, v_and, v_or, v_ife, l_nil, l_cons, v_tup, v_lst, v_idx, v_slc, p_part, v_rev, v_lrg, v_blt, v_mv, v_frz, t_nil, t_var, t_idx, t_blt, s_var, s_tup, s_cons, s_nil, w_skip, w_seq, w_expr, w_asg, w_par, w_ret, w_if, w_kill, rb_ok, rs_ok, sb_nx, sb_rt, o_some, varD, mvD, mkV, late, quiet, isVar, own1, D.isDead, D.pers, partI, binD, cmpD, eqD, truD, bltD, idxD, allOwn, mkLst, mkTup, asgTup, asgCons, asgNil, cntE], .inl ?_⟩
        rw [kill_nx he, rg_snoc]
        rfl)
    rw [kill_nx h]
    rfl
  have h := for_fn (c := c) (t := .tupE (.cons (.var 3) (.cons (.var 4) .nil))) (it := .blt .enumerate (.cons (.var 0) .nil)) (b := .kill [3, 4, 5, 6, 7, 8] (.seq (.asg (.var 5) (.lstE .nil)) (.seq (.kill [6, 7, 8] (.forS (.tupE (.cons (.var 6) (.cons (.var 7) .nil))) (.blt .enumerate (.cons (.var 4) .nil)) (.kill [6, 7, 8] sCmpRow))) (.expr (.lm .append (.var 2) (.cons (.mv 5) .nil)))))) (g := [layD false F n L, .int (g : Int), .lst true [], .dead, .dead, .dead, .dead, .dead, .dead]) (src := .enum (.fix (rg F fun f => tabD false n (L f)))) (n := F)
    (fun f => .tup [.int (f : Int), tabD false n (L f)]) (fun f => [layD false F n L, .int (g : Int), .lst true (rg f fun f => tabD true n (cmpL L g f)), .dead, .dead, .dead, .dead, .dead, .dead])
    (by simp [i_enum, r_var, isLive, iterL, rg_zero, v_cst, v_glb, v_var, v_bin, t_cmp, v_cmp, v_neg, v_not, t_not, t_and, t_or, v_and, v_or, v_ife, l_nil, l_cons, v_tup, v_lst, v_idx, v_slc, p_part, v_rev, v_lrg, v_blt, v_mv, v_frz, t_nil, t_var, t_idx, t_blt, s_var, s_tup, s_cons, s_nil, w_skip, w_seq, w_expr, w_asg, w_par, w_ret, w_if, w_kill, rb_ok, rs_ok, sb_nx, sb_rt, o_some, varD, mvD, mkV, late, quiet, isVar, own1, D.isDead, D.pers, partI, binD, cmpD, eqD, truD, bltD, idxD, allOwn, mkLst, mkTup, asgTup, asgCons, asgNil, cntE]) rfl (by simp [Src.len, rg_len]) (fun k hk => enum_at (fix_rg hk)) (fun f hf => by
      refine ⟨[layD false F n L, .int (g : Int), .lst true (rg f fun f => tabD true n (cmpL L g f)), .int (f : Int), tabD false n (L f), .dead, .dead, .dead, .dead], by simp [v_cst, v_glb, v_var, v_bin, t_cmp, v_cmp, v_neg, v_not, t_not, t_and, t_or, v_and, v_or, v_ife, l_nil, l_cons, v_tup, v_lst, v_idx, v_slc, p_part, v_rev, v_lrg, v_blt, v_mv, v_frz, t_nil, t_var, t_idx, t_blt, s_var, s_tup, s_cons, s_nil, w_skip, w_seq, w_expr, w_asg, w_par, w_ret, w_if, w_kill, rb_ok, rs_ok, sb_nx, sb_rt, o_some, varD, mvD, mkV, late, quiet, isVar, own1, D.isDead, D.pers, partI, binD, cmpD, eqD, truD, bltD, idxD, allOwn, mkLst, mkTup, asgTup, asgCons, asgNil, cntE], .inl ?_⟩
      have e1 : sden c (.asg (.var 5) (.lstE .nil)) [layD false F n L, .int (g : Int), .lst true (rg f fun f => tabD true n (cmpL L g f)), .int (f : Int), tabD false n (L f), .dead, .dead, .dead, .dead] = .nx [layD false F n L, .int (g : Int), .lst true (rg f fun f => tabD true n (cmpL L g f)), .int (f : Int), tabD false n (L f), .lst true [], .dead, .dead, .dead] := by
        simp [v_cst, v_glb, v_var, v_bin, t_cmp, v_cmp, v_neg, v_not, t_not, t_and, t_or, v_and, v_or, v_ife, l_nil, l_cons, v_tup, v_lst, v_idx, v_slc, p_part, v_rev, v_lrg, v_blt, v_mv, v_frz, t_nil, t_var, t_idx, t_blt, s_var, s_tup, s_cons, s_nil, w_skip, w_seq, w_expr, w_asg, w_par, w_ret, w_if, w_kill, rb_ok, rs_ok, sb_nx, sb_rt, o_some, varD, mvD, mkV, late, quiet, isVar, own1, D.isDead, D.pers, partI, binD, cmpD, eqD, truD, bltD, idxD, allOwn, mkLst, mkTup, asgTup, asgCons, asgNil, cntE]
      have e2 : sden c (.seq (.asg (.var 5) (.lstE .nil)) (.seq (.kill [6, 7, 8] (.forS (.tupE (.cons (.var 6) (.cons (.var 7) .nil))) (.blt .enumerate (.cons (.var 4) .nil)) (.kill [6, 7, 8] sCmpRow))) (.expr (.lm .append (.var 2) (.cons (.mv 5) .nil))))) [layD false F n L, .int (g : Int), .lst true (rg f fun f => tabD true n (cmpL L g f)), .int (f : Int), tabD false n (L f), .dead, .dead, .dead, .dead] = .nx [layD false F n L, .int (g : Int), .lst true (rg (f + 1) fun f => tabD true n (cmpL L g f)), .int (f : Int), tabD false n (L f), .dead, .dead, .dead, .dead] := by
        rw [seq_nx e1, seq_nx (inner f hf _), app_mv (y := tabD true n (cmpL L g f)) rfl rfl rfl rfl (by decide) (by rw [rg_len]; omega), rg_snoc]
        rfl
      rw [kill_nx e2]
      rfl)
  have body : sden c dCompared.body ([layD false F n L, .int (g : Int)] ++ List.replicate (dCompared.nn - dCompared.np) .dead) = .rt (layD true F n (cmpL L g)) [layD false F n L, .int (g : Int), .dead, .dead, .dead, .dead, .dead, .dead, .dead] := by
    have e0 : sden c (.asg (.var 2) (.lstE .nil)) [layD false F n L, .int (g : Int), .dead, .dead, .dead, .dead, .dead, .dead, .dead] = .nx [layD false F n L, .int (g : Int), .lst true [], .dead, .dead, .dead, .dead, .dead, .dead] := by simp [v_cst, v_glb, v_var, v_bin, t_cmp, v_cmp, v_neg, v_not, t_not, t_and, t_or, v_and, v_or, v_ife, l_nil, l_cons, v_tup, v_lst, v_idx, v_slc, p_part, v_rev, v_lrg, v_blt, v_mv, v_frz, t_nil, t_var, t_idx, t_blt, s_var, s_tup, s_cons, s_nil, w_skip, w_seq, w_expr, w_asg, w_par, w_ret, w_if, w_kill, rb_ok, rs_ok, sb_nx, sb_rt, o_some, varD, mvD, mkV, late, quiet, isVar, own1, D.isDead, D.pers, partI, binD, cmpD, eqD, truD, bltD, idxD, allOwn, mkLst, mkTup, asgTup, asgCons, asgNil, cntE]
    show sden c (.seq (.asg (.var 2) (.lstE .nil)) (.seq (.kill [3, 4, 5, 6, 7, 8] _) (.ret (.mv 2)))) [layD false F n L, .int (g : Int), .dead, .dead, .dead, .dead, .dead, .dead, .dead] = _
    rw [seq_nx e0, seq_nx (kill_nx h)]
    simp [wipe, v_cst, v_glb, v_var, v_bin, t_cmp, v_cmp, v_neg, v_not, t_not, t_and, t_or, v_and, v_or, v_ife, l_nil, l_cons, v_tup, v_lst, v_idx, v_slc, p_part, v_rev, v_lrg, v_blt, v_mv, v_frz, t_nil, t_var, t_idx, t_blt, s_var, s_tup, s_cons, s_nil, w_skip, w_seq, w_expr, w_asg, w_par, w_ret, w_if, w_kill, rb_ok, rs_ok, sb_nx, sb_rt, o_some, varD, mvD, mkV, late, quiet, isVar, own1, D.isDead, D.pers, partI, binD, cmpD, eqD, truD, bltD, idxD, allOwn, mkLst, mkTup, asgTup, asgCons, asgNil, cntE]
  rw [run_rt rfl body]
  rfl
end Bm

set_option maxHeartbeats 4000000
/-! B39: layers of gates. -/
namespace Bm
open PySem
/-! ### the layers of some gates -/
def F0 (_ k t : Nat) : Int := if (0 : Int) > (k : Int) - (t : Int) then 0 else (k : Int) - (t : Int)
def layG (L : Nat → Nat → Nat → Int) (gs : List Nat) : Nat → Nat → Nat → Int := gs.foldl cmpL L
abbrev dLayers_e3 : E := (.blt .max (.cons (.bin .sub (.var 7) (.var 8)) (.cons (.cst (.int 0)) .nil)))
abbrev dLayers_c3 : E := (.comp dLayers_e3 (.var 8) (.blt .range (.cons (.var 3) .nil)) .nil [ 8 ])
abbrev dLayers_e2 : E := dLayers_c3
abbrev dLayers_c2 : E := (.comp dLayers_e2 (.var 7) (.blt .range (.cons (.var 3) .nil)) .nil [ 7 ])
abbrev dLayers_e1 : E := dLayers_c2
abbrev dLayers_c1 : E := (.comp dLayers_e1 (.var 6) (.blt .range (.cons (.bin .add (.var 2) (.cst (.int 1))) .nil)) .nil [ 6 ])
abbrev dLayers_b1 : S := (.kill [ 5 ] (.gift [ 4 ] (.asg (.var 4) (.call "_law_compared" (.cons (.var 4) (.cons (.var 5) .nil))))))
abbrev dLayers_f1 : S := (.forS (.var 5) (.var 0) dLayers_b1)
def dLayers : Def := ⟨3,  9,
  (.seq (.asg (.var 3) (.bin .add (.var 1) (.cst (.int 1)))) (.seq (.gift [ 4 ] (.asg (.var 4) dLayers_c1)) (.seq (.kill [ 5 ] dLayers_f1) (.ret (.mv 4)))))⟩
abbrev gsD (m : Bool) (gs : List Nat) : D := .lst m (gs.map fun (g : Nat) => D.int (g : Int))
def Cmps (c : Str → List D → CRes) : Prop := ∀ (F n g : Nat) (L : Nat → Nat → Nat → Int), 1 ≤ g → g + 1 < n → n ≤ 100 → F ≤ 1000 → c "_law_compared" [layD false F n L, .int (g : Int)] = .ok (layD true F n (cmpL L g)) [layD false F n L, .int (g : Int)]
theorem pers_dead {d : D} (h : d.pers = true) : d.isDead = false := by cases d <;> first | rfl | cases h
theorem frz_lay {F n : Nat} {L : Nat → Nat → Nat → Int} : (layD true F n L).frz = layD false F n L := by
  simp only [D.frz, frzL_rg]
theorem call_val1 {c : Str → List D → CRes} {f : Str} {i : Nat} {e : E} {g : List D} {d y v : D} (hi : g[i]? = some d) (np : d.pers = true) (hv : isVar e = false) (he : (den c e).val g = .ok (y, false) g) (hc : c f [d, y] = .ok v [d, y]) : (den c (.call f (.cons (.var i) (.cons e .nil)))).val g = .ok (v, false) g := by
  have nd := pers_dead np
  refine call_val (args_cons (arg_r hi nd) (args_cons (one_val hv he) rfl)) (ds := [d, y]) (g2 := g) ?_ hc ?_
  · simp [takeA, hi, nd, np]
  · simp [backA, np]
/-- f(x, y) of names that nobody changes -/
theorem call_pp {c : Str → List D → CRes} {f : Str} {i j : Nat} {g : List D} {d y v : D} (hi : g[i]? = some d) (np : d.pers = true) (hj : g[j]? = some y) (np2 : y.pers = true) (hc : c f [d, y] = .ok v [d, y]) : (den c (.call f (.cons (.var i) (.cons (.var j) .nil)))).val g = .ok (v, false) g := by
  refine call_val (args_cons (arg_r hi (pers_dead np)) (args_cons (arg_r hj (pers_dead np2)) rfl)) (ds := [d, y]) (g2 := g) ?_ hc ?_
  · simp [takeA, hi, hj, pers_dead np, pers_dead np2, np, np2]
  · simp [backA, np, np2]
theorem gift_nx {c : Str → List D → CRes} {is : List Nat} {a : S} {g g1 : List D} (h : sden c a g = .nx g1) : sden c (.gift is a) g = .nx (giveUp g1 is) := by
  show (match sden c a g with
    | .nx g => RS.nx (giveUp g is)
    | r => r) = _
  rw [h]
theorem smallI_nat {n : Nat} (h : n ≤ 100000) : smallI (n : Int) = true := decide_eq_true ⟨by omega, by omega⟩
theorem range_itr {c : Str → List D → CRes} {e : E} {g : List D} {n : Nat} (h : (den c (.cons e .nil)).lst g = .ok [(.int (n : Int), false)] g) (hn : n ≤ 100000) : (den c (.blt .range (.cons e .nil))).itr g = .ok (.fix (rangeD 0 n)) g := by
  rw [i_range, h, rb_ok]
  simp only [rangeS]
  rw [if_pos (smallI_nat hn), o_some, Int.toNat_natCast]
theorem free_row {c : Str → List D → CRes} {n k f : Nat} {a b dd fd : D} (hn : n ≤ 100) : (den c (.comp (.blt .max (.cons (.bin .sub (.var 7) (.var 8)) (.cons (.cst (.int 0)) .nil))) (.var 8) (.blt .range (.cons (.var 3) .nil)) .nil [8])).val [a, b, dd, .int (n : Int), .dead, .dead, fd, .int (k : Int), .dead] =
    .ok (rowD true n (F0 f k), false) [a, b, dd, .int (n : Int), .dead, .dead, fd, .int (k : Int), .dead] := by
  have h := comp_map (c := c) (elt := .blt .max (.cons (.bin .sub (.var 7) (.var 8)) (.cons (.cst (.int 0)) .nil))) (tg := .var 8) (it := .blt .range (.cons (.var 3) .nil)) (own := [8]) (g := [a, b, dd, .int (n : Int), .dead, .dead, fd, .int (k : Int), .dead]) (g0 := [a, b, dd, .int (n : Int), .dead, .dead, fd, .int (k : Int), .dead]) (src := .fix (rangeD 0 n)) (n := n)
    (fun t => .int (0 + (t : Int))) (fun t => .int (F0 f k t)) [a, b, dd, .int (n : Int), .dead, .dead, fd, .int (k : Int), .dead] (range_itr (by simp [v_cst, v_glb, v_var, v_bin, t_cmp, v_cmp, v_neg, v_not, t_not, t_and, t_or, v_and, v_or, v_ife, l_nil, l_cons, v_tup, v_lst, v_idx, v_slc, p_part, v_rev, v_lrg, v_blt, v_mv, v_frz, t_nil, t_var, t_idx, t_blt, s_var, s_tup, s_cons, s_nil, w_skip, w_seq, w_expr, w_asg, w_par, w_ret, w_if, w_kill, rb_ok, rs_ok, sb_nx, sb_rt, o_some, varD, mvD, mkV, late, quiet, isVar, own1, D.isDead, D.pers, partI, binD, cmpD, eqD, truD, bltD, idxD, allOwn, mkLst, mkTup, asgTup, asgCons, asgNil, cntE]) (by omega)) rfl (by rw [rangeD_rg]; exact len_fix) rfl (fun t ht => by rw [rangeD_rg]; exact fix_rg ht) (fun t ht => ⟨[a, b, dd, .int (n : Int), .dead, .dead, fd, .int (k : Int), .int (0 + (t : Int))], [a, b, dd, .int (n : Int), .dead, .dead, fd, .int (k : Int), .int (0 + (t : Int))], by simp [v_cst, v_glb, v_var, v_bin, t_cmp, v_cmp, v_neg, v_not, t_not, t_and, t_or, v_and, v_or, v_ife, l_nil, l_cons, v_tup, v_lst, v_idx, v_slc, p_part, v_rev, v_lrg, v_blt, v_mv, v_frz, t_nil, t_var, t_idx, t_blt, s_var, s_tup, s_cons, s_nil, w_skip, w_seq, w_expr, w_asg, w_par, w_ret, w_if, w_kill, rb_ok, rs_ok, sb_nx, sb_rt, o_some, varD, mvD, mkV, late, quiet, isVar, own1, D.isDead, D.pers, partI, binD, cmpD, eqD, truD, bltD, idxD, allOwn, mkLst, mkTup, asgTup, asgCons, asgNil, cntE], by simp [v_cst, v_glb, v_var, v_bin, t_cmp, v_cmp, v_neg, v_not, t_not, t_and, t_or, v_and, v_or, v_ife, l_nil, l_cons, v_tup, v_lst, v_idx, v_slc, p_part, v_rev, v_lrg, v_blt, v_mv, v_frz, t_nil, t_var, t_idx, t_blt, s_var, s_tup, s_cons, s_nil, w_skip, w_seq, w_expr, w_asg, w_par, w_ret, w_if, w_kill, rb_ok, rs_ok, sb_nx, sb_rt, o_some, varD, mvD, mkV, late, quiet, isVar, own1, D.isDead, D.pers, partI, binD, cmpD, eqD, truD, bltD, idxD, allOwn, mkLst, mkTup, asgTup, asgCons, asgNil, cntE, F0], rfl⟩) (by have := sizeLine_eq; omega)
  rw [h]
  rfl
theorem layers_ok {c : Str → List D → CRes} (hc : Cmps c) {m : Bool} {gs : List Nat} {F n : Nat} (hn0 : 1 ≤ n) (hn : n ≤ 100) (hF0 : 1 ≤ F) (hF : F ≤ 1000) (hg : ∀ g, g ∈ gs → 1 ≤ g ∧ g + 1 < n) :
    dLayers.run c [gsD m gs, .int ((n : Int) - 1), .int ((F : Int) - 1)] = .ok (layD false F n (layG F0 gs)) [gsD m gs, .int ((n : Int) - 1), .int ((F : Int) - 1)] := by
  have sz := sizeLine_eq
  have e1 : sden c (.asg (.var 3) (.bin .add (.var 1) (.cst (.int 1)))) [gsD m gs, .int ((n : Int) - 1), .int ((F : Int) - 1), .dead, .dead, .dead, .dead, .dead, .dead] = .nx [gsD m gs, .int ((n : Int) - 1), .int ((F : Int) - 1), .int (n : Int), .dead, .dead, .dead, .dead, .dead] := by
    simp [v_cst, v_glb, v_var, v_bin, t_cmp, v_cmp, v_neg, v_not, t_not, t_and, t_or, v_and, v_or, v_ife, l_nil, l_cons, v_tup, v_lst, v_idx, v_slc, p_part, v_rev, v_lrg, v_blt, v_mv, v_frz, t_nil, t_var, t_idx, t_blt, s_var, s_tup, s_cons, s_nil, w_skip, w_seq, w_expr, w_asg, w_par, w_ret, w_if, w_kill, rb_ok, rs_ok, sb_nx, sb_rt, o_some, varD, mvD, mkV, late, quiet, isVar, own1, D.isDead, D.pers, partI, binD, cmpD, eqD, truD, bltD, idxD, allOwn, mkLst, mkTup, asgTup, asgCons, asgNil, cntE]
  have tab : ∀ f : Nat, (den c dLayers_c2).val [gsD m gs, .int ((n : Int) - 1), .int ((F : Int) - 1), .int (n : Int), .dead, .dead, .int (f : Int), .dead, .dead] = .ok (tabD true n (F0 f), false) [gsD m gs, .int ((n : Int) - 1), .int ((F : Int) - 1), .int (n : Int), .dead, .dead, .int (f : Int), .dead, .dead] := fun f => by
    have h := comp_map (c := c) (elt := dLayers_e2) (tg := .var 7) (it := .blt .range (.cons (.var 3) .nil)) (own := [7]) (src := .fix (rangeD 0 n)) (n := n) (fun k => .int (0 + (k : Int))) (fun k => rowD true n (F0 f k)) [gsD m gs, .int ((n : Int) - 1), .int ((F : Int) - 1), .int (n : Int), .dead, .dead, .int (f : Int), .dead, .dead]
      (g := [gsD m gs, .int ((n : Int) - 1), .int ((F : Int) - 1), .int (n : Int), .dead, .dead, .int (f : Int), .dead, .dead]) (g0 := [gsD m gs, .int ((n : Int) - 1), .int ((F : Int) - 1), .int (n : Int), .dead, .dead, .int (f : Int), .dead, .dead])
      (range_itr (by simp [v_cst, v_glb, v_var, v_bin, t_cmp, v_cmp, v_neg, v_not, t_not, t_and, t_or, v_and, v_or, v_ife, l_nil, l_cons, v_tup, v_lst, v_idx, v_slc, p_part, v_rev, v_lrg, v_blt, v_mv, v_frz, t_nil, t_var, t_idx, t_blt, s_var, s_tup, s_cons, s_nil, w_skip, w_seq, w_expr, w_asg, w_par, w_ret, w_if, w_kill, rb_ok, rs_ok, sb_nx, sb_rt, o_some, varD, mvD, mkV, late, quiet, isVar, own1, D.isDead, D.pers, partI, binD, cmpD, eqD, truD, bltD, idxD, allOwn, mkLst, mkTup, asgTup, asgCons, asgNil, cntE]) (by omega)) rfl (by rw [rangeD_rg]; exact len_fix) rfl (fun t ht => by rw [rangeD_rg]; exact fix_rg ht) (fun k hk => ⟨[gsD m gs, .int ((n : Int) - 1), .int ((F : Int) - 1), .int (n : Int), .dead, .dead, .int (f : Int), .int (k : Int), .dead], [gsD m gs, .int ((n : Int) - 1), .int ((F : Int) - 1), .int (n : Int), .dead, .dead, .int (f : Int), .int (k : Int), .dead], by simp [v_cst, v_glb, v_var, v_bin, t_cmp, v_cmp, v_neg, v_not, t_not, t_and, t_or, v_and, v_or, v_ife, l_nil, l_cons, v_tup, v_lst, v_idx, v_slc, p_part, v_rev, v_lrg, v_blt, v_mv, v_frz, t_nil, t_var, t_idx, t_blt, s_var, s_tup, s_cons, s_nil, w_skip, w_seq, w_expr, w_asg, w_par, w_ret, w_if, w_kill, rb_ok, rs_ok, sb_nx, sb_rt, o_some, varD, mvD, mkV, late, quiet, isVar, own1, D.isDead, D.pers, partI, binD, cmpD, eqD, truD, bltD, idxD, allOwn, mkLst, mkTup, asgTup, asgCons, asgNil, cntE], free_row hn, rfl⟩) (by omega)
    rw [h]
    rfl
  have lay : (den c dLayers_c1).val [gsD m gs, .int ((n : Int) - 1), .int ((F : Int) - 1), .int (n : Int), .dead, .dead, .dead, .dead, .dead] = .ok (layD true F n F0, false) [gsD m gs, .int ((n : Int) - 1), .int ((F : Int) - 1), .int (n : Int), .dead, .dead, .dead, .dead, .dead] := by
    have h := comp_map (c := c) (elt := dLayers_e1) (tg := .var 6) (it := .blt .range (.cons (.bin .add (.var 2) (.cst (.int 1))) .nil)) (own := [6]) (src := .fix (rangeD 0 F)) (n := F) (fun k => .int (0 + (k : Int))) (fun (f : Nat) => tabD true n (F0 f)) [gsD m gs, .int ((n : Int) - 1), .int ((F : Int) - 1), .int (n : Int), .dead, .dead, .dead, .dead, .dead]
      (g := [gsD m gs, .int ((n : Int) - 1), .int ((F : Int) - 1), .int (n : Int), .dead, .dead, .dead, .dead, .dead]) (g0 := [gsD m gs, .int ((n : Int) - 1), .int ((F : Int) - 1), .int (n : Int), .dead, .dead, .dead, .dead, .dead])
      (range_itr (by simp [v_cst, v_glb, v_var, v_bin, t_cmp, v_cmp, v_neg, v_not, t_not, t_and, t_or, v_and, v_or, v_ife, l_nil, l_cons, v_tup, v_lst, v_idx, v_slc, p_part, v_rev, v_lrg, v_blt, v_mv, v_frz, t_nil, t_var, t_idx, t_blt, s_var, s_tup, s_cons, s_nil, w_skip, w_seq, w_expr, w_asg, w_par, w_ret, w_if, w_kill, rb_ok, rs_ok, sb_nx, sb_rt, o_some, varD, mvD, mkV, late, quiet, isVar, own1, D.isDead, D.pers, partI, binD, cmpD, eqD, truD, bltD, idxD, allOwn, mkLst, mkTup, asgTup, asgCons, asgNil, cntE]) (by omega)) rfl (by rw [rangeD_rg]; exact len_fix) rfl (fun t ht => by rw [rangeD_rg]; exact fix_rg ht) (fun f hf => ⟨[gsD m gs, .int ((n : Int) - 1), .int ((F : Int) - 1), .int (n : Int), .dead, .dead, .int (f : Int), .dead, .dead], [gsD m gs, .int ((n : Int) - 1), .int ((F : Int) - 1), .int (n : Int), .dead, .dead, .int (f : Int), .dead, .dead], by simp [v_cst, v_glb, v_var, v_bin, t_cmp, v_cmp, v_neg, v_not, t_not, t_and, t_or, v_and, v_or, v_ife, l_nil, l_cons, v_tup, v_lst, v_idx, v_slc, p_part, v_rev, v_lrg, v_blt, v_mv, v_frz, t_nil, t_var, t_idx, t_blt, s_var, s_tup, s_cons, s_nil, w_skip, w_seq, w_expr, w_asg, w_par, w_ret, w_if, w_kill, rb_ok, rs_ok, sb_nx, sb_rt, o_some, varD, mvD, mkV, late, quiet, isVar, own1, D.isDead, D.pers, partI, binD, cmpD, eqD, truD, bltD, idxD, allOwn, mkLst, mkTup, asgTup, asgCons, asgNil, cntE], tab f, rfl⟩) (by omega)
    rw [h]
    rfl
  have e2 : sden c (.gift [4] (.asg (.var 4) dLayers_c1)) [gsD m gs, .int ((n : Int) - 1), .int ((F : Int) - 1), .int (n : Int), .dead, .dead, .dead, .dead, .dead] = .nx [gsD m gs, .int ((n : Int) - 1), .int ((F : Int) - 1), .int (n : Int), layD false F n F0, .dead, .dead, .dead, .dead] := by
    rw [gift_nx (asg_nx lay (var_asg (by simp)))]
    simp [giveUp, frz_lay]
  have x : ∀ k, k < gs.length → (gs.map fun (g : Nat) => D.int (g : Int))[k]? = some (.int (gs.getD k 0 : Nat)) := fun k hk => by simp [hk]
  have e3 : sden c dLayers_f1 [gsD m gs, .int ((n : Int) - 1), .int ((F : Int) - 1), .int (n : Int), layD false F n F0, .dead, .dead, .dead, .dead] = .nx [gsD m gs, .int ((n : Int) - 1), .int ((F : Int) - 1), .int (n : Int), layD false F n (layG F0 gs), .dead, .dead, .dead, .dead] := by
    obtain ⟨src, hs1, hs2, hs3, hs4⟩ : ∃ src : Src, (den c (.var 0)).itr [gsD m gs, .int ((n : Int) - 1), .int ((F : Int) - 1), .int (n : Int), layD false F n (layG F0 (gs.take 0)), .dead, .dead, .dead, .dead] = .ok src [gsD m gs, .int ((n : Int) - 1), .int ((F : Int) - 1), .int (n : Int), layD false F n (layG F0 (gs.take 0)), .dead, .dead, .dead, .dead] ∧
        (src.names.all fun i => !(asgE (.var 5) ++ asgS dLayers_b1).contains i) = true ∧ (∀ g, src.len (gsD m gs :: g) = gs.length) ∧ ∀ k g, k ≤ gs.length → src.at (gsD m gs :: g) k = some (if k < gs.length then some (.int (gs.getD k 0 : Nat)) else none) := by
      cases m with
      | true =>
        refine ⟨.live 0, by simp [i_var, isLive], rfl, fun g => by simp [Src.len], fun k g hk => ?_⟩
        simp only [Src.at, List.getElem?_cons_zero]
        by_cases h : k < gs.length
        · rw [x k h]
          simp [h, D.pers]
        · rw [List.getElem?_eq_none (by simp; omega), if_neg h]
      | false =>
        refine ⟨.fix (gs.map fun (g : Nat) => D.int (g : Int)), by simp [i_var, isLive, iterV, iterL, v_cst, v_glb, v_var, v_bin, t_cmp, v_cmp, v_neg, v_not, t_not, t_and, t_or, v_and, v_or, v_ife, l_nil, l_cons, v_tup, v_lst, v_idx, v_slc, p_part, v_rev, v_lrg, v_blt, v_mv, v_frz, t_nil, t_var, t_idx, t_blt, s_var, s_tup, s_cons, s_nil, w_skip, w_seq, w_expr, w_asg, w_par, w_ret, w_if, w_kill, rb_ok, rs_ok, sb_nx, sb_rt, o_some, varD, mvD, mkV, late, quiet, isVar, own1, D.isDead, D.pers, partI, binD, cmpD, eqD, truD, bltD, idxD, allOwn, mkLst, mkTup, asgTup, asgCons, asgNil, cntE], rfl, fun g => by simp [Src.len], fun k g hk => ?_⟩
        rw [at_fix]
        by_cases h : k < gs.length
        · rw [x k h, if_pos h]
        · rw [List.getElem?_eq_none (by simp; omega), if_neg h]
    have h := for_fn (c := c) (t := .var 5) (it := .var 0) (b := dLayers_b1) (src := src) (n := gs.length) (fun k => .int (gs.getD k 0 : Nat)) (fun k => [gsD m gs, .int ((n : Int) - 1), .int ((F : Int) - 1), .int (n : Int), layD false F n (layG F0 (gs.take k)), .dead, .dead, .dead, .dead]) hs1 hs2 (hs3 _) (fun k hk => hs4 k _ hk) (fun k hk => by
      refine ⟨[gsD m gs, .int ((n : Int) - 1), .int ((F : Int) - 1), .int (n : Int), layD false F n (layG F0 (gs.take k)), .int (gs.getD k 0 : Nat), .dead, .dead, .dead], by simp [s_var], .inl ?_⟩
      have hm := hg (gs.getD k 0) (by simp [List.getD, hk])
      have cl := call_pp (c := c) (f := "_law_compared") (i := 4) (j := 5) (g := [gsD m gs, .int ((n : Int) - 1), .int ((F : Int) - 1), .int (n : Int), layD false F n (layG F0 (gs.take k)), .int (gs.getD k 0 : Nat), .dead, .dead, .dead]) rfl rfl rfl rfl (hc F n (gs.getD k 0) (layG F0 (gs.take k)) hm.1 hm.2 hn hF)
      rw [kill_nx (gift_nx (asg_nx cl (var_asg (by simp))))]
      have q : layG F0 (gs.take (k + 1)) = cmpL (layG F0 (gs.take k)) (gs.getD k 0) := by
        rw [List.take_succ]
        unfold layG
        rw [List.foldl_append]
        simp [hk]
      simp [giveUp, frz_lay, wipe, q])
    rw [List.take_length] at h
    exact h
  have body : sden c dLayers.body ([gsD m gs, .int ((n : Int) - 1), .int ((F : Int) - 1)] ++ List.replicate (dLayers.nn - dLayers.np) .dead) = .rt (layD false F n (layG F0 gs)) [gsD m gs, .int ((n : Int) - 1), .int ((F : Int) - 1), .int (n : Int), layD false F n (layG F0 gs), .dead, .dead, .dead, .dead] := by
    show sden c (.seq (.asg (.var 3) (.bin .add (.var 1) (.cst (.int 1)))) (.seq (.gift [4] (.asg (.var 4) dLayers_c1)) (.seq (.kill [5] dLayers_f1) (.ret (.mv 4))))) [gsD m gs, .int ((n : Int) - 1), .int ((F : Int) - 1), .dead, .dead, .dead, .dead, .dead, .dead] = _
    rw [seq_nx e1, seq_nx e2, seq_nx (kill_nx e3)]
    simp [wipe, v_cst, v_glb, v_var, v_bin, t_cmp, v_cmp, v_neg, v_not, t_not, t_and, t_or, v_and, v_or, v_ife, l_nil, l_cons, v_tup, v_lst, v_idx, v_slc, p_part, v_rev, v_lrg, v_blt, v_mv, v_frz, t_nil, t_var, t_idx, t_blt, s_var, s_tup, s_cons, s_nil, w_skip, w_seq, w_expr, w_asg, w_par, w_ret, w_if, w_kill, rb_ok, rs_ok, sb_nx, sb_rt, o_some, varD, mvD, mkV, late, quiet, isVar, own1, D.isDead, D.pers, partI, binD, cmpD, eqD, truD, bltD, idxD, allOwn, mkLst, mkTup, asgTup, asgCons, asgNil, cntE]
  rw [run_rt rfl body]
  rfl
end Bm

set_option maxHeartbeats 4000000
/-! B40: tables that are joined. -/
namespace Bm
open PySem
theorem ints_rg {n : Nat} {r : Nat → Int} : intsD (rg n fun t => .int (r t)) = some ((List.range n).map r) := by
  unfold rg
  induction List.range n with
  | nil => rfl
  | cons x xs ih => simp [intsD, ih]
theorem min_rg {n : Nat} {r : Nat → Int} {m l : Bool} (hn : 1 ≤ n) : bltD .min [(rowD m n r, l)] = some (.int (minL ((List.range n).map r)), false) := by
  simp only [bltD, ints_rg]
  rw [if_neg]
  intro h
  have := congrArg List.length h
  simp at this
  omega
theorem call_vv {c : Str → List D → CRes} {f : Str} {a b : E} {g : List D} {x y v : D} {ds : List D} (ha : isVar a = false) (hb : isVar b = false) (h1 : (den c a).val g = .ok (x, false) g) (h2 : (den c b).val g = .ok (y, false) g) (hc : c f [x, y] = .ok v ds) (hd : ds.length = 2) : (den c (.call f (.cons a (.cons b .nil)))).val g = .ok (v, false) g := by
  match ds, hd with
  | [x', y'], _ => exact call_val (args_cons (one_val ha h1) (args_cons (one_val hb h2) rfl)) (ds := [x, y]) (g2 := g) rfl hc rfl
theorem call_v1 {c : Str → List D → CRes} {f : Str} {a : E} {g g1 : List D} {x v x' : D} (ha : isVar a = false) (h1 : (den c a).val g = .ok (x, false) g1) (hc : c f [x] = .ok v [x']) : (den c (.call f (.cons a .nil))).val g = .ok (v, false) g1 :=
  call_val (args_cons (one_val ha h1) rfl) (ds := [x]) (g2 := g1) rfl hc rfl
abbrev dJoined_e3 : E := (.bin .add (.idx (.var 3) (.var 5)) (.idx (.idx (.var 1) (.var 5)) (.var 4)))
abbrev dJoined_c3 : E := (.comp dJoined_e3 (.var 5) (.blt .range (.cons (.var 2) .nil)) .nil [ 5 ])
abbrev dJoined_e2 : E := (.blt .min (.cons dJoined_c3 .nil))
abbrev dJoined_c2 : E := (.comp dJoined_e2 (.var 4) (.blt .range (.cons (.var 2) .nil)) .nil [ 4 ])
abbrev dJoined_e1 : E := dJoined_c2
abbrev dJoined_c1 : E := (.comp dJoined_e1 (.var 3) (.var 0) .nil [ 3 ])
def dJoined : Def := ⟨2,  6,
  (.seq (.asg (.var 2) (.blt .len (.cons (.var 0) .nil))) (.ret dJoined_c1))⟩
abbrev dLeast_e3 : E := (.idx (.idx (.var 4) (.var 2)) (.var 3))
abbrev dLeast_c3 : E := (.comp dLeast_e3 (.var 4) (.var 0) .nil [ 4 ])
abbrev dLeast_e2 : E := (.blt .min (.cons dLeast_c3 .nil))
abbrev dLeast_c2 : E := (.comp dLeast_e2 (.var 3) (.blt .range (.cons (.var 1) .nil)) .nil [ 3 ])
abbrev dLeast_e1 : E := dLeast_c2
abbrev dLeast_c1 : E := (.comp dLeast_e1 (.var 2) (.blt .range (.cons (.var 1) .nil)) .nil [ 2 ])
def dLeast : Def := ⟨1,  5,
  (.seq (.asg (.var 1) (.blt .len (.cons (.idx (.var 0) (.cst (.int 0))) .nil))) (.ret dLeast_c1))⟩
abbrev dJoinLay_e1 : E := (.call "joined" (.cons (.idx (.var 0) (.var 4)) (.cons (.idx (.var 1) (.bin .sub (.var 3) (.var 4))) .nil)))
abbrev dJoinLay_c1 : E := (.comp dJoinLay_e1 (.var 4) (.blt .range (.cons (.bin .add (.var 3) (.cst (.int 1))) .nil)) .nil [ 4 ])
abbrev dJoinLay_b1 : S := (.kill [ 3 ] (.expr (.lm .append (.var 2) (.cons (.call "least_table" (.cons (.frz dJoinLay_c1) .nil)) .nil))))
abbrev dJoinLay_f1 : S := (.forS (.var 3) (.blt .range (.cons (.blt .len (.cons (.var 0) .nil)) .nil)) dJoinLay_b1)
def dJoinLay : Def := ⟨2,  5,
  (.seq (.asg (.var 2) (.lstE .nil)) (.seq (.kill [ 3 ] dJoinLay_f1) (.ret (.mv 2))))⟩
def joinF (N : Nat) (A B : Nat → Nat → Int) (k t : Nat) : Int := minL ((List.range N).map fun j => A k j + B j t)
def leastF (F : Nat) (T : Nat → Nat → Nat → Int) (k t : Nat) : Int := minL ((List.range F).map fun f => T f k t)
def joinL (N : Nat) (A B : Nat → Nat → Nat → Int) (f k t : Nat) : Int := leastF (f + 1) (fun a => joinF N (A a) (B (f - a))) k t
theorem joined_ok {c : Str → List D → CRes} {N : Nat} {A B : Nat → Nat → Int} (h1 : 1 ≤ N) (hN : N ≤ 100) : dJoined.run c [tabD false N A, tabD false N B] = .ok (tabD true N (joinF N A B)) [tabD false N A, tabD false N B] := by
  have sz := sizeLine_eq
  have e1 : sden c (.asg (.var 2) (.blt .len (.cons (.var 0) .nil))) [tabD false N A, tabD false N B, .dead, .dead, .dead, .dead] = .nx [tabD false N A, tabD false N B, .int (N : Int), .dead, .dead, .dead] := by
    simp [v_cst, v_glb, v_var, v_bin, t_cmp, v_cmp, v_neg, v_not, t_not, t_and, t_or, v_and, v_or, v_ife, l_nil, l_cons, v_tup, v_lst, v_idx, v_slc, p_part, v_rev, v_blt, v_mv, v_frz, t_nil, t_var, t_idx, t_blt, s_var, s_tup, s_cons, s_nil, w_skip, w_seq, w_expr, w_asg, w_par, w_ret, w_if, w_kill, rb_ok, rs_ok, sb_nx, sb_rt, o_some, varD, mvD, mkV, late, quiet, isVar, own1, D.isDead, D.pers, partI, binD, cmpD, eqD, truD, bltD, idxD, allOwn, mkLst, mkTup, asgTup, asgCons, asgNil, cntE, rg_len]
  have c3 : ∀ k, k < N → ∀ t : Nat, t < N → (den c dJoined_c3).val [tabD false N A, tabD false N B, .int (N : Int), rowD false N (A k), .int (t : Int), .dead] = .ok (rowD true N fun j => A k j + B j t, false) [tabD false N A, tabD false N B, .int (N : Int), rowD false N (A k), .int (t : Int), .dead] := fun k hk t ht => by
    have h := comp_map (c := c) (elt := dJoined_e3) (tg := .var 5) (it := .blt .range (.cons (.var 2) .nil)) (own := [5]) (src := .fix (rangeD 0 N)) (n := N) (fun j => .int (0 + (j : Int))) (fun j => .int (A k j + B j t)) [tabD false N A, tabD false N B, .int (N : Int), rowD false N (A k), .int (t : Int), .dead]
      (g := [tabD false N A, tabD false N B, .int (N : Int), rowD false N (A k), .int (t : Int), .dead]) (g0 := [tabD false N A, tabD false N B, .int (N : Int), rowD false N (A k), .int (t : Int), .dead])
      (range_itr (by simp [v_cst, v_glb, v_var, v_bin, t_cmp, v_cmp, v_neg, v_not, t_not, t_and, t_or, v_and, v_or, v_ife, l_nil, l_cons, v_tup, v_lst, v_idx, v_slc, p_part, v_rev, v_blt, v_mv, v_frz, t_nil, t_var, t_idx, t_blt, s_var, s_tup, s_cons, s_nil, w_skip, w_seq, w_expr, w_asg, w_par, w_ret, w_if, w_kill, rb_ok, rs_ok, sb_nx, sb_rt, o_some, varD, mvD, mkV, late, quiet, isVar, own1, D.isDead, D.pers, partI, binD, cmpD, eqD, truD, bltD, idxD, allOwn, mkLst, mkTup, asgTup, asgCons, asgNil, cntE]) (by omega)) rfl (by rw [rangeD_rg]; exact len_fix) rfl (fun t ht => by rw [rangeD_rg]; exact fix_rg ht) (fun j hj => ⟨[tabD false N A, tabD false N B, .int (N : Int), rowD false N (A k), .int (t : Int), .int (j : Int)], [tabD false N A, tabD false N B, .int (N : Int), rowD false N (A k), .int (t : Int), .int (j : Int)], by simp [v_cst, v_glb, v_var, v_bin, t_cmp, v_cmp, v_neg, v_not, t_not, t_and, t_or, v_and, v_or, v_ife, l_nil, l_cons, v_tup, v_lst, v_idx, v_slc, p_part, v_rev, v_blt, v_mv, v_frz, t_nil, t_var, t_idx, t_blt, s_var, s_tup, s_cons, s_nil, w_skip, w_seq, w_expr, w_asg, w_par, w_ret, w_if, w_kill, rb_ok, rs_ok, sb_nx, sb_rt, o_some, varD, mvD, mkV, late, quiet, isVar, own1, D.isDead, D.pers, partI, binD, cmpD, eqD, truD, bltD, idxD, allOwn, mkLst, mkTup, asgTup, asgCons, asgNil, cntE], by
        have i1 : L2.atI (rg N fun t => D.int (A k t)) (j : Int) = some (.int (A k j)) := atI_rg hj
        have i2 : L2.atI (rg N fun k => rowD false N (B k)) (j : Int) = some (rowD false N (B j)) := atI_rg hj
        have i3 : L2.atI (rg N fun t => D.int (B j t)) (t : Int) = some (.int (B j t)) := atI_rg ht
        simp [v_cst, v_glb, v_var, v_bin, t_cmp, v_cmp, v_neg, v_not, t_not, t_and, t_or, v_and, v_or, v_ife, l_nil, l_cons, v_tup, v_lst, v_idx, v_slc, p_part, v_rev, v_blt, v_mv, v_frz, t_nil, t_var, t_idx, t_blt, s_var, s_tup, s_cons, s_nil, w_skip, w_seq, w_expr, w_asg, w_par, w_ret, w_if, w_kill, rb_ok, rs_ok, sb_nx, sb_rt, o_some, varD, mvD, mkV, late, quiet, isVar, own1, D.isDead, D.pers, partI, binD, cmpD, eqD, truD, bltD, idxD, allOwn, mkLst, mkTup, asgTup, asgCons, asgNil, cntE, i1, i2, i3], rfl⟩) (by omega)
    rw [h]
    rfl
  have c2 : ∀ k, k < N → (den c dJoined_c2).val [tabD false N A, tabD false N B, .int (N : Int), rowD false N (A k), .dead, .dead] = .ok (rowD true N (joinF N A B k), false) [tabD false N A, tabD false N B, .int (N : Int), rowD false N (A k), .dead, .dead] := fun k hk => by
    have h := comp_map (c := c) (elt := dJoined_e2) (tg := .var 4) (it := .blt .range (.cons (.var 2) .nil)) (own := [4]) (src := .fix (rangeD 0 N)) (n := N) (fun j => .int (0 + (j : Int))) (fun t => .int (joinF N A B k t)) [tabD false N A, tabD false N B, .int (N : Int), rowD false N (A k), .dead, .dead]
      (g := [tabD false N A, tabD false N B, .int (N : Int), rowD false N (A k), .dead, .dead]) (g0 := [tabD false N A, tabD false N B, .int (N : Int), rowD false N (A k), .dead, .dead])
      (range_itr (by simp [v_cst, v_glb, v_var, v_bin, t_cmp, v_cmp, v_neg, v_not, t_not, t_and, t_or, v_and, v_or, v_ife, l_nil, l_cons, v_tup, v_lst, v_idx, v_slc, p_part, v_rev, v_blt, v_mv, v_frz, t_nil, t_var, t_idx, t_blt, s_var, s_tup, s_cons, s_nil, w_skip, w_seq, w_expr, w_asg, w_par, w_ret, w_if, w_kill, rb_ok, rs_ok, sb_nx, sb_rt, o_some, varD, mvD, mkV, late, quiet, isVar, own1, D.isDead, D.pers, partI, binD, cmpD, eqD, truD, bltD, idxD, allOwn, mkLst, mkTup, asgTup, asgCons, asgNil, cntE]) (by omega)) rfl (by rw [rangeD_rg]; exact len_fix) rfl (fun t ht => by rw [rangeD_rg]; exact fix_rg ht) (fun t ht => ⟨[tabD false N A, tabD false N B, .int (N : Int), rowD false N (A k), .int (t : Int), .dead], [tabD false N A, tabD false N B, .int (N : Int), rowD false N (A k), .int (t : Int), .dead], by simp [v_cst, v_glb, v_var, v_bin, t_cmp, v_cmp, v_neg, v_not, t_not, t_and, t_or, v_and, v_or, v_ife, l_nil, l_cons, v_tup, v_lst, v_idx, v_slc, p_part, v_rev, v_blt, v_mv, v_frz, t_nil, t_var, t_idx, t_blt, s_var, s_tup, s_cons, s_nil, w_skip, w_seq, w_expr, w_asg, w_par, w_ret, w_if, w_kill, rb_ok, rs_ok, sb_nx, sb_rt, o_some, varD, mvD, mkV, late, quiet, isVar, own1, D.isDead, D.pers, partI, binD, cmpD, eqD, truD, bltD, idxD, allOwn, mkLst, mkTup, asgTup, asgCons, asgNil, cntE], by
        rw [blt1 rfl (c3 k hk t ht), min_rg h1]; rfl, rfl⟩) (by omega)
    rw [h]
    rfl
  have c1 : (den c dJoined_c1).val [tabD false N A, tabD false N B, .int (N : Int), .dead, .dead, .dead] = .ok (tabD true N (joinF N A B), false) [tabD false N A, tabD false N B, .int (N : Int), .dead, .dead, .dead] := by
    have h := comp_map (c := c) (elt := dJoined_e1) (tg := .var 3) (it := .var 0) (own := [3]) (src := .fix (rg N fun k => rowD false N (A k))) (n := N) (fun k => rowD false N (A k)) (fun k => rowD true N (joinF N A B k)) [tabD false N A, tabD false N B, .int (N : Int), .dead, .dead, .dead]
      (g := [tabD false N A, tabD false N B, .int (N : Int), .dead, .dead, .dead]) (g0 := [tabD false N A, tabD false N B, .int (N : Int), .dead, .dead, .dead])
      (by simp [i_var, isLive, iterV, iterL, v_cst, v_glb, v_var, v_bin, t_cmp, v_cmp, v_neg, v_not, t_not, t_and, t_or, v_and, v_or, v_ife, l_nil, l_cons, v_tup, v_lst, v_idx, v_slc, p_part, v_rev, v_blt, v_mv, v_frz, t_nil, t_var, t_idx, t_blt, s_var, s_tup, s_cons, s_nil, w_skip, w_seq, w_expr, w_asg, w_par, w_ret, w_if, w_kill, rb_ok, rs_ok, sb_nx, sb_rt, o_some, varD, mvD, mkV, late, quiet, isVar, own1, D.isDead, D.pers, partI, binD, cmpD, eqD, truD, bltD, idxD, allOwn, mkLst, mkTup, asgTup, asgCons, asgNil, cntE]) rfl len_fix rfl (fun t ht => fix_rg ht) (fun k hk => ⟨[tabD false N A, tabD false N B, .int (N : Int), rowD false N (A k), .dead, .dead], [tabD false N A, tabD false N B, .int (N : Int), rowD false N (A k), .dead, .dead], by simp [v_cst, v_glb, v_var, v_bin, t_cmp, v_cmp, v_neg, v_not, t_not, t_and, t_or, v_and, v_or, v_ife, l_nil, l_cons, v_tup, v_lst, v_idx, v_slc, p_part, v_rev, v_blt, v_mv, v_frz, t_nil, t_var, t_idx, t_blt, s_var, s_tup, s_cons, s_nil, w_skip, w_seq, w_expr, w_asg, w_par, w_ret, w_if, w_kill, rb_ok, rs_ok, sb_nx, sb_rt, o_some, varD, mvD, mkV, late, quiet, isVar, own1, D.isDead, D.pers, partI, binD, cmpD, eqD, truD, bltD, idxD, allOwn, mkLst, mkTup, asgTup, asgCons, asgNil, cntE], c2 k hk, rfl⟩) (by omega)
    rw [h]
    rfl
  have body : sden c dJoined.body ([tabD false N A, tabD false N B] ++ List.replicate (dJoined.nn - dJoined.np) .dead) = .rt (tabD true N (joinF N A B)) [tabD false N A, tabD false N B, .int (N : Int), .dead, .dead, .dead] := by
    show sden c (.seq (.asg (.var 2) (.blt .len (.cons (.var 0) .nil))) (.ret dJoined_c1)) [tabD false N A, tabD false N B, .dead, .dead, .dead, .dead] = _
    rw [seq_nx e1]
    exact ret_rt c1
  rw [run_rt rfl body]
  rfl
theorem least_ok {c : Str → List D → CRes} {F N : Nat} {T : Nat → Nat → Nat → Int} (h1 : 1 ≤ N) (hN : N ≤ 100) (hF1 : 1 ≤ F) (hF : F ≤ 100) : dLeast.run c [layD false F N T] = .ok (tabD true N (leastF F T)) [layD false F N T] := by
  have sz := sizeLine_eq
  have e1 : sden c (.asg (.var 1) (.blt .len (.cons (.idx (.var 0) (.cst (.int 0))) .nil))) [layD false F N T, .dead, .dead, .dead, .dead] = .nx [layD false F N T, .int (N : Int), .dead, .dead, .dead] := by
    have i1 : L2.atI (rg F fun f => tabD false N (T f)) (0 : Int) = some (tabD false N (T 0)) := atI_rg (k := 0) (by omega)
    simp [v_cst, v_glb, v_var, v_bin, t_cmp, v_cmp, v_neg, v_not, t_not, t_and, t_or, v_and, v_or, v_ife, l_nil, l_cons, v_tup, v_lst, v_idx, v_slc, p_part, v_rev, v_blt, v_mv, v_frz, t_nil, t_var, t_idx, t_blt, s_var, s_tup, s_cons, s_nil, w_skip, w_seq, w_expr, w_asg, w_par, w_ret, w_if, w_kill, rb_ok, rs_ok, sb_nx, sb_rt, o_some, varD, mvD, mkV, late, quiet, isVar, own1, D.isDead, D.pers, partI, binD, cmpD, eqD, truD, bltD, idxD, allOwn, mkLst, mkTup, asgTup, asgCons, asgNil, cntE, i1, rg_len]
  have c3 : ∀ k, k < N → ∀ t : Nat, t < N → (den c dLeast_c3).val [layD false F N T, .int (N : Int), .int (k : Int), .int (t : Int), .dead] = .ok (rowD true F fun f => T f k t, false) [layD false F N T, .int (N : Int), .int (k : Int), .int (t : Int), .dead] := fun k hk t ht => by
    have h := comp_map (c := c) (elt := dLeast_e3) (tg := .var 4) (it := .var 0) (own := [4]) (src := .fix (rg F fun f => tabD false N (T f))) (n := F) (fun f => tabD false N (T f)) (fun f => .int (T f k t)) [layD false F N T, .int (N : Int), .int (k : Int), .int (t : Int), .dead]
      (g := [layD false F N T, .int (N : Int), .int (k : Int), .int (t : Int), .dead]) (g0 := [layD false F N T, .int (N : Int), .int (k : Int), .int (t : Int), .dead])
      (by simp [i_var, isLive, iterV, iterL, v_cst, v_glb, v_var, v_bin, t_cmp, v_cmp, v_neg, v_not, t_not, t_and, t_or, v_and, v_or, v_ife, l_nil, l_cons, v_tup, v_lst, v_idx, v_slc, p_part, v_rev, v_blt, v_mv, v_frz, t_nil, t_var, t_idx, t_blt, s_var, s_tup, s_cons, s_nil, w_skip, w_seq, w_expr, w_asg, w_par, w_ret, w_if, w_kill, rb_ok, rs_ok, sb_nx, sb_rt, o_some, varD, mvD, mkV, late, quiet, isVar, own1, D.isDead, D.pers, partI, binD, cmpD, eqD, truD, bltD, idxD, allOwn, mkLst, mkTup, asgTup, asgCons, asgNil, cntE]) rfl len_fix rfl (fun t ht => fix_rg ht) (fun f hf => ⟨[layD false F N T, .int (N : Int), .int (k : Int), .int (t : Int), tabD false N (T f)], [layD false F N T, .int (N : Int), .int (k : Int), .int (t : Int), tabD false N (T f)], by simp [v_cst, v_glb, v_var, v_bin, t_cmp, v_cmp, v_neg, v_not, t_not, t_and, t_or, v_and, v_or, v_ife, l_nil, l_cons, v_tup, v_lst, v_idx, v_slc, p_part, v_rev, v_blt, v_mv, v_frz, t_nil, t_var, t_idx, t_blt, s_var, s_tup, s_cons, s_nil, w_skip, w_seq, w_expr, w_asg, w_par, w_ret, w_if, w_kill, rb_ok, rs_ok, sb_nx, sb_rt, o_some, varD, mvD, mkV, late, quiet, isVar, own1, D.isDead, D.pers, partI, binD, cmpD, eqD, truD, bltD, idxD, allOwn, mkLst, mkTup, asgTup, asgCons, asgNil, cntE], by
        have i2 : L2.atI (rg N fun k => rowD false N (T f k)) (k : Int) = some (rowD false N (T f k)) := atI_rg hk
        have i3 : L2.atI (rg N fun t => D.int (T f k t)) (t : Int) = some (.int (T f k t)) := atI_rg ht
        simp [v_cst, v_glb, v_var, v_bin, t_cmp, v_cmp, v_neg, v_not, t_not, t_and, t_or, v_and, v_or, v_ife, l_nil, l_cons, v_tup, v_lst, v_idx, v_slc, p_part, v_rev, v_blt, v_mv, v_frz, t_nil, t_var, t_idx, t_blt, s_var, s_tup, s_cons, s_nil, w_skip, w_seq, w_expr, w_asg, w_par, w_ret, w_if, w_kill, rb_ok, rs_ok, sb_nx, sb_rt, o_some, varD, mvD, mkV, late, quiet, isVar, own1, D.isDead, D.pers, partI, binD, cmpD, eqD, truD, bltD, idxD, allOwn, mkLst, mkTup, asgTup, asgCons, asgNil, cntE, i2, i3], rfl⟩) (by omega)
    rw [h]
    rfl
  have c2 : ∀ k : Nat, k < N → (den c dLeast_c2).val [layD false F N T, .int (N : Int), .int (k : Int), .dead, .dead] = .ok (rowD true N (leastF F T k), false) [layD false F N T, .int (N : Int), .int (k : Int), .dead, .dead] := fun k hk => by
    have h := comp_map (c := c) (elt := dLeast_e2) (tg := .var 3) (it := .blt .range (.cons (.var 1) .nil)) (own := [3]) (src := .fix (rangeD 0 N)) (n := N) (fun j => .int (0 + (j : Int))) (fun t => .int (leastF F T k t)) [layD false F N T, .int (N : Int), .int (k : Int), .dead, .dead]
      (g := [layD false F N T, .int (N : Int), .int (k : Int), .dead, .dead]) (g0 := [layD false F N T, .int (N : Int), .int (k : Int), .dead, .dead])
      (range_itr (by simp [v_cst, v_glb, v_var, v_bin, t_cmp, v_cmp, v_neg, v_not, t_not, t_and, t_or, v_and, v_or, v_ife, l_nil, l_cons, v_tup, v_lst, v_idx, v_slc, p_part, v_rev, v_blt, v_mv, v_frz, t_nil, t_var, t_idx, t_blt, s_var, s_tup, s_cons, s_nil, w_skip, w_seq, w_expr, w_asg, w_par, w_ret, w_if, w_kill, rb_ok, rs_ok, sb_nx, sb_rt, o_some, varD, mvD, mkV, late, quiet, isVar, own1, D.isDead, D.pers, partI, binD, cmpD, eqD, truD, bltD, idxD, allOwn, mkLst, mkTup, asgTup, asgCons, asgNil, cntE]) (by omega)) rfl (by rw [rangeD_rg]; exact len_fix) rfl (fun t ht => by rw [rangeD_rg]; exact fix_rg ht) (fun t ht => ⟨[layD false F N T, .int (N : Int), .int (k : Int), .int (t : Int), .dead], [layD false F N T, .int (N : Int), .int (k : Int), .int (t : Int), .dead], by simp [v_cst, v_glb, v_var, v_bin, t_cmp, v_cmp, v_neg, v_not, t_not, t_and, t_or, v_and, v_or, v_ife, l_nil, l_cons, v_tup, v_lst, v_idx, v_slc, p_part, v_rev, v_blt, v_mv, v_frz, t_nil, t_var, t_idx, t_blt, s_var, s_tup, s_cons, s_nil, w_skip, w_seq, w_expr, w_asg, w_par, w_ret, w_if, w_kill, rb_ok, rs_ok, sb_nx, sb_rt, o_some, varD, mvD, mkV, late, quiet, isVar, own1, D.isDead, D.pers, partI, binD, cmpD, eqD, truD, bltD, idxD, allOwn, mkLst, mkTup, asgTup, asgCons, asgNil, cntE], by
        rw [blt1 rfl (c3 k hk t ht), min_rg hF1]; rfl, rfl⟩) (by omega)
    rw [h]
    rfl
  have c1 : (den c dLeast_c1).val [layD false F N T, .int (N : Int), .dead, .dead, .dead] = .ok (tabD true N (leastF F T), false) [layD false F N T, .int (N : Int), .dead, .dead, .dead] := by
    have h := comp_map (c := c) (elt := dLeast_e1) (tg := .var 2) (it := .blt .range (.cons (.var 1) .nil)) (own := [2]) (src := .fix (rangeD 0 N)) (n := N) (fun j => .int (0 + (j : Int))) (fun k => rowD true N (leastF F T k)) [layD false F N T, .int (N : Int), .dead, .dead, .dead]
      (g := [layD false F N T, .int (N : Int), .dead, .dead, .dead]) (g0 := [layD false F N T, .int (N : Int), .dead, .dead, .dead])
      (range_itr (by simp [v_cst, v_glb, v_var, v_bin, t_cmp, v_cmp, v_neg, v_not, t_not, t_and, t_or, v_and, v_or, v_ife, l_nil, l_cons, v_tup, v_lst, v_idx, v_slc, p_part, v_rev, v_blt, v_mv, v_frz, t_nil, t_var, t_idx, t_blt, s_var, s_tup, s_cons, s_nil, w_skip, w_seq, w_expr, w_asg, w_par, w_ret, w_if, w_kill, rb_ok, rs_ok, sb_nx, sb_rt, o_some, varD, mvD, mkV, late, quiet, isVar, own1, D.isDead, D.pers, partI, binD, cmpD, eqD, truD, bltD, idxD, allOwn, mkLst, mkTup, asgTup, asgCons, asgNil, cntE]) (by omega)) rfl (by rw [rangeD_rg]; exact len_fix) rfl (fun t ht => by rw [rangeD_rg]; exact fix_rg ht) (fun k hk => ⟨[layD false F N T, .int (N : Int), .int (k : Int), .dead, .dead], [layD false F N T, .int (N : Int), .int (k : Int), .dead, .dead], by simp [v_cst, v_glb, v_var, v_bin, t_cmp, v_cmp, v_neg, v_not, t_not, t_and, t_or, v_and, v_or, v_ife, l_nil, l_cons, v_tup, v_lst, v_idx, v_slc, p_part, v_rev, v_blt, v_mv, v_frz, t_nil, t_var, t_idx, t_blt, s_var, s_tup, s_cons, s_nil, w_skip, w_seq, w_expr, w_asg, w_par, w_ret, w_if, w_kill, rb_ok, rs_ok, sb_nx, sb_rt, o_some, varD, mvD, mkV, late, quiet, isVar, own1, D.isDead, D.pers, partI, binD, cmpD, eqD, truD, bltD, idxD, allOwn, mkLst, mkTup, asgTup, asgCons, asgNil, cntE], c2 k hk, rfl⟩) (by omega)
    rw [h]
    rfl
  have body : sden c dLeast.body ([layD false F N T] ++ List.replicate (dLeast.nn - dLeast.np) .dead) = .rt (tabD true N (leastF F T)) [layD false F N T, .int (N : Int), .dead, .dead, .dead] := by
    show sden c (.seq (.asg (.var 1) (.blt .len (.cons (.idx (.var 0) (.cst (.int 0))) .nil))) (.ret dLeast_c1)) [layD false F N T, .dead, .dead, .dead, .dead] = _
    rw [seq_nx e1]
    exact ret_rt c1
  rw [run_rt rfl body]
  rfl
structure Joins (c : Str → List D → CRes) : Prop where
  joined : ∀ N A B, 1 ≤ N → N ≤ 100 → c "joined" [tabD false N A, tabD false N B] = .ok (tabD true N (joinF N A B)) [tabD false N A, tabD false N B]
  least : ∀ F N T, 1 ≤ N → N ≤ 100 → 1 ≤ F → F ≤ 100 → c "least_table" [layD false F N T] = .ok (tabD true N (leastF F T)) [layD false F N T]
theorem joinlay_ok {c : Str → List D → CRes} (hc : Joins c) {F N : Nat} {A B : Nat → Nat → Nat → Int} (h1 : 1 ≤ N) (hN : N ≤ 100) (hF : F ≤ 100) : dJoinLay.run c [layD false F N A, layD false F N B] = .ok (layD true F N (joinL N A B)) [layD false F N A, layD false F N B] := by
  have sz := sizeLine_eq
  have c1 : ∀ f, f < F → ∀ fd, (den c dJoinLay_c1).val [layD false F N A, layD false F N B, fd, .int (f : Int), .dead] = .ok (layD true (f + 1) N (fun a => joinF N (A a) (B (f - a))), false) [layD false F N A, layD false F N B, fd, .int (f : Int), .dead] := fun f hf fd => by
    have h := comp_map (c := c) (elt := dJoinLay_e1) (tg := .var 4) (it := .blt .range (.cons (.bin .add (.var 3) (.cst (.int 1))) .nil)) (own := [4]) (src := .fix (rangeD 0 (f + 1))) (n := f + 1) (fun j => .int (0 + (j : Int))) (fun a => tabD true N (joinF N (A a) (B (f - a)))) [layD false F N A, layD false F N B, fd, .int (f : Int), .dead]
      (g := [layD false F N A, layD false F N B, fd, .int (f : Int), .dead]) (g0 := [layD false F N A, layD false F N B, fd, .int (f : Int), .dead])
      (range_itr (by simp [v_cst, v_glb, v_var, v_bin, t_cmp, v_cmp, v_neg, v_not, t_not, t_and, t_or, v_and, v_or, v_ife, l_nil, l_cons, v_tup, v_lst, v_idx, v_slc, p_part, v_rev, v_blt, v_mv, v_frz, t_nil, t_var, t_idx, t_blt, s_var, s_tup, s_cons, s_nil, w_skip, w_seq, w_expr, w_asg, w_par, w_ret, w_if, w_kill, rb_ok, rs_ok, sb_nx, sb_rt, o_some, varD, mvD, mkV, late, quiet, isVar, own1, D.isDead, D.pers, partI, binD, cmpD, eqD, truD, bltD, idxD, allOwn, mkLst, mkTup, asgTup, asgCons, asgNil, cntE]) (by omega)) rfl (by rw [rangeD_rg]; exact len_fix) rfl (fun t ht => by rw [rangeD_rg]; exact fix_rg ht) (fun a ha => ⟨[layD false F N A, layD false F N B, fd, .int (f : Int), .int (a : Int)], [layD false F N A, layD false F N B, fd, .int (f : Int), .int (a : Int)], by simp [v_cst, v_glb, v_var, v_bin, t_cmp, v_cmp, v_neg, v_not, t_not, t_and, t_or, v_and, v_or, v_ife, l_nil, l_cons, v_tup, v_lst, v_idx, v_slc, p_part, v_rev, v_blt, v_mv, v_frz, t_nil, t_var, t_idx, t_blt, s_var, s_tup, s_cons, s_nil, w_skip, w_seq, w_expr, w_asg, w_par, w_ret, w_if, w_kill, rb_ok, rs_ok, sb_nx, sb_rt, o_some, varD, mvD, mkV, late, quiet, isVar, own1, D.isDead, D.pers, partI, binD, cmpD, eqD, truD, bltD, idxD, allOwn, mkLst, mkTup, asgTup, asgCons, asgNil, cntE], by
        have i1 : L2.atI (rg F fun f => tabD false N (A f)) (a : Int) = some (tabD false N (A a)) := atI_rg (by omega)
        have i2 : L2.atI (rg F fun f => tabD false N (B f)) ((f : Int) - (a : Int)) = some (tabD false N (B (f - a))) := by
          rw [atI_rgI (by omega) (by omega)]
          congr 4
          omega
        exact call_vv rfl rfl (x := tabD false N (A a)) (y := tabD false N (B (f - a))) (by simp [v_cst, v_glb, v_var, v_bin, t_cmp, v_cmp, v_neg, v_not, t_not, t_and, t_or, v_and, v_or, v_ife, l_nil, l_cons, v_tup, v_lst, v_idx, v_slc, p_part, v_rev, v_blt, v_mv, v_frz, t_nil, t_var, t_idx, t_blt, s_var, s_tup, s_cons, s_nil, w_skip, w_seq, w_expr, w_asg, w_par, w_ret, w_if, w_kill, rb_ok, rs_ok, sb_nx, sb_rt, o_some, varD, mvD, mkV, late, quiet, isVar, own1, D.isDead, D.pers, partI, binD, cmpD, eqD, truD, bltD, idxD, allOwn, mkLst, mkTup, asgTup, asgCons, asgNil, cntE, i1]) (by simp [v_cst, v_glb, v_var, v_bin, t_cmp, v_cmp, v_neg, v_not, t_not, t_and, t_or, v_and, v_or, v_ife, l_nil, l_cons, v_tup, v_lst, v_idx, v_slc, p_part, v_rev, v_blt, v_mv, v_frz, t_nil, t_var, t_idx, t_blt, s_var, s_tup, s_cons, s_nil, w_skip, w_seq, w_expr, w_asg, w_par, w_ret, w_if, w_kill, rb_ok, rs_ok, sb_nx, sb_rt, o_some, varD, mvD, mkV, late, quiet, isVar, own1, D.isDead, D.pers, partI, binD, cmpD, eqD, truD, bltD, idxD, allOwn, mkLst, mkTup, asgTup, asgCons, asgNil, cntE, i2]) (hc.joined N _ _ h1 hN) rfl, rfl⟩) (by omega)
    rw [h]
    rfl
  have h := for_fn (c := c) (t := .var 3) (it := .blt .range (.cons (.blt .len (.cons (.var 0) .nil)) .nil)) (b := dJoinLay_b1) (src := .fix (rangeD 0 F)) (n := F) (g := [layD false F N A, layD false F N B, .lst true [], .dead, .dead]) (fun f => .int (0 + (f : Int))) (fun f => [layD false F N A, layD false F N B, .lst true (rg f fun f => tabD true N (joinL N A B f)), .dead, .dead])
    (range_itr (by simp [v_cst, v_glb, v_var, v_bin, t_cmp, v_cmp, v_neg, v_not, t_not, t_and, t_or, v_and, v_or, v_ife, l_nil, l_cons, v_tup, v_lst, v_idx, v_slc, p_part, v_rev, v_blt, v_mv, v_frz, t_nil, t_var, t_idx, t_blt, s_var, s_tup, s_cons, s_nil, w_skip, w_seq, w_expr, w_asg, w_par, w_ret, w_if, w_kill, rb_ok, rs_ok, sb_nx, sb_rt, o_some, varD, mvD, mkV, late, quiet, isVar, own1, D.isDead, D.pers, partI, binD, cmpD, eqD, truD, bltD, idxD, allOwn, mkLst, mkTup, asgTup, asgCons, asgNil, cntE, rg_len, rg_zero]) (by omega)) rfl (by rw [rangeD_rg]; exact len_fix) (fun t ht => by rw [rangeD_rg]; exact fix_rg ht) (fun f hf => by
      refine ⟨[layD false F N A, layD false F N B, .lst true (rg f fun f => tabD true N (joinL N A B f)), .int (f : Int), .dead], by simp [v_cst, v_glb, v_var, v_bin, t_cmp, v_cmp, v_neg, v_not, t_not, t_and, t_or, v_and, v_or, v_ife, l_nil, l_cons, v_tup, v_lst, v_idx, v_slc, p_part, v_rev, v_blt, v_mv, v_frz, t_nil, t_var, t_idx, t_blt, s_var, s_tup, s_cons, s_nil, w_skip, w_seq, w_expr, w_asg, w_par, w_ret, w_if, w_kill, rb_ok, rs_ok, sb_nx, sb_rt, o_some, varD, mvD, mkV, late, quiet, isVar, own1, D.isDead, D.pers, partI, binD, cmpD, eqD, truD, bltD, idxD, allOwn, mkLst, mkTup, asgTup, asgCons, asgNil, cntE], .inl ?_⟩
      have cl : (den c (.call "least_table" (.cons (.frz dJoinLay_c1) .nil))).val [layD false F N A, layD false F N B, .lst true (rg f fun f => tabD true N (joinL N A B f)), .int (f : Int), .dead] = .ok (tabD true N (joinL N A B f), false) [layD false F N A, layD false F N B, .lst true (rg f fun f => tabD true N (joinL N A B f)), .int (f : Int), .dead] := by
        refine call_v1 rfl (x := layD false (f + 1) N (fun a => joinF N (A a) (B (f - a)))) ?_ (hc.least (f + 1) N _ h1 hN (by omega) (by omega))
        rw [v_frz, c1 f hf]
        simp only [rb_ok, if_true, frz_lay]
      rw [kill_nx (app_lst rfl (.inr trivial) cl rfl rfl (by rw [rg_len]; omega)), rg_snoc]
      rfl)
  have body : sden c dJoinLay.body ([layD false F N A, layD false F N B] ++ List.replicate (dJoinLay.nn - dJoinLay.np) .dead) = .rt (layD true F N (joinL N A B)) [layD false F N A, layD false F N B, .dead, .dead, .dead] := by
    have e0 : sden c (.asg (.var 2) (.lstE .nil)) [layD false F N A, layD false F N B, .dead, .dead, .dead] = .nx [layD false F N A, layD false F N B, .lst true [], .dead, .dead] := by simp [v_cst, v_glb, v_var, v_bin, t_cmp, v_cmp, v_neg, v_not, t_not, t_and, t_or, v_and, v_or, v_ife, l_nil, l_cons, v_tup, v_lst, v_idx, v_slc, p_part, v_rev, v_blt, v_mv, v_frz, t_nil, t_var, t_idx, t_blt, s_var, s_tup, s_cons, s_nil, w_skip, w_seq, w_expr, w_asg, w_par, w_ret, w_if, w_kill, rb_ok, rs_ok, sb_nx, sb_rt, o_some, varD, mvD, mkV, late, quiet, isVar, own1, D.isDead, D.pers, partI, binD, cmpD, eqD, truD, bltD, idxD, allOwn, mkLst, mkTup, asgTup, asgCons, asgNil, cntE]
    show sden c (.seq (.asg (.var 2) (.lstE .nil)) (.seq (.kill [3] dJoinLay_f1) (.ret (.mv 2)))) [layD false F N A, layD false F N B, .dead, .dead, .dead] = _
    rw [seq_nx e0, seq_nx (kill_nx h)]
    simp [wipe, v_cst, v_glb, v_var, v_bin, t_cmp, v_cmp, v_neg, v_not, t_not, t_and, t_or, v_and, v_or, v_ife, l_nil, l_cons, v_tup, v_lst, v_idx, v_slc, p_part, v_rev, v_blt, v_mv, v_frz, t_nil, t_var, t_idx, t_blt, s_var, s_tup, s_cons, s_nil, w_skip, w_seq, w_expr, w_asg, w_par, w_ret, w_if, w_kill, rb_ok, rs_ok, sb_nx, sb_rt, o_some, varD, mvD, mkV, late, quiet, isVar, own1, D.isDead, D.pers, partI, binD, cmpD, eqD, truD, bltD, idxD, allOwn, mkLst, mkTup, asgTup, asgCons, asgNil, cntE]
  rw [run_rt rfl body]
  rfl
end Bm

set_option maxHeartbeats 4000000
/-! B41: drawn places, drawn gates; lists that are each of their own. -/
namespace Bm
open PySem
def dPlaces : Def := ⟨3,  3,
  (.ret (.bin .add (.var 1) (.call "_law_take" (.cons (.var 0) (.cons (.bin .add (.bin .sub (.var 2) (.var 1)) (.cst (.int 1))) .nil)))))⟩
abbrev dGates_i1 : S := (.ifS (.cmp .eq (.var 3) (.cst (.int 1))) (.asg (.var 7) (.bin .add (.cst (.int 1)) (.bin .mod (.bin .add (.var 4) (.var 6)) (.bin .sub (.var 1) (.cst (.int 1)))))) .skip)
abbrev dGates_i2 : S := (.ifS (.cmp .eq (.var 3) (.cst (.int 2))) (.asg (.var 7) (.bin .sub (.bin .sub (.var 1) (.cst (.int 1))) (.bin .mod (.bin .add (.var 4) (.var 6)) (.bin .sub (.var 1) (.cst (.int 1)))))) .skip)
abbrev dGates_i3 : S := (.ifS (.andE (.cmp .eq (.var 3) (.cst (.int 3))) (.cmp .gt (.bin .mod (.var 7) (.cst (.int 3))) (.cst (.int 0)))) (.asg (.var 7) (.bin .add (.cst (.int 1)) (.bin .mod (.bin .add (.var 4) (.bin .mod (.var 6) (.cst (.int 2)))) (.bin .sub (.var 1) (.cst (.int 1)))))) .skip)
abbrev dGates_b1 : S := (.kill [ 6 , 7 ] (.seq (.asg (.var 7) (.bin .add (.cst (.int 1)) (.call "_law_take" (.cons (.var 0) (.cons (.bin .sub (.var 1) (.cst (.int 1))) .nil))))) (.seq dGates_i1 (.seq dGates_i2 (.seq dGates_i3 (.expr (.lm .append (.var 5) (.cons (.mv 7) .nil))))))))
abbrev dGates_f1 : S := (.forS (.var 6) (.blt .range (.cons (.bin .mul (.call "_law_take" (.cons (.var 0) (.cons (.bin .add (.var 2) (.cst (.int 1))) .nil))) (.blt .int (.cons (.cmp .gt (.var 1) (.cst (.int 1))) .nil))) .nil)) dGates_b1)
def dGates : Def := ⟨3,  8,
  (.seq (.par [ 3 , 4 ] (.cons (.call "_law_take" (.cons (.var 0) (.cons (.cst (.int 4)) .nil))) (.cons (.call "_law_take" (.cons (.var 0) (.cons (.cst (.int 12)) .nil))) .nil))) (.seq (.asg (.var 5) (.lstE .nil)) (.seq (.kill [ 6 , 7 ] dGates_f1) (.ret (.mv 5)))))⟩
theorem places_ok {c : Str → List D → CRes} (hc : Draws c) {bag : D} (hb : Bag bag) {a b : Int} (h : a ≤ b) (h2 : b - a ≤ 1000000) : ∃ v bag', dPlaces.run c [bag, .int a, .int b] = .ok (.int v) [bag', .int a, .int b] ∧ Bag bag' ∧ a ≤ v ∧ v ≤ b := by
  have hb1 := hb.not_pers
  obtain ⟨v, bag', e, hb', h3, h4⟩ := draw_call (c := c) hc (i := 0) (m := .bin .add (.bin .sub (.var 2) (.var 1)) (.cst (.int 1))) (g := [bag, .int a, .int b]) (many := b - a + 1) rfl hb rfl (by simp [v_cst, v_glb, v_var, v_bin, t_cmp, v_cmp, v_neg, v_not, t_not, t_and, t_or, v_and, v_or, v_ife, l_nil, l_cons, v_tup, v_lst, v_idx, v_slc, p_part, v_rev, v_blt, v_mv, v_frz, t_nil, t_var, t_idx, t_blt, s_var, s_tup, s_cons, s_nil, w_skip, w_seq, w_expr, w_asg, w_par, w_ret, w_if, w_kill, rb_ok, rs_ok, sb_nx, sb_rt, o_some, varD, mvD, mkV, late, quiet, isVar, own1, D.isDead, D.pers, partI, b_add, b_sub, b_mod, c_lt, c_le, c_gt, c_ge, c_eq, c_ne, e_int, e_str, truD, f_len, f_lenT, f_min2, f_max2, f_intB, f_intI, idxD, allOwn, mkLst, mkTup, asgTup, asgCons, asgNil, cntE]) (by omega) (by omega)
  refine ⟨a + v, bag', ?_, hb', by omega, by omega⟩
  have body : sden c dPlaces.body ([bag, .int a, .int b] ++ List.replicate (dPlaces.nn - dPlaces.np) .dead) = .rt (.int (a + v)) [bag', .int a, .int b] := by
    show sden c (.ret (.bin .add (.var 1) (.call "_law_take" (.cons (.var 0) (.cons (.bin .add (.bin .sub (.var 2) (.var 1)) (.cst (.int 1))) .nil))))) [bag, .int a, .int b] = _
    simp [w_ret, v_bin, v_var, varD, mkV, e, rb_ok, rs_ok, late, ofO, binD, own1, D.isDead, D.pers]
  rw [run_rt rfl body]
  rfl
def GateOk (p : Nat) (g : Nat) : Prop := 1 ≤ g ∧ g + 1 ≤ p
theorem gate_turn {c : Str → List D → CRes} (hc : Draws c) {bag : D} (hb : Bag bag) {p k : Nat} {most way at_ : Int} {gs : List Nat} (hp : 2 ≤ p) (hp2 : p ≤ 1000) (hl : gs.length ≤ 10000) : ∃ bag' g, Bag bag' ∧ GateOk p g ∧
    sden c dGates_b1 [bag, .int (p : Int), .int most, .int way, .int at_, gsD true gs, .int (k : Int), .dead] = .nx [bag', .int (p : Int), .int most, .int way, .int at_, gsD true (gs ++ [g]), .dead, .dead] := by
  have sz := sizeLine_eq
  obtain ⟨v, bag', e, hb', h3, h4⟩ := draw_call (c := c) hc (i := 0) (m := .bin .sub (.var 1) (.cst (.int 1))) (g := [bag, .int (p : Int), .int most, .int way, .int at_, gsD true gs, .int (k : Int), .dead]) (many := (p : Int) - 1) rfl hb rfl (by simp [v_cst, v_glb, v_var, v_bin, t_cmp, v_cmp, v_neg, v_not, t_not, t_and, t_or, v_and, v_or, v_ife, l_nil, l_cons, v_tup, v_lst, v_idx, v_slc, p_part, v_rev, v_blt, v_mv, v_frz, t_nil, t_var, t_idx, t_blt, s_var, s_tup, s_cons, s_nil, w_skip, w_seq, w_expr, w_asg, w_par, w_ret, w_if, w_kill, rb_ok, rs_ok, sb_nx, sb_rt, o_some, varD, mvD, mkV, late, quiet, isVar, own1, D.isDead, D.pers, partI, b_add, b_sub, b_mod, c_lt, c_le, c_gt, c_ge, c_eq, c_ne, e_int, e_str, truD, f_len, f_lenT, f_min2, f_max2, f_intB, f_intI, idxD, allOwn, mkLst, mkTup, asgTup, asgCons, asgNil, cntE]) (by omega) (by omega)
  have hbp := hb'.not_pers
  have e1 : sden c (.asg (.var 7) (.bin .add (.cst (.int 1)) (.call "_law_take" (.cons (.var 0) (.cons (.bin .sub (.var 1) (.cst (.int 1))) .nil))))) [bag, .int (p : Int), .int most, .int way, .int at_, gsD true gs, .int (k : Int), .dead] = .nx [bag', .int (p : Int), .int most, .int way, .int at_, gsD true gs, .int (k : Int), .int (1 + v)] := by
    simp [w_asg, v_bin, v_cst, e, rb_ok, rs_ok, late, ofO, binD, own1, s_var]
  have pp : (0 : Int) < (p : Int) - 1 := by omega
  have bm : ∀ i l l', binD .mod (.at (.int i), l) (.at (.int ((p : Int) - 1)), l') = some (.int (i % ((p : Int) - 1)), false) := fun i l l' => b_mod pp
  have m1 := Int.emod_nonneg (at_ + (k : Int)) (show (p : Int) - 1 ≠ 0 by omega)
  have m2 := Int.emod_lt_of_pos (at_ + (k : Int)) pp
  have m3 := Int.emod_nonneg (at_ + (k : Int) % 2) (show (p : Int) - 1 ≠ 0 by omega)
  have m4 := Int.emod_lt_of_pos (at_ + (k : Int) % 2) pp
  obtain ⟨z1, y1, y2, e2⟩ : ∃ z : Int, 1 ≤ z ∧ z ≤ p - 1 ∧ sden c dGates_i1 [bag', .int (p : Int), .int most, .int way, .int at_, gsD true gs, .int (k : Int), .int (1 + v)] = .nx [bag', .int (p : Int), .int most, .int way, .int at_, gsD true gs, .int (k : Int), .int z] := by
    by_cases w : way = 1
    · exact ⟨1 + (at_ + (k : Int)) % ((p : Int) - 1), by omega, by omega, by simp [v_cst, v_glb, v_var, v_bin, t_cmp, v_cmp, v_neg, v_not, t_not, t_and, t_or, v_and, v_or, v_ife, l_nil, l_cons, v_tup, v_lst, v_idx, v_slc, p_part, v_rev, v_blt, v_mv, v_frz, t_nil, t_var, t_idx, t_blt, s_var, s_tup, s_cons, s_nil, w_skip, w_seq, w_expr, w_asg, w_par, w_ret, w_if, w_kill, rb_ok, rs_ok, sb_nx, sb_rt, o_some, varD, mvD, mkV, late, quiet, isVar, own1, D.isDead, D.pers, partI, b_add, b_sub, b_mod, c_lt, c_le, c_gt, c_ge, c_eq, c_ne, e_int, e_str, truD, f_len, f_lenT, f_min2, f_max2, f_intB, f_intI, idxD, allOwn, mkLst, mkTup, asgTup, asgCons, asgNil, cntE, w, bm]⟩
    · exact ⟨1 + v, by omega, by omega, by simp [v_cst, v_glb, v_var, v_bin, t_cmp, v_cmp, v_neg, v_not, t_not, t_and, t_or, v_and, v_or, v_ife, l_nil, l_cons, v_tup, v_lst, v_idx, v_slc, p_part, v_rev, v_blt, v_mv, v_frz, t_nil, t_var, t_idx, t_blt, s_var, s_tup, s_cons, s_nil, w_skip, w_seq, w_expr, w_asg, w_par, w_ret, w_if, w_kill, rb_ok, rs_ok, sb_nx, sb_rt, o_some, varD, mvD, mkV, late, quiet, isVar, own1, D.isDead, D.pers, partI, b_add, b_sub, b_mod, c_lt, c_le, c_gt, c_ge, c_eq, c_ne, e_int, e_str, truD, f_len, f_lenT, f_min2, f_max2, f_intB, f_intI, idxD, allOwn, mkLst, mkTup, asgTup, asgCons, asgNil, cntE, w, bm]⟩
  obtain ⟨z2, y3, y4, e3⟩ : ∃ z : Int, 1 ≤ z ∧ z ≤ p - 1 ∧ sden c dGates_i2 [bag', .int (p : Int), .int most, .int way, .int at_, gsD true gs, .int (k : Int), .int z1] = .nx [bag', .int (p : Int), .int most, .int way, .int at_, gsD true gs, .int (k : Int), .int z] := by
    by_cases w : way = 2
    · exact ⟨(p : Int) - 1 - (at_ + (k : Int)) % ((p : Int) - 1), by omega, by omega, by simp [v_cst, v_glb, v_var, v_bin, t_cmp, v_cmp, v_neg, v_not, t_not, t_and, t_or, v_and, v_or, v_ife, l_nil, l_cons, v_tup, v_lst, v_idx, v_slc, p_part, v_rev, v_blt, v_mv, v_frz, t_nil, t_var, t_idx, t_blt, s_var, s_tup, s_cons, s_nil, w_skip, w_seq, w_expr, w_asg, w_par, w_ret, w_if, w_kill, rb_ok, rs_ok, sb_nx, sb_rt, o_some, varD, mvD, mkV, late, quiet, isVar, own1, D.isDead, D.pers, partI, b_add, b_sub, b_mod, c_lt, c_le, c_gt, c_ge, c_eq, c_ne, e_int, e_str, truD, f_len, f_lenT, f_min2, f_max2, f_intB, f_intI, idxD, allOwn, mkLst, mkTup, asgTup, asgCons, asgNil, cntE, w, bm]⟩
    · exact ⟨z1, by omega, by omega, by simp [v_cst, v_glb, v_var, v_bin, t_cmp, v_cmp, v_neg, v_not, t_not, t_and, t_or, v_and, v_or, v_ife, l_nil, l_cons, v_tup, v_lst, v_idx, v_slc, p_part, v_rev, v_blt, v_mv, v_frz, t_nil, t_var, t_idx, t_blt, s_var, s_tup, s_cons, s_nil, w_skip, w_seq, w_expr, w_asg, w_par, w_ret, w_if, w_kill, rb_ok, rs_ok, sb_nx, sb_rt, o_some, varD, mvD, mkV, late, quiet, isVar, own1, D.isDead, D.pers, partI, b_add, b_sub, b_mod, c_lt, c_le, c_gt, c_ge, c_eq, c_ne, e_int, e_str, truD, f_len, f_lenT, f_min2, f_max2, f_intB, f_intI, idxD, allOwn, mkLst, mkTup, asgTup, asgCons, asgNil, cntE, w, bm]⟩
  obtain ⟨z3, y5, y6, e4⟩ : ∃ z : Int, 1 ≤ z ∧ z ≤ p - 1 ∧ sden c dGates_i3 [bag', .int (p : Int), .int most, .int way, .int at_, gsD true gs, .int (k : Int), .int z2] = .nx [bag', .int (p : Int), .int most, .int way, .int at_, gsD true gs, .int (k : Int), .int z] := by
    by_cases w : way = 3
    · by_cases w2 : 0 < z2 % 3
      · exact ⟨1 + (at_ + (k : Int) % 2) % ((p : Int) - 1), by omega, by omega, by simp [v_cst, v_glb, v_var, v_bin, t_cmp, v_cmp, v_neg, v_not, t_not, t_and, t_or, v_and, v_or, v_ife, l_nil, l_cons, v_tup, v_lst, v_idx, v_slc, p_part, v_rev, v_blt, v_mv, v_frz, t_nil, t_var, t_idx, t_blt, s_var, s_tup, s_cons, s_nil, w_skip, w_seq, w_expr, w_asg, w_par, w_ret, w_if, w_kill, rb_ok, rs_ok, sb_nx, sb_rt, o_some, varD, mvD, mkV, late, quiet, isVar, own1, D.isDead, D.pers, partI, b_add, b_sub, b_mod, c_lt, c_le, c_gt, c_ge, c_eq, c_ne, e_int, e_str, truD, f_len, f_lenT, f_min2, f_max2, f_intB, f_intI, idxD, allOwn, mkLst, mkTup, asgTup, asgCons, asgNil, cntE, w, w2, bm]⟩
      · exact ⟨z2, by omega, by omega, by simp [v_cst, v_glb, v_var, v_bin, t_cmp, v_cmp, v_neg, v_not, t_not, t_and, t_or, v_and, v_or, v_ife, l_nil, l_cons, v_tup, v_lst, v_idx, v_slc, p_part, v_rev, v_blt, v_mv, v_frz, t_nil, t_var, t_idx, t_blt, s_var, s_tup, s_cons, s_nil, w_skip, w_seq, w_expr, w_asg, w_par, w_ret, w_if, w_kill, rb_ok, rs_ok, sb_nx, sb_rt, o_some, varD, mvD, mkV, late, quiet, isVar, own1, D.isDead, D.pers, partI, b_add, b_sub, b_mod, c_lt, c_le, c_gt, c_ge, c_eq, c_ne, e_int, e_str, truD, f_len, f_lenT, f_min2, f_max2, f_intB, f_intI, idxD, allOwn, mkLst, mkTup, asgTup, asgCons, asgNil, cntE, w, w2, bm]⟩
    · exact ⟨z2, by omega, by omega, by simp [v_cst, v_glb, v_var, v_bin, t_cmp, v_cmp, v_neg, v_not, t_not, t_and, t_or, v_and, v_or, v_ife, l_nil, l_cons, v_tup, v_lst, v_idx, v_slc, p_part, v_rev, v_blt, v_mv, v_frz, t_nil, t_var, t_idx, t_blt, s_var, s_tup, s_cons, s_nil, w_skip, w_seq, w_expr, w_asg, w_par, w_ret, w_if, w_kill, rb_ok, rs_ok, sb_nx, sb_rt, o_some, varD, mvD, mkV, late, quiet, isVar, own1, D.isDead, D.pers, partI, b_add, b_sub, b_mod, c_lt, c_le, c_gt, c_ge, c_eq, c_ne, e_int, e_str, truD, f_len, f_lenT, f_min2, f_max2, f_intB, f_intI, idxD, allOwn, mkLst, mkTup, asgTup, asgCons, asgNil, cntE, w, bm]⟩
  obtain ⟨g, rfl⟩ := Int.eq_ofNat_of_zero_le (show 0 ≤ z3 by omega)
  refine ⟨bag', g, hb', ⟨by omega, by omega⟩, ?_⟩
  have e5 : sden c (.expr (.lm .append (.var 5) (.cons (.mv 7) .nil))) [bag', .int (p : Int), .int most, .int way, .int at_, gsD true gs, .int (k : Int), .int (g : Int)] = .nx [bag', .int (p : Int), .int most, .int way, .int at_, gsD true (gs ++ [g]), .int (k : Int), .int (g : Int)] := by
    rw [app_lst (xs := gs.map fun (g : Nat) => D.int (g : Int)) (y := .int (g : Int)) (g1 := [bag', .int (p : Int), .int most, .int way, .int at_, gsD true gs, .int (k : Int), .int (g : Int)]) rfl (.inr trivial) rfl rfl rfl (by simp; omega)]
    simp
  have h5 : sden c (.seq (.asg (.var 7) (.bin .add (.cst (.int 1)) (.call "_law_take" (.cons (.var 0) (.cons (.bin .sub (.var 1) (.cst (.int 1))) .nil))))) (.seq dGates_i1 (.seq dGates_i2 (.seq dGates_i3 (.expr (.lm .append (.var 5) (.cons (.mv 7) .nil))))))) [bag, .int (p : Int), .int most, .int way, .int at_, gsD true gs, .int (k : Int), .dead] = .nx [bag', .int (p : Int), .int most, .int way, .int at_, gsD true (gs ++ [g]), .int (k : Int), .int (g : Int)] := by
    rw [seq_nx e1, seq_nx e2, seq_nx e3, seq_nx e4, e5]
  rw [kill_nx h5]
  rfl
theorem gates_ok {c : Str → List D → CRes} (hc : Draws c) {bag : D} (hb : Bag bag) {p most : Nat} (hp : 1 ≤ p) (hp2 : p ≤ 1000) (hm : most ≤ 1000) : ∃ gs bag', dGates.run c [bag, .int (p : Int), .int (most : Int)] = .ok (gsD true gs) [bag', .int (p : Int), .int (most : Int)] ∧ Bag bag' ∧ gs.length ≤ most ∧ ∀ g, g ∈ gs → GateOk p g := by
  have sz := sizeLine_eq
  obtain ⟨way, b1, d1, hb1, _, _⟩ := draw_call (c := c) hc (i := 0) (m := .cst (.int 4)) (g := [bag, .int (p : Int), .int (most : Int), .dead, .dead, .dead, .dead, .dead]) (many := 4) rfl hb rfl rfl (by omega) (by omega)
  obtain ⟨at_, b2, d2, hb2, _, _⟩ := draw_call (c := c) hc (i := 0) (m := .cst (.int 12)) (g := [b1, .int (p : Int), .int (most : Int), .dead, .dead, .dead, .dead, .dead]) (many := 12) rfl hb1 rfl rfl (by omega) (by omega)
  have e1 : sden c (.par [3, 4] (.cons (.call "_law_take" (.cons (.var 0) (.cons (.cst (.int 4)) .nil))) (.cons (.call "_law_take" (.cons (.var 0) (.cons (.cst (.int 12)) .nil))) .nil))) [bag, .int (p : Int), .int (most : Int), .dead, .dead, .dead, .dead, .dead] = .nx [b2, .int (p : Int), .int (most : Int), .int way, .int at_, .dead, .dead, .dead] := by
    simp only [List.set_cons_zero] at d1 d2
    simp [w_par, l_cons, l_nil, d1, d2, rb_ok, rs_ok, late, allOwn, setAll]
  have e2 : sden c (.asg (.var 5) (.lstE .nil)) [b2, .int (p : Int), .int (most : Int), .int way, .int at_, .dead, .dead, .dead] = .nx [b2, .int (p : Int), .int (most : Int), .int way, .int at_, .lst true [], .dead, .dead] := by simp [v_cst, v_glb, v_var, v_bin, t_cmp, v_cmp, v_neg, v_not, t_not, t_and, t_or, v_and, v_or, v_ife, l_nil, l_cons, v_tup, v_lst, v_idx, v_slc, p_part, v_rev, v_blt, v_mv, v_frz, t_nil, t_var, t_idx, t_blt, s_var, s_tup, s_cons, s_nil, w_skip, w_seq, w_expr, w_asg, w_par, w_ret, w_if, w_kill, rb_ok, rs_ok, sb_nx, sb_rt, o_some, varD, mvD, mkV, late, quiet, isVar, own1, D.isDead, D.pers, partI, b_add, b_sub, b_mod, c_lt, c_le, c_gt, c_ge, c_eq, c_ne, e_int, e_str, truD, f_len, f_lenT, f_min2, f_max2, f_intB, f_intI, idxD, allOwn, mkLst, mkTup, asgTup, asgCons, asgNil, cntE]
  obtain ⟨v, b3, d3, hb3, v0, v1⟩ := draw_call (c := c) hc (i := 0) (m := .bin .add (.var 2) (.cst (.int 1))) (g := [b2, .int (p : Int), .int (most : Int), .int way, .int at_, .lst true [], .dead, .dead]) (many := (most : Int) + 1) rfl hb2 rfl (by simp [v_cst, v_glb, v_var, v_bin, t_cmp, v_cmp, v_neg, v_not, t_not, t_and, t_or, v_and, v_or, v_ife, l_nil, l_cons, v_tup, v_lst, v_idx, v_slc, p_part, v_rev, v_blt, v_mv, v_frz, t_nil, t_var, t_idx, t_blt, s_var, s_tup, s_cons, s_nil, w_skip, w_seq, w_expr, w_asg, w_par, w_ret, w_if, w_kill, rb_ok, rs_ok, sb_nx, sb_rt, o_some, varD, mvD, mkV, late, quiet, isVar, own1, D.isDead, D.pers, partI, b_add, b_sub, b_mod, c_lt, c_le, c_gt, c_ge, c_eq, c_ne, e_int, e_str, truD, f_len, f_lenT, f_min2, f_max2, f_intB, f_intI, idxD, allOwn, mkLst, mkTup, asgTup, asgCons, asgNil, cntE]) (by omega) (by omega)
  obtain ⟨n, hn, hn2, hn3⟩ : ∃ n : Nat, v * (if 1 < (p : Int) then 1 else 0) = (n : Int) ∧ n ≤ most ∧ (0 < n → 2 ≤ p) := by
    obtain ⟨w, rfl⟩ := Int.eq_ofNat_of_zero_le v0
    by_cases h : 1 < (p : Int)
    · exact ⟨w, by simp [h], by omega, fun _ => by omega⟩
    · exact ⟨0, by simp [h], by omega, fun h => by omega⟩
  have hi : (den c (.blt .range (.cons (.bin .mul (.call "_law_take" (.cons (.var 0) (.cons (.bin .add (.var 2) (.cst (.int 1))) .nil))) (.blt .int (.cons (.cmp .gt (.var 1) (.cst (.int 1))) .nil))) .nil))).itr [b2, .int (p : Int), .int (most : Int), .int way, .int at_, .lst true [], .dead, .dead] = .ok (.fix (rangeD 0 n)) [b3, .int (p : Int), .int (most : Int), .int way, .int at_, .lst true [], .dead, .dead] := by
    have ml : mulOk v (if 1 < (p : Int) then 1 else 0) = true := by
      unfold mulOk
      rw [Bool.or_eq_true]
      refine .inr (decide_eq_true ⟨?_, ?_⟩) <;> split <;> decide
    have bx : bltD .int [(D.bl (decide (1 < (p : Int))), false)] = some (.int (if 1 < (p : Int) then 1 else 0), false) := by
      by_cases h : 1 < (p : Int)
      · simp [bltD, h]
      · simp [bltD, h]
    have l1 : (den c (.cons (.bin .mul (.call "_law_take" (.cons (.var 0) (.cons (.bin .add (.var 2) (.cst (.int 1))) .nil))) (.blt .int (.cons (.cmp .gt (.var 1) (.cst (.int 1))) .nil))) .nil)).lst [b2, .int (p : Int), .int (most : Int), .int way, .int at_, .lst true [], .dead, .dead] = .ok [(.int (n : Int), false)] [b3, .int (p : Int), .int (most : Int), .int way, .int at_, .lst true [], .dead, .dead] := by
      have i2 : (den c (.blt .int (.cons (.cmp .gt (.var 1) (.cst (.int 1))) .nil))).val [b3, .int (p : Int), .int (most : Int), .int way, .int at_, .lst true [], .dead, .dead] = .ok (.int (if 1 < (p : Int) then 1 else 0), false) [b3, .int (p : Int), .int (most : Int), .int way, .int at_, .lst true [], .dead, .dead] := by
        rw [blt1 (v := .bl (decide (1 < (p : Int)))) (g1 := [b3, .int (p : Int), .int (most : Int), .int way, .int at_, .lst true [], .dead, .dead]) rfl (by simp [v_cst, v_glb, v_var, v_bin, t_cmp, v_cmp, v_neg, v_not, t_not, t_and, t_or, v_and, v_or, v_ife, l_nil, l_cons, v_tup, v_lst, v_idx, v_slc, p_part, v_rev, v_blt, v_mv, v_frz, t_nil, t_var, t_idx, t_blt, s_var, s_tup, s_cons, s_nil, w_skip, w_seq, w_expr, w_asg, w_par, w_ret, w_if, w_kill, rb_ok, rs_ok, sb_nx, sb_rt, o_some, varD, mvD, mkV, late, quiet, isVar, own1, D.isDead, D.pers, partI, b_add, b_sub, b_mod, c_lt, c_le, c_gt, c_ge, c_eq, c_ne, e_int, e_str, truD, f_len, f_lenT, f_min2, f_max2, f_intB, f_intI, idxD, allOwn, mkLst, mkTup, asgTup, asgCons, asgNil, cntE]), bx]
        rfl
      simp only [List.set_cons_zero] at d3
      rw [l_cons, v_bin, d3]
      simp only [rb_ok, i2, late, quiet, Bool.false_and, Bool.and_false, Bool.false_eq_true, if_false, Option.map, o_some, binD, ml, if_true, hn, l_nil]
    rw [i_range, l1, rb_ok]
    simp only [rangeS]
    rw [if_pos (smallI_nat (by omega)), o_some, Int.toNat_natCast]
  obtain ⟨g', h1, bagF, gs, hbF, hl, hg, rfl⟩ := for_P (c := c) (t := .var 6) (b := dGates_b1) (n := n) (fun k => .int (0 + (k : Int))) (fun k g => ∃ bag gs, Bag bag ∧ gs.length = k ∧ (∀ g, g ∈ gs → GateOk p g) ∧ g = [bag, .int (p : Int), .int (most : Int), .int way, .int at_, gsD true gs, .dead, .dead]) hi rfl (by rw [rangeD_rg]; exact len_fix) ⟨b3, [], hb3, rfl, fun _ h => (nomatch h), rfl⟩ (fun k g hk _ => by rw [rangeD_rg]; exact fix_rg hk) (fun k g hk hP => by
    obtain ⟨bag, gs, hb, hl, hg, rfl⟩ := hP
    obtain ⟨bag', x, hb', hx, e⟩ := gate_turn (c := c) hc hb (p := p) (k := k) (most := most) (way := way) (at_ := at_) (gs := gs) (hn3 (by omega)) hp2 (by omega)
    refine ⟨[bag, .int (p : Int), .int (most : Int), .int way, .int at_, gsD true gs, .int (k : Int), .dead], by simp [s_var], _, .inl e, bag', gs ++ [x], hb', by simp [hl], fun y hy => ?_, rfl⟩
    rcases List.mem_append.mp hy with h | h
    · exact hg y h
    · rw [List.mem_singleton.mp h]; exact hx)
  refine ⟨gs, bagF, ?_, hbF, by omega, hg⟩
  have body : sden c dGates.body ([bag, .int (p : Int), .int (most : Int)] ++ List.replicate (dGates.nn - dGates.np) .dead) = .rt (gsD true gs) [bagF, .int (p : Int), .int (most : Int), .int way, .int at_, .dead, .dead, .dead] := by
    show sden c (.seq (.par [3, 4] _) (.seq (.asg (.var 5) (.lstE .nil)) (.seq (.kill [6, 7] dGates_f1) (.ret (.mv 5))))) [bag, .int (p : Int), .int (most : Int), .dead, .dead, .dead, .dead, .dead] = _
    rw [seq_nx e1, seq_nx e2, seq_nx (kill_nx h1)]
    simp [wipe, v_cst, v_glb, v_var, v_bin, t_cmp, v_cmp, v_neg, v_not, t_not, t_and, t_or, v_and, v_or, v_ife, l_nil, l_cons, v_tup, v_lst, v_idx, v_slc, p_part, v_rev, v_blt, v_mv, v_frz, t_nil, t_var, t_idx, t_blt, s_var, s_tup, s_cons, s_nil, w_skip, w_seq, w_expr, w_asg, w_par, w_ret, w_if, w_kill, rb_ok, rs_ok, sb_nx, sb_rt, o_some, varD, mvD, mkV, late, quiet, isVar, own1, D.isDead, D.pers, partI, b_add, b_sub, b_mod, c_lt, c_le, c_gt, c_ge, c_eq, c_ne, e_int, e_str, truD, f_len, f_lenT, f_min2, f_max2, f_intB, f_intI, idxD, allOwn, mkLst, mkTup, asgTup, asgCons, asgNil, cntE]
  rw [run_rt rfl body]
  rfl
end Bm

set_option maxHeartbeats 4000000
/-! B42: loops by the items of a name's own list; lists that are each of their own. -/
namespace Bm
open PySem
theorem setO_set {g : List D} {ko : Option Nat} {i : Nat} {A d : D} (h : ∀ j, ko = some j → j ≠ i) : setO (g.set i A) ko d = (setO g ko d).set i A := by
  cases ko with
  | none => rfl
  | some j => exact List.set_comm _ _ (Ne.symm (h j rfl))
theorem setO_get {g : List D} {ko : Option Nat} {i : Nat} {d : D} (h : ∀ j, ko = some j → j ≠ i) : (setO g ko d)[i]? = g[i]? := by
  cases ko with
  | none => rfl
  | some j => exact List.getElem?_set_ne (h j rfl)
theorem setO_len {g : List D} {ko : Option Nat} {d : D} : (setO g ko d).length = g.length := by cases ko <;> simp [setO]
theorem forR_nil {c : Str → List D → CRes} {ko : Option Nat} {x i n : Nat} {b : S} {g : List D} {ys zs : Nat → D} (ok : okR ko i x = true) (hi : i < g.length) (hx : x < g.length) (hko : ∀ j, ko = some j → j < g.length) (hxd : g[x]? = some .dead) (ni : i ∉ asgS b) (nx : x ∉ asgS b)
    (cl : ∀ (j : Nat) (d : D), g[j]? = some d → j ≠ i → d.clean = true ∨ (j ∉ asgS b ∧ d.pers = true ∧ ∀ l, ko = some l → l ≠ j)) (zc : ∀ k, k < n → (zs k).clean = true ∧ (zs k).isDead = false) (yd : ∀ k, k < n → (ys k).isDead = false)
    (hb : ∀ k, k < n → ∀ T : D, T.pers = true → sden c b (((setO g ko (.int (k : Int))).set x (ys k)).set i T) = .nx ((g.set x (zs k)).set i T)) :
    sden c (.forR ko x (.var i) b) (g.set i (.lst true (rg n ys))) = .nx (g.set i (.lst true (rg n zs))) := by
  have ix : i ≠ x := by
    unfold okR at ok
    rw [Bool.and_eq_true] at ok
    exact of_decide_eq_true ok.1
  have oko : ∀ j, ko = some j → j ≠ i ∧ j ≠ x := fun j e => by
    subst e
    unfold okR at ok
    simp only [Bool.and_eq_true, decide_eq_true_eq] at ok
    exact ok.2
  have h := forR_fn (c := c) (ko := ko) (x := x) (i := i) (p := []) (a := .var i) (b := b) (n := n) (g := g.set i (.lst true (rg n ys))) (fun k => g.set i (.lst true (rg n fun j => if j < k then zs j else ys j))) (by
      simp only [Nat.not_lt_zero, if_false, p_var, varD, List.getElem?_set_self hi]
      rfl) (by
      simp only [ok, quiet, List.length_set, decide_eq_true hx, Bool.and_true, Bool.true_and]
      rw [List.all_eq_true]
      intro j hj
      exact decide_eq_true (hko j (by simpa using hj))) (by unfold getG; rw [List.getElem?_set_self hi]; rfl) (by unfold lenR getG; rw [List.getElem?_set_self hi]; simp [getP, rg_len]) (fun k hk => by
      have hd : (rg n fun j => if j < k then zs j else ys j)[k]? = some (ys k) := by rw [rg_get hk, if_neg (Nat.lt_irrefl k)]
      have hs : setG (g.set i (.lst true (rg n fun j => if j < k then zs j else ys j))) i ([] ++ [k]) .dead = g.set i (.lst true ((rg n fun j => if j < k then zs j else ys j).set k .dead)) := by
        unfold setG
        rw [List.getElem?_set_self hi]
        simp only [List.nil_append, setP, hd, List.set_set]
      have hh := hole_is (g := g.set i (.lst true (rg n fun j => if j < k then zs j else ys j))) (ko := ko) (i := i) (x := x) (k := k) (p := []) (by unfold getG; rw [List.getElem?_set_self hi]; rfl) hd (yd k hk) (t := .lst true ((rg n fun j => if j < k then zs j else ys j).set k .dead)) (by rw [hs, List.getElem?_set_self hi])
      rw [hs, setO_set fun j e => (oko j e).1, List.set_comm _ _ ix, List.set_set] at hh
      refine ⟨_, _, _, hh, .inl (hb k hk _ rfl), ?_⟩
      have u := unhole_is2 (g := ((setO g ko (.int (k : Int))).set x (ys k)).set i (D.lst true ((rg n fun j => if j < k then zs j else ys j).set k .dead)).frz) (g3 := (g.set x (zs k)).set i (D.lst true ((rg n fun j => if j < k then zs j else ys j).set k .dead)).frz) (as := asgS b) (i := i) (x := x) (p := [] ++ [k]) (t := D.lst true ((rg n fun j => if j < k then zs j else ys j).set k .dead)) (d := zs k) ni nx (by rw [List.getElem?_set_self (by simpa using hi)]) (by rw [List.getElem?_set_ne ix, List.getElem?_set_self hx]) (zc k hk).2 (fun j d hj ne => by
        rw [List.getElem?_set_ne (Ne.symm ne)] at hj
        by_cases hjx : j = x
        · subst hjx
          rw [List.getElem?_set_self hx] at hj
          cases hj
          exact .inl (zc k hk).1
        · rw [List.getElem?_set_ne (Ne.symm hjx)] at hj
          rcases cl j d hj ne with q | ⟨q1, q2, q3⟩
          · exact .inl q
          · refine .inr ⟨q1, ?_, q2⟩
            rw [List.getElem?_set_ne (Ne.symm ne), List.getElem?_set_ne (Ne.symm hjx), setO_get q3]
            exact hj)
      rw [u]
      congr 1
      have lx : (g.set x .dead) = g := by
        apply List.ext_getElem?
        intro j
        by_cases hjx : x = j
        · subst hjx
          rw [List.getElem?_set_self hx, hxd]
        · rw [List.getElem?_set_ne hjx]
      rw [List.set_set, List.set_comm _ _ ix, List.set_set, lx]
      unfold setG
      rw [List.getElem?_set_self hi]
      have e2 : ((rg n fun j => if j < k then zs j else ys j).set k D.dead)[k]? = some .dead := by rw [List.getElem?_set_self (by rw [rg_len]; exact hk)]
      simp only [List.nil_append, setP, e2, List.set_set]
      congr 2
      rw [rg_set]
      exact rg_congr fun j hj => by
        by_cases e : j = k
        · subst e; simp
        · by_cases e3 : j < k
          · rw [if_neg e, if_pos e3, if_pos (by omega)]
          · rw [if_neg e, if_neg e3, if_neg (by omega)])
  rw [h]
  congr 2
  exact congrArg _ (rg_congr fun j hj => by rw [if_pos hj])
abbrev dOwn_e2 : E := (.blt .len (.cons (.var 4) .nil))
abbrev dOwn_c2 : E := (.comp dOwn_e2 (.var 4) (.var 3) .nil [ 4 ])
abbrev dOwn_e1 : E := dOwn_c2
abbrev dOwn_c1 : E := (.comp dOwn_e1 (.var 3) (.var 0) .nil [ 3 ])
abbrev dOwn_e3 : E := (.blt .len (.cons (.var 3) .nil))
abbrev dOwn_c3 : E := (.comp dOwn_e3 (.var 3) (.var 0) .nil [ 3 ])
abbrev dOwn_b2 : S := (.expr (.lm .append (.var 4) (.cons (.cst (.int 0)) .nil)))
abbrev dOwn_f2 : S := (.forR none 4 (.var 3) dOwn_b2)
abbrev dOwn_b1 : S := (.kill [ 4 ] (.kill [ 4 ] dOwn_f2))
abbrev dOwn_f1 : S := (.forR none 3 (.var 0) dOwn_b1)
abbrev dOwn_e5 : E := (.bin .sub (.blt .len (.cons (.var 4) .nil)) (.cst (.int 1)))
abbrev dOwn_c5 : E := (.comp dOwn_e5 (.var 4) (.var 3) .nil [ 4 ])
abbrev dOwn_e4 : E := dOwn_c5
abbrev dOwn_c4 : E := (.comp dOwn_e4 (.var 3) (.var 0) .nil [ 3 ])
abbrev dOwn_i1 : S := (.ifS (.cmp .ne dOwn_c4 (.var 1)) (.ret (.cst (.bl false))) .skip)
abbrev dOwn_b3 : S := (.expr (.lm .append (.var 3) (.cons (.lstE .nil) .nil)))
abbrev dOwn_f3 : S := (.forR none 3 (.var 0) dOwn_b3)
abbrev dOwn_e6 : E := (.bin .sub (.blt .len (.cons (.var 3) .nil)) (.cst (.int 1)))
abbrev dOwn_c6 : E := (.comp dOwn_e6 (.var 3) (.var 0) .nil [ 3 ])
def dOwn : Def := ⟨1,  5,
  (.seq (.peek 0 (.par [ 1 , 2 ] (.cons dOwn_c1 (.cons dOwn_c3 .nil)))) (.seq (.kill [ 3 , 4 ] dOwn_f1) (.seq (.peek 0 dOwn_i1) (.seq (.kill [ 3 ] dOwn_f3) (.peek 0 (.ret (.cmp .eq dOwn_c6 (.var 2))))))))⟩
theorem peek_nx {c : Str → List D → CRes} {i : Nat} {A : S} {g g1 : List D} {t : D} (hg : g[i]? = some t) (h : sden c A (g.set i t.frz) = .nx g1) (ni : i ∉ asgS A) (ht : g1[i]? = some t.frz) (hh : ∀ (j : Nat) (d : D), g1[j]? = some d → j ≠ i → d.clean = true ∨ (j ∉ asgS A ∧ (g.set i t.frz)[j]? = some d ∧ d.pers = true)) : sden c (.peek i A) g = .nx (g1.set i t) := by
  rw [w_peek, hg]
  simp only [h, RS.back, unpeek_is2 ni ht hh]
theorem peek_rt {c : Str → List D → CRes} {i : Nat} {A : S} {g g1 : List D} {t d : D} (hg : g[i]? = some t) (h : sden c A (g.set i t.frz) = .rt d g1) (dc : d.clean = true) (ni : i ∉ asgS A) (ht : g1[i]? = some t.frz) (hh : ∀ (j : Nat) (d : D), g1[j]? = some d → j ≠ i → d.clean = true ∨ (j ∉ asgS A ∧ (g.set i t.frz)[j]? = some d ∧ d.pers = true)) : sden c (.peek i A) g = .rt d (g1.set i t) := by
  rw [w_peek, hg]
  simp only [h, RS.back, dc, if_true, unpeek_is2 ni ht hh]
/-- lists of lists of lists of ints -/
theorem lens_comp {c : Str → List D → CRes} {F N M : Nat} {R : Nat → Nat → List D} {e : E} {a b : D} {v : Int} (hF : F ≤ 1000) (hN : N ≤ 1000) (hR : ∀ f k, (R f k).length = M) (he : ∀ x : D, ∀ f k, (den c e).val [x, a, b, .lst false (rg N fun k => .lst false (R f k)), .lst false (R f k)] = .ok (.int v, false) [x, a, b, .lst false (rg N fun k => .lst false (R f k)), .lst false (R f k)]) :
    (den c (.comp (.comp e (.var 4) (.var 3) .nil [4]) (.var 3) (.var 0) .nil [3])).val [.lst false (rg F fun f => .lst false (rg N fun k => .lst false (R f k))), a, b, .dead, .dead] = .ok (.lst true (rg F fun _ => .lst true (rg N fun _ => .int v)), false) [.lst false (rg F fun f => .lst false (rg N fun k => .lst false (R f k))), a, b, .dead, .dead] := by
  have sz := sizeLine_eq
  have c2 : ∀ f, (den c (.comp e (.var 4) (.var 3) .nil [4])).val [.lst false (rg F fun f => .lst false (rg N fun k => .lst false (R f k))), a, b, .lst false (rg N fun k => .lst false (R f k)), .dead] = .ok (.lst true (rg N fun _ => .int v), false) [.lst false (rg F fun f => .lst false (rg N fun k => .lst false (R f k))), a, b, .lst false (rg N fun k => .lst false (R f k)), .dead] := fun f => by
    have h := comp_map (c := c) (elt := e) (tg := .var 4) (it := .var 3) (own := [4]) (src := .fix (rg N fun k => .lst false (R f k))) (n := N) (fun k => .lst false (R f k)) (fun _ => .int v) [.lst false (rg F fun f => .lst false (rg N fun k => .lst false (R f k))), a, b, .lst false (rg N fun k => .lst false (R f k)), .dead]
      (g := [.lst false (rg F fun f => .lst false (rg N fun k => .lst false (R f k))), a, b, .lst false (rg N fun k => .lst false (R f k)), .dead]) (g0 := [.lst false (rg F fun f => .lst false (rg N fun k => .lst false (R f k))), a, b, .lst false (rg N fun k => .lst false (R f k)), .dead])
      (by simp [i_var, isLive, iterV, iterL, v_cst, v_glb, v_var, v_bin, t_cmp, v_cmp, v_neg, v_not, t_not, t_and, t_or, v_and, v_or, v_ife, l_nil, l_cons, v_tup, v_lst, v_idx, v_slc, p_part, v_rev, v_lrg, v_blt, v_mv, v_frz, t_nil, t_var, t_idx, t_blt, s_var, s_tup, s_cons, s_nil, w_skip, w_seq, w_expr, w_asg, w_par, w_ret, w_if, w_kill, rb_ok, rs_ok, sb_nx, sb_rt, o_some, varD, mvD, mkV, late, quiet, isVar, own1, D.isDead, D.pers, partI, b_add, b_sub, b_mod, c_lt, c_le, c_gt, c_ge, c_eq, c_ne, e_int, e_str, truD, f_len, f_lenT, f_min2, f_max2, f_intB, f_intI, idxD, allOwn, mkLst, mkTup, asgTup, asgCons, asgNil, cntE]) rfl len_fix rfl (fun t ht => fix_rg ht) (fun k hk => ⟨[.lst false (rg F fun f => .lst false (rg N fun k => .lst false (R f k))), a, b, .lst false (rg N fun k => .lst false (R f k)), .lst false (R f k)], _, by simp [s_var], he _ f k, rfl⟩) (by omega)
    rw [h]
    rfl
  have h := comp_map (c := c) (elt := .comp e (.var 4) (.var 3) .nil [4]) (tg := .var 3) (it := .var 0) (own := [3]) (src := .fix (rg F fun f => .lst false (rg N fun k => .lst false (R f k)))) (n := F) (fun f => .lst false (rg N fun k => .lst false (R f k))) (fun _ => .lst true (rg N fun _ => .int v)) [.lst false (rg F fun f => .lst false (rg N fun k => .lst false (R f k))), a, b, .dead, .dead]
    (g := [.lst false (rg F fun f => .lst false (rg N fun k => .lst false (R f k))), a, b, .dead, .dead]) (g0 := [.lst false (rg F fun f => .lst false (rg N fun k => .lst false (R f k))), a, b, .dead, .dead])
    (by simp [i_var, isLive, iterV, iterL, v_cst, v_glb, v_var, v_bin, t_cmp, v_cmp, v_neg, v_not, t_not, t_and, t_or, v_and, v_or, v_ife, l_nil, l_cons, v_tup, v_lst, v_idx, v_slc, p_part, v_rev, v_lrg, v_blt, v_mv, v_frz, t_nil, t_var, t_idx, t_blt, s_var, s_tup, s_cons, s_nil, w_skip, w_seq, w_expr, w_asg, w_par, w_ret, w_if, w_kill, rb_ok, rs_ok, sb_nx, sb_rt, o_some, varD, mvD, mkV, late, quiet, isVar, own1, D.isDead, D.pers, partI, b_add, b_sub, b_mod, c_lt, c_le, c_gt, c_ge, c_eq, c_ne, e_int, e_str, truD, f_len, f_lenT, f_min2, f_max2, f_intB, f_intI, idxD, allOwn, mkLst, mkTup, asgTup, asgCons, asgNil, cntE]) rfl len_fix rfl (fun t ht => fix_rg ht) (fun f hf => ⟨[.lst false (rg F fun f => .lst false (rg N fun k => .lst false (R f k))), a, b, .lst false (rg N fun k => .lst false (R f k)), .dead], _, by simp [s_var], c2 f, rfl⟩) (by omega)
  rw [h]
  rfl
theorem sizes_comp {c : Str → List D → CRes} {F M : Nat} {R : Nat → List D} {e : E} {a b : D} {v : Int} (hF : F ≤ 1000) (hR : ∀ f, (R f).length = M) (he : ∀ x : D, ∀ f, (den c e).val [x, a, b, .lst false (R f), .dead] = .ok (.int v, false) [x, a, b, .lst false (R f), .dead]) :
    (den c (.comp e (.var 3) (.var 0) .nil [3])).val [.lst false (rg F fun f => .lst false (R f)), a, b, .dead, .dead] = .ok (.lst true (rg F fun _ => .int v), false) [.lst false (rg F fun f => .lst false (R f)), a, b, .dead, .dead] := by
  have sz := sizeLine_eq
  have h := comp_map (c := c) (elt := e) (tg := .var 3) (it := .var 0) (own := [3]) (src := .fix (rg F fun f => .lst false (R f))) (n := F) (fun f => .lst false (R f)) (fun _ => .int v) [.lst false (rg F fun f => .lst false (R f)), a, b, .dead, .dead]
    (g := [.lst false (rg F fun f => .lst false (R f)), a, b, .dead, .dead]) (g0 := [.lst false (rg F fun f => .lst false (R f)), a, b, .dead, .dead])
    (by simp [i_var, isLive, iterV, iterL, v_cst, v_glb, v_var, v_bin, t_cmp, v_cmp, v_neg, v_not, t_not, t_and, t_or, v_and, v_or, v_ife, l_nil, l_cons, v_tup, v_lst, v_idx, v_slc, p_part, v_rev, v_lrg, v_blt, v_mv, v_frz, t_nil, t_var, t_idx, t_blt, s_var, s_tup, s_cons, s_nil, w_skip, w_seq, w_expr, w_asg, w_par, w_ret, w_if, w_kill, rb_ok, rs_ok, sb_nx, sb_rt, o_some, varD, mvD, mkV, late, quiet, isVar, own1, D.isDead, D.pers, partI, b_add, b_sub, b_mod, c_lt, c_le, c_gt, c_ge, c_eq, c_ne, e_int, e_str, truD, f_len, f_lenT, f_min2, f_max2, f_intB, f_intI, idxD, allOwn, mkLst, mkTup, asgTup, asgCons, asgNil, cntE]) rfl len_fix rfl (fun t ht => fix_rg ht) (fun f hf => ⟨[.lst false (rg F fun f => .lst false (R f)), a, b, .lst false (R f), .dead], _, by simp [s_var], he _ f, rfl⟩) (by omega)
  rw [h]
  rfl
theorem fine_rg {a b n : Nat} {m : Bool} {f : Nat → D} (h : ∀ k, k < n → Fine a b (f k)) : Fine (a + 1) ((b + 1) * n) (.lst m (rg n f)) := by
  have := fine_lst (m := m) (xs := rg n f) (a := a) (b := b) fun x hx => by
    obtain ⟨k, hk, rfl⟩ := rg_mem hx
    exact h k hk
  rwa [rg_len] at this
theorem all5 {P : Nat → D → Prop} {a b d e f : D} (h0 : P 0 a) (h1 : P 1 b) (h2 : P 2 d) (h3 : P 3 e) (h4 : P 4 f) : ∀ (j : Nat) (x : D), [a, b, d, e, f][j]? = some x → P j x := by
  intro j x h
  match j with
  | 0 => cases h; exact h0
  | 1 => cases h; exact h1
  | 2 => cases h; exact h2
  | 3 => cases h; exact h3
  | 4 => cases h; exact h4
  | j + 5 => simp at h
theorem lst_nil {c : Str → List D → CRes} {g : List D} : (den c (.lstE .nil)).val g = .ok (.lst true [], false) g := by simp [v_cst, v_glb, v_var, v_bin, t_cmp, v_cmp, v_neg, v_not, t_not, t_and, t_or, v_and, v_or, v_ife, l_nil, l_cons, v_tup, v_lst, v_idx, v_slc, p_part, v_rev, v_lrg, v_blt, v_mv, v_frz, t_nil, t_var, t_idx, t_blt, s_var, s_tup, s_cons, s_nil, w_skip, w_seq, w_expr, w_asg, w_par, w_ret, w_if, w_kill, rb_ok, rs_ok, sb_nx, sb_rt, o_some, varD, mvD, mkV, late, quiet, isVar, own1, D.isDead, D.pers, partI, b_add, b_sub, b_mod, c_lt, c_le, c_gt, c_ge, c_eq, c_ne, e_int, e_str, truD, f_len, f_lenT, f_min2, f_max2, f_intB, f_intI, idxD, allOwn, mkLst, mkTup, asgTup, asgCons, asgNil, cntE]
abbrev row1 (m : Bool) (N : Nat) (L : Nat → Nat → Nat → Int) (f k : Nat) : D := rowD m (N + 1) fun t => if t < N then L f k t else 0
theorem own_ok {c : Str → List D → CRes} {F N : Nat} {L : Nat → Nat → Nat → Int} (hF : F ≤ 1000) (hN : N ≤ 100) : ∃ xs : List D, xs.length ≤ 1000 ∧ dOwn.run c [layD true F N L] = .ok (.bl true) [.lst true xs] := by
  have sz := sizeLine_eq
  have lc : (D.lst true (rg F fun _ => .lst true (rg N fun _ => .int (N : Int)))).clean = true := by
    simp only [D.clean, Bool.true_and]
    exact cleanL_rg fun k hk => by
      simp only [D.clean, Bool.true_and]
      exact cleanL_rg fun k hk => rfl
  have scl : (D.lst true (rg F fun _ => .int (N : Int))).clean = true := by
    simp only [D.clean, Bool.true_and]
    exact cleanL_rg fun k hk => rfl
  have e1 : sden c (.peek 0 (.par [1, 2] (.cons dOwn_c1 (.cons dOwn_c3 .nil)))) [layD true F N L, .dead, .dead, .dead, .dead] = .nx [layD true F N L, .lst true (rg F fun _ => .lst true (rg N fun _ => .int (N : Int))), .lst true (rg F fun _ => .int (N : Int)), .dead, .dead] := by
    have a1 := lens_comp (c := c) (F := F) (N := N) (M := N) (R := fun f k => rg N fun t => .int (L f k t)) (e := dOwn_e2) (a := .dead) (b := .dead) (v := (N : Int)) (by omega) (by omega) (fun f k => rg_len) (fun x f k => by simp [v_cst, v_glb, v_var, v_bin, t_cmp, v_cmp, v_neg, v_not, t_not, t_and, t_or, v_and, v_or, v_ife, l_nil, l_cons, v_tup, v_lst, v_idx, v_slc, p_part, v_rev, v_lrg, v_blt, v_mv, v_frz, t_nil, t_var, t_idx, t_blt, s_var, s_tup, s_cons, s_nil, w_skip, w_seq, w_expr, w_asg, w_par, w_ret, w_if, w_kill, rb_ok, rs_ok, sb_nx, sb_rt, o_some, varD, mvD, mkV, late, quiet, isVar, own1, D.isDead, D.pers, partI, b_add, b_sub, b_mod, c_lt, c_le, c_gt, c_ge, c_eq, c_ne, e_int, e_str, truD, f_len, f_lenT, f_min2, f_max2, f_intB, f_intI, idxD, allOwn, mkLst, mkTup, asgTup, asgCons, asgNil, cntE, rg_len])
    have a2 := sizes_comp (c := c) (F := F) (M := N) (R := fun f => rg N fun k => rowD false N (L f k)) (e := dOwn_e3) (a := .dead) (b := .dead) (v := (N : Int)) (by omega) (fun f => rg_len) (fun x f => by simp [v_cst, v_glb, v_var, v_bin, t_cmp, v_cmp, v_neg, v_not, t_not, t_and, t_or, v_and, v_or, v_ife, l_nil, l_cons, v_tup, v_lst, v_idx, v_slc, p_part, v_rev, v_lrg, v_blt, v_mv, v_frz, t_nil, t_var, t_idx, t_blt, s_var, s_tup, s_cons, s_nil, w_skip, w_seq, w_expr, w_asg, w_par, w_ret, w_if, w_kill, rb_ok, rs_ok, sb_nx, sb_rt, o_some, varD, mvD, mkV, late, quiet, isVar, own1, D.isDead, D.pers, partI, b_add, b_sub, b_mod, c_lt, c_le, c_gt, c_ge, c_eq, c_ne, e_int, e_str, truD, f_len, f_lenT, f_min2, f_max2, f_intB, f_intI, idxD, allOwn, mkLst, mkTup, asgTup, asgCons, asgNil, cntE, rg_len])
    have p : sden c (.par [1, 2] (.cons dOwn_c1 (.cons dOwn_c3 .nil))) [layD false F N L, .dead, .dead, .dead, .dead] = .nx [layD false F N L, .lst true (rg F fun _ => .lst true (rg N fun _ => .int (N : Int))), .lst true (rg F fun _ => .int (N : Int)), .dead, .dead] := by
      rw [w_par, l_cons, a1]
      simp only [rb_ok]
      rw [l_cons, a2]
      simp [rb_ok, rs_ok, l_nil, late, allOwn, setAll]
    rw [peek_nx (i := 0) (t := layD true F N L) rfl (by rw [frz_lay]; exact p) (by simp [asgS]) (by rw [frz_lay]; rfl) (all5 (P := fun j d => j ≠ 0 → d.clean = true ∨ _) (fun h => absurd rfl h) (fun _ => .inl lc) (fun _ => .inl scl) (fun _ => .inl rfl) (fun _ => .inl rfl))]
    rfl
  have e2 : sden c (.kill [3, 4] dOwn_f1) [layD true F N L, .lst true (rg F fun _ => .lst true (rg N fun _ => .int (N : Int))), .lst true (rg F fun _ => .int (N : Int)), .dead, .dead] = .nx [.lst true (rg F fun f => .lst true (rg N fun k => row1 true N L f k)), .lst true (rg F fun _ => .lst true (rg N fun _ => .int (N : Int))), .lst true (rg F fun _ => .int (N : Int)), .dead, .dead] := by
    have h := forR_nil (c := c) (ko := none) (x := 3) (i := 0) (n := F) (b := dOwn_b1) (g := [.dead, .lst true (rg F fun _ => .lst true (rg N fun _ => .int (N : Int))), .lst true (rg F fun _ => .int (N : Int)), .dead, .dead]) (ys := fun f => tabD true N (L f)) (zs := fun f => .lst true (rg N fun k => row1 true N L f k)) rfl (by simp) (by simp) (fun _ e => (nomatch e)) rfl (by simp [asgS]) (by simp [asgS])
      (all5 (P := fun j d => j ≠ 0 → d.clean = true ∨ _) (fun h => absurd rfl h) (fun _ => .inl lc) (fun _ => .inl scl) (fun _ => .inl rfl) (fun _ => .inl rfl)) (fun f hf => ⟨by
        simp only [D.clean, Bool.true_and]
        exact cleanL_rg fun k hk => by
          simp only [D.clean, Bool.true_and]
          exact cleanL_rg fun k hk => rfl, rfl⟩) (fun _ _ => rfl) (fun f hf T hT => by
        have h := forR_nil (c := c) (ko := none) (x := 4) (i := 3) (n := N) (b := dOwn_b2) (g := [T, .lst true (rg F fun _ => .lst true (rg N fun _ => .int (N : Int))), .lst true (rg F fun _ => .int (N : Int)), .dead, .dead]) (ys := fun k => rowD true N (L f k)) (zs := fun k => row1 true N L f k) rfl (by simp) (by simp) (fun _ e => (nomatch e)) rfl (by simp [asgS]) (by simp [asgS])
          (all5 (P := fun j d => j ≠ 3 → d.clean = true ∨ (j ∉ asgS dOwn_b2 ∧ d.pers = true ∧ ∀ l, none = some l → l ≠ j)) (fun h => .inr ⟨by simp [asgS], hT, fun _ e => (nomatch e)⟩) (fun _ => .inl lc) (fun _ => .inl scl) (fun h => absurd rfl h) (fun _ => .inl rfl)) (fun k hk => ⟨by
            simp only [D.clean, Bool.true_and]
            exact cleanL_rg fun k hk => rfl, rfl⟩) (fun _ _ => rfl) (fun k hk T2 hT2 => by
            have e : rg N (fun t => D.int (L f k t)) ++ [D.int 0] = rg (N + 1) fun t => .int (if t < N then L f k t else 0) := by
              have := rg_snoc (n := N) (f := fun t => D.int (if t < N then L f k t else 0))
              rw [← this]
              congr 1
              · exact rg_congr fun t ht => by rw [if_pos ht]
              · simp
            show sden c (.expr (.lm .append (.var 4) (.cons (.cst (.int 0)) .nil))) [T, .lst true (rg F fun _ => .lst true (rg N fun _ => .int (N : Int))), .lst true (rg F fun _ => .int (N : Int)), T2, rowD true N (L f k)] = _
            rw [app_lst (xs := rg N fun t => .int (L f k t)) rfl (.inr trivial) rfl rfl rfl (by rw [rg_len]; omega), e]
            rfl)
        have h2 : sden c dOwn_f2 [T, .lst true (rg F fun _ => .lst true (rg N fun _ => .int (N : Int))), .lst true (rg F fun _ => .int (N : Int)), tabD true N (L f), .dead] = .nx [T, .lst true (rg F fun _ => .lst true (rg N fun _ => .int (N : Int))), .lst true (rg F fun _ => .int (N : Int)), .lst true (rg N fun k => row1 true N L f k), .dead] := h
        show sden c dOwn_b1 [T, .lst true (rg F fun _ => .lst true (rg N fun _ => .int (N : Int))), .lst true (rg F fun _ => .int (N : Int)), tabD true N (L f), .dead] = _
        rw [kill_nx (kill_nx h2)]
        rfl)
    have h2 : sden c dOwn_f1 [layD true F N L, .lst true (rg F fun _ => .lst true (rg N fun _ => .int (N : Int))), .lst true (rg F fun _ => .int (N : Int)), .dead, .dead] = .nx [.lst true (rg F fun f => .lst true (rg N fun k => row1 true N L f k)), .lst true (rg F fun _ => .lst true (rg N fun _ => .int (N : Int))), .lst true (rg F fun _ => .int (N : Int)), .dead, .dead] := h
    rw [kill_nx h2]
    rfl
  have fz : (D.lst true (rg F fun f => .lst true (rg N fun k => row1 true N L f k))).frz = .lst false (rg F fun f => .lst false (rg N fun k => row1 false N L f k)) := by simp only [D.frz, frzL_rg]
  have e3 : sden c (.peek 0 dOwn_i1) [.lst true (rg F fun f => .lst true (rg N fun k => row1 true N L f k)), .lst true (rg F fun _ => .lst true (rg N fun _ => .int (N : Int))), .lst true (rg F fun _ => .int (N : Int)), .dead, .dead] = .nx [.lst true (rg F fun f => .lst true (rg N fun k => row1 true N L f k)), .lst true (rg F fun _ => .lst true (rg N fun _ => .int (N : Int))), .lst true (rg F fun _ => .int (N : Int)), .dead, .dead] := by
    have a1 := lens_comp (c := c) (F := F) (N := N) (M := N + 1) (R := fun f k => rg (N + 1) fun t => .int (if t < N then L f k t else 0)) (e := dOwn_e5) (a := .lst true (rg F fun _ => .lst true (rg N fun _ => .int (N : Int)))) (b := .lst true (rg F fun _ => .int (N : Int))) (v := (N : Int)) (by omega) (by omega) (fun f k => rg_len) (fun x f k => by simp [v_cst, v_glb, v_var, v_bin, t_cmp, v_cmp, v_neg, v_not, t_not, t_and, t_or, v_and, v_or, v_ife, l_nil, l_cons, v_tup, v_lst, v_idx, v_slc, p_part, v_rev, v_lrg, v_blt, v_mv, v_frz, t_nil, t_var, t_idx, t_blt, s_var, s_tup, s_cons, s_nil, w_skip, w_seq, w_expr, w_asg, w_par, w_ret, w_if, w_kill, rb_ok, rs_ok, sb_nx, sb_rt, o_some, varD, mvD, mkV, late, quiet, isVar, own1, D.isDead, D.pers, partI, b_add, b_sub, b_mod, c_lt, c_le, c_gt, c_ge, c_eq, c_ne, e_int, e_str, truD, f_len, f_lenT, f_min2, f_max2, f_intB, f_intI, idxD, allOwn, mkLst, mkTup, asgTup, asgCons, asgNil, cntE, rg_len])
    have fl : Fine 3 ((0 + 1) * N + 1 + 0 + ((0 + 1) * N + 1) * F) (D.lst true (rg F fun _ => .lst true (rg N fun _ => .int (N : Int)))) := (fine_rg (a := 2) (b := (0 + 1) * N) fun k hk => fine_rg (a := 1) (b := 0) fun k hk => fine_int (by rw [Int.natAbs_natCast]; exact Nat.lt_of_le_of_lt hN (by decide))).mono (by omega) (by omega)
    have q := eqD_same fl fl (by omega) (by omega) rfl
    have p : sden c dOwn_i1 [.lst false (rg F fun f => .lst false (rg N fun k => row1 false N L f k)), .lst true (rg F fun _ => .lst true (rg N fun _ => .int (N : Int))), .lst true (rg F fun _ => .int (N : Int)), .dead, .dead] = .nx [.lst false (rg F fun f => .lst false (rg N fun k => row1 false N L f k)), .lst true (rg F fun _ => .lst true (rg N fun _ => .int (N : Int))), .lst true (rg F fun _ => .int (N : Int)), .dead, .dead] := by
      rw [w_if, t_cmp, a1]
      simp [v_cst, v_glb, v_var, v_bin, t_cmp, v_cmp, v_neg, v_not, t_not, t_and, t_or, v_and, v_or, v_ife, l_nil, l_cons, v_tup, v_lst, v_idx, v_slc, p_part, v_rev, v_lrg, v_blt, v_mv, v_frz, t_nil, t_var, t_idx, t_blt, s_var, s_tup, s_cons, s_nil, w_skip, w_seq, w_expr, w_asg, w_par, w_ret, w_if, w_kill, rb_ok, rs_ok, sb_nx, sb_rt, o_some, varD, mvD, mkV, late, quiet, isVar, own1, D.isDead, D.pers, partI, b_add, b_sub, b_mod, c_lt, c_le, c_gt, c_ge, c_eq, c_ne, e_int, e_str, truD, f_len, f_lenT, f_min2, f_max2, f_intB, f_intI, idxD, allOwn, mkLst, mkTup, asgTup, asgCons, asgNil, cntE, q]
    rw [peek_nx (i := 0) (t := D.lst true (rg F fun f => .lst true (rg N fun k => row1 true N L f k))) rfl (by rw [fz]; exact p) (by simp [asgS]) (by rw [fz]; rfl) (all5 (P := fun j d => j ≠ 0 → d.clean = true ∨ _) (fun h => absurd rfl h) (fun _ => .inl lc) (fun _ => .inl scl) (fun _ => .inl rfl) (fun _ => .inl rfl))]
    rfl
  have e4 : sden c (.kill [3] dOwn_f3) [.lst true (rg F fun f => .lst true (rg N fun k => row1 true N L f k)), .lst true (rg F fun _ => .lst true (rg N fun _ => .int (N : Int))), .lst true (rg F fun _ => .int (N : Int)), .dead, .dead] = .nx [.lst true (rg F fun f => .lst true ((rg N fun k => row1 true N L f k) ++ [.lst true []])), .lst true (rg F fun _ => .lst true (rg N fun _ => .int (N : Int))), .lst true (rg F fun _ => .int (N : Int)), .dead, .dead] := by
    have h := forR_nil (c := c) (ko := none) (x := 3) (i := 0) (n := F) (b := dOwn_b3) (g := [.dead, .lst true (rg F fun _ => .lst true (rg N fun _ => .int (N : Int))), .lst true (rg F fun _ => .int (N : Int)), .dead, .dead]) (ys := fun f => .lst true (rg N fun k => row1 true N L f k)) (zs := fun f => .lst true ((rg N fun k => row1 true N L f k) ++ [.lst true []])) rfl (by simp) (by simp) (fun _ e => (nomatch e)) rfl (by simp [asgS]) (by simp [asgS])
      (all5 (P := fun j d => j ≠ 0 → d.clean = true ∨ _) (fun h => absurd rfl h) (fun _ => .inl lc) (fun _ => .inl scl) (fun _ => .inl rfl) (fun _ => .inl rfl)) (fun f hf => ⟨by
        simp only [D.clean, Bool.true_and]
        refine cleanL_all fun x hx => ?_
        rcases List.mem_append.mp hx with hx | hx
        · obtain ⟨k, hk, rfl⟩ := rg_mem hx
          simp only [D.clean, Bool.true_and]
          exact cleanL_rg fun k hk => rfl
        · rw [List.mem_singleton.mp hx]; rfl, rfl⟩) (fun _ _ => rfl) (fun f hf T hT => by
        show sden c (.expr (.lm .append (.var 3) (.cons (.lstE .nil) .nil))) [T, .lst true (rg F fun _ => .lst true (rg N fun _ => .int (N : Int))), .lst true (rg F fun _ => .int (N : Int)), .lst true (rg N fun k => row1 true N L f k), .dead] = _
        rw [app_lst (xs := rg N fun k => row1 true N L f k) (y := .lst true []) rfl (.inr trivial) lst_nil rfl rfl (by rw [rg_len]; omega)]
        rfl)
    have h2 : sden c dOwn_f3 [.lst true (rg F fun f => .lst true (rg N fun k => row1 true N L f k)), .lst true (rg F fun _ => .lst true (rg N fun _ => .int (N : Int))), .lst true (rg F fun _ => .int (N : Int)), .dead, .dead] = .nx [.lst true (rg F fun f => .lst true ((rg N fun k => row1 true N L f k) ++ [.lst true []])), .lst true (rg F fun _ => .lst true (rg N fun _ => .int (N : Int))), .lst true (rg F fun _ => .int (N : Int)), .dead, .dead] := h
    rw [kill_nx h2]
    rfl
  have fz2 : (D.lst true (rg F fun f => .lst true ((rg N fun k => row1 true N L f k) ++ [.lst true []]))).frz = .lst false (rg F fun f => .lst false ((rg N fun k => row1 false N L f k) ++ [.lst false []])) := by
    simp only [D.frz, frzL_rg]
    congr 1
    exact rg_congr fun f hf => by
      congr 1
      rw [frzL_eq, List.map_append, ← frzL_eq, frzL_rg]
      simp only [D.frz, frzL_rg]
      rfl
  have e5 : sden c (.peek 0 (.ret (.cmp .eq dOwn_c6 (.var 2)))) [.lst true (rg F fun f => .lst true ((rg N fun k => row1 true N L f k) ++ [.lst true []])), .lst true (rg F fun _ => .lst true (rg N fun _ => .int (N : Int))), .lst true (rg F fun _ => .int (N : Int)), .dead, .dead] = .rt (.bl true) [.lst true (rg F fun f => .lst true ((rg N fun k => row1 true N L f k) ++ [.lst true []])), .lst true (rg F fun _ => .lst true (rg N fun _ => .int (N : Int))), .lst true (rg F fun _ => .int (N : Int)), .dead, .dead] := by
    have a2 := sizes_comp (c := c) (F := F) (M := N + 1) (R := fun f => (rg N fun k => row1 false N L f k) ++ [.lst false []]) (e := dOwn_e6) (a := .lst true (rg F fun _ => .lst true (rg N fun _ => .int (N : Int)))) (b := .lst true (rg F fun _ => .int (N : Int))) (v := (N : Int)) (by omega) (fun f => by simp [rg_len]) (fun x f => by simp [v_cst, v_glb, v_var, v_bin, t_cmp, v_cmp, v_neg, v_not, t_not, t_and, t_or, v_and, v_or, v_ife, l_nil, l_cons, v_tup, v_lst, v_idx, v_slc, p_part, v_rev, v_lrg, v_blt, v_mv, v_frz, t_nil, t_var, t_idx, t_blt, s_var, s_tup, s_cons, s_nil, w_skip, w_seq, w_expr, w_asg, w_par, w_ret, w_if, w_kill, rb_ok, rs_ok, sb_nx, sb_rt, o_some, varD, mvD, mkV, late, quiet, isVar, own1, D.isDead, D.pers, partI, b_add, b_sub, b_mod, c_lt, c_le, c_gt, c_ge, c_eq, c_ne, e_int, e_str, truD, f_len, f_lenT, f_min2, f_max2, f_intB, f_intI, idxD, allOwn, mkLst, mkTup, asgTup, asgCons, asgNil, cntE, rg_len])
    have fl : Fine 2 ((0 + 1) * F) (D.lst true (rg F fun _ => .int (N : Int))) := fine_rg (a := 1) (b := 0) fun k hk => fine_int (by rw [Int.natAbs_natCast]; exact Nat.lt_of_le_of_lt hN (by decide))
    have q := eqD_same fl fl (by omega) (by omega) rfl
    have p : sden c (.ret (.cmp .eq dOwn_c6 (.var 2))) [.lst false (rg F fun f => .lst false ((rg N fun k => row1 false N L f k) ++ [.lst false []])), .lst true (rg F fun _ => .lst true (rg N fun _ => .int (N : Int))), .lst true (rg F fun _ => .int (N : Int)), .dead, .dead] = .rt (.bl true) [.lst false (rg F fun f => .lst false ((rg N fun k => row1 false N L f k) ++ [.lst false []])), .lst true (rg F fun _ => .lst true (rg N fun _ => .int (N : Int))), .lst true (rg F fun _ => .int (N : Int)), .dead, .dead] := by
      rw [w_ret, v_cmp, t_cmp, a2]
      simp [v_cst, v_glb, v_var, v_bin, t_cmp, v_cmp, v_neg, v_not, t_not, t_and, t_or, v_and, v_or, v_ife, l_nil, l_cons, v_tup, v_lst, v_idx, v_slc, p_part, v_rev, v_lrg, v_blt, v_mv, v_frz, t_nil, t_var, t_idx, t_blt, s_var, s_tup, s_cons, s_nil, w_skip, w_seq, w_expr, w_asg, w_par, w_ret, w_if, w_kill, rb_ok, rs_ok, sb_nx, sb_rt, o_some, varD, mvD, mkV, late, quiet, isVar, own1, D.isDead, D.pers, partI, b_add, b_sub, b_mod, c_lt, c_le, c_gt, c_ge, c_eq, c_ne, e_int, e_str, truD, f_len, f_lenT, f_min2, f_max2, f_intB, f_intI, idxD, allOwn, mkLst, mkTup, asgTup, asgCons, asgNil, cntE, q]
    rw [peek_rt (i := 0) (t := D.lst true (rg F fun f => .lst true ((rg N fun k => row1 true N L f k) ++ [.lst true []]))) rfl (by rw [fz2]; exact p) rfl (by simp [asgS]) (by rw [fz2]; rfl) (all5 (P := fun j d => j ≠ 0 → d.clean = true ∨ _) (fun h => absurd rfl h) (fun _ => .inl lc) (fun _ => .inl scl) (fun _ => .inl rfl) (fun _ => .inl rfl))]
    rfl
  refine ⟨rg F fun f => .lst true ((rg N fun k => row1 true N L f k) ++ [.lst true []]), by rw [rg_len]; exact hF, ?_⟩
  have body : sden c dOwn.body ([layD true F N L] ++ List.replicate (dOwn.nn - dOwn.np) .dead) = .rt (.bl true) [.lst true (rg F fun f => .lst true ((rg N fun k => row1 true N L f k) ++ [.lst true []])), .lst true (rg F fun _ => .lst true (rg N fun _ => .int (N : Int))), .lst true (rg F fun _ => .int (N : Int)), .dead, .dead] := by
    show sden c (.seq (.peek 0 (.par [1, 2] (.cons dOwn_c1 (.cons dOwn_c3 .nil)))) (.seq (.kill [3, 4] dOwn_f1) (.seq (.peek 0 dOwn_i1) (.seq (.kill [3] dOwn_f3) (.peek 0 (.ret (.cmp .eq dOwn_c6 (.var 2)))))))) [layD true F N L, .dead, .dead, .dead, .dead] = _
    rw [seq_nx e1, seq_nx e2, seq_nx e3, seq_nx e4, e5]
  rw [run_rt rfl body]
  rfl
end Bm

set_option maxHeartbeats 4000000
/-! B43: layers of a joined schedule: plain. -/
namespace Bm
open PySem
theorem minL_le : ∀ {xs : List Int} {x : Int}, x ∈ xs → minL xs ≤ x
  | [a], x, h => by
    rw [List.mem_singleton.mp h]
    exact Int.le_refl _
  | a :: b :: r, x, h => by
    have ih := fun h => minL_le (xs := b :: r) (x := x) h
    unfold minL
    split <;> rcases List.mem_cons.mp h with e | h
    · omega
    · exact ih h
    · omega
    · have := ih h
      omega
theorem minL_mem : ∀ {xs : List Int}, xs ≠ [] → minL xs ∈ xs
  | [a], _ => by simp [minL]
  | a :: b :: r, _ => by
    have ih := minL_mem (xs := b :: r) (by simp)
    unfold minL
    split
    · exact List.mem_cons_of_mem _ ih
    · simp
theorem minL_eq {n : Nat} {r : Nat → Int} {m : Int} (h1 : ∃ j, j < n ∧ r j = m) (h2 : ∀ j, j < n → m ≤ r j) : minL ((List.range n).map r) = m := by
  obtain ⟨j, hj, rfl⟩ := h1
  have a := minL_le (xs := (List.range n).map r) (x := r j) (List.mem_map.mpr ⟨j, List.mem_range.mpr hj, rfl⟩)
  have ne : (List.range n).map r ≠ [] := fun e => by
    have := congrArg List.length e
    simp at this
    omega
  obtain ⟨i, hi, e⟩ := List.mem_map.mp (minL_mem ne)
  have := h2 i (List.mem_range.mp hi)
  omega
theorem minL_rg {n : Nat} {r : Nat → Int} (hn : 1 ≤ n) : (∃ j, j < n ∧ r j = minL ((List.range n).map r)) ∧ ∀ j, j < n → minL ((List.range n).map r) ≤ r j := by
  have ne : (List.range n).map r ≠ [] := fun e => by
    have := congrArg List.length e
    simp at this
    omega
  obtain ⟨i, hi, e⟩ := List.mem_map.mp (minL_mem ne)
  exact ⟨⟨i, List.mem_range.mp hi, e⟩, fun j hj => minL_le (List.mem_map.mpr ⟨j, List.mem_range.mpr hj, rfl⟩)⟩
theorem mn_le1 (a b : Int) : mn a b ≤ a := by unfold mn; split <;> omega
theorem mn_le2 (a b : Int) : mn a b ≤ b := by unfold mn; split <;> omega
theorem mn_or (a b : Int) : mn a b = a ∨ mn a b = b := by unfold mn; split <;> simp
/-- what holds of layers -/
structure Lay (L : Nat → Nat → Nat → Int) : Prop where
  fall : ∀ f k t, L f k (t + 1) ≤ L f k t
  step : ∀ f k t, L f k t ≤ L f k (t + 1) + 1
  more : ∀ f k t, L (f + 1) k t ≤ L f k t
  low : ∀ f k t, 0 ≤ L f k t
  high : ∀ f k t, L f k t ≤ k
theorem lay_free : Lay F0 := by
  refine ⟨fun f k t => ?_, fun f k t => ?_, fun f k t => ?_, fun f k t => ?_, fun f k t => ?_⟩ <;> (unfold F0; (repeat' split) <;> omega)
theorem cmpL_at {L : Nat → Nat → Nat → Int} {g f k : Nat} : cmpL L g f k g ≤ L f k (g - 1) ∧ cmpL L g f k g ≤ L f k (g + 1) + 1 ∧ (0 < f → cmpL L g f k g ≤ L (f - 1) k g) ∧ (cmpL L g f k g = L f k (g - 1) ∨ cmpL L g f k g = L f k (g + 1) + 1 ∨ (0 < f ∧ cmpL L g f k g = L (f - 1) k g)) := by
  unfold cmpL
  rw [if_pos rfl]
  have h1 := mn_le1 (L f k (g - 1)) (L f k (g + 1) + 1)
  have h2 := mn_le2 (L f k (g - 1)) (L f k (g + 1) + 1)
  have h3 := mn_or (L f k (g - 1)) (L f k (g + 1) + 1)
  by_cases h : f = 0
  · rw [if_pos h]
    exact ⟨h1, h2, fun q => by omega, h3.imp id .inl⟩
  · rw [if_neg h]
    have k1 := mn_le1 (mn (L f k (g - 1)) (L f k (g + 1) + 1)) (L (f - 1) k g)
    have k2 := mn_le2 (mn (L f k (g - 1)) (L f k (g + 1) + 1)) (L (f - 1) k g)
    have k3 := mn_or (mn (L f k (g - 1)) (L f k (g + 1) + 1)) (L (f - 1) k g)
    refine ⟨by omega, by omega, fun _ => k2, ?_⟩
    rcases k3 with k3 | k3
    · rcases h3 with h3 | h3
      · exact .inl (by omega)
      · exact .inr (.inl (by omega))
    · exact .inr (.inr ⟨by omega, k3⟩)
theorem cmpL_ne {L : Nat → Nat → Nat → Int} {g f k t : Nat} (h : t ≠ g) : cmpL L g f k t = L f k t := by
  unfold cmpL
  rw [if_neg h]
theorem lay_cmp {L : Nat → Nat → Nat → Int} (h : Lay L) {g : Nat} (hg : 1 ≤ g) : Lay (cmpL L g) := by
  obtain ⟨g, rfl⟩ : ∃ j, g = j + 1 := ⟨g - 1, by omega⟩
  have at_ := fun f k => cmpL_at (L := L) (g := g + 1) (f := f) (k := k)
  simp only [Nat.add_sub_cancel] at at_
  refine ⟨fun f k t => ?_, fun f k t => ?_, fun f k t => ?_, fun f k t => ?_, fun f k t => ?_⟩
  · by_cases e1 : t = g + 1
    · subst e1
      rw [cmpL_ne (by omega)]
      obtain ⟨_, _, _, q | q | ⟨q0, q⟩⟩ := at_ f k
      · have a := h.fall f k g; have b := h.fall f k (g + 1); omega
      · omega
      · have a := h.more (f - 1) k (g + 1)
        rw [Nat.sub_add_cancel q0] at a
        have b := h.fall f k (g + 1)
        omega
    · rw [cmpL_ne e1]
      by_cases e2 : t + 1 = g + 1
      · obtain rfl : t = g := by omega
        exact (at_ f k).1
      · rw [cmpL_ne e2]; exact h.fall f k t
  · by_cases e1 : t = g + 1
    · subst e1
      rw [cmpL_ne (t := g + 1 + 1) (by omega)]
      exact (at_ f k).2.1
    · rw [cmpL_ne e1]
      by_cases e2 : t + 1 = g + 1
      · obtain rfl : t = g := by omega
        obtain ⟨_, _, _, q | q | ⟨q0, q⟩⟩ := at_ f k
        · omega
        · have a := h.step f k t; have b := h.step f k (t + 1); omega
        · have a := h.more (f - 1) k (t + 1)
          rw [Nat.sub_add_cancel q0] at a
          have b := h.step f k t
          omega
      · rw [cmpL_ne e2]; exact h.step f k t
  · by_cases e1 : t = g + 1
    · subst e1
      exact (at_ (f + 1) k).2.2.1 (by omega) |> fun q => by
        rw [Nat.add_sub_cancel] at q
        obtain ⟨_, _, _, r | r | ⟨r0, r⟩⟩ := at_ f k
        · have a := (at_ (f + 1) k).1
          have b := h.more f k g
          omega
        · have a := (at_ (f + 1) k).2.1
          have b := h.more f k (g + 1 + 1)
          omega
        · have b := h.more (f - 1) k (g + 1)
          rw [Nat.sub_add_cancel r0] at b
          omega
    · rw [cmpL_ne e1, cmpL_ne e1]; exact h.more f k t
  · by_cases e1 : t = g + 1
    · subst e1
      obtain ⟨_, _, _, q | q | ⟨q0, q⟩⟩ := at_ f k
      · rw [q]; exact h.low _ _ _
      · rw [q]; have := h.low f k (g + 1 + 1); omega
      · rw [q]; exact h.low _ _ _
    · rw [cmpL_ne e1]; exact h.low f k t
  · by_cases e1 : t = g + 1
    · subst e1
      have := (at_ f k).1
      have b := h.high f k g
      omega
    · rw [cmpL_ne e1]; exact h.high f k t
theorem lay_from {gs : List Nat} : ∀ {L : Nat → Nat → Nat → Int}, Lay L → (∀ g, g ∈ gs → 1 ≤ g) → Lay (layG L gs) := by
  induction gs with
  | nil => intro L h _; exact h
  | cons g gs ih => intro L h hg; exact ih (lay_cmp h (hg g (by simp))) fun x hx => hg x (by simp [hx])
theorem layG_app {L : Nat → Nat → Nat → Int} {a b : List Nat} : layG L (a ++ b) = layG (layG L a) b := by simp [layG, List.foldl_append]
theorem lay_far {L : Nat → Nat → Nat → Int} (h : Lay L) (f k t : Nat) : ∀ d, L f k (t + d) ≤ L f k t ∧ L f k t ≤ L f k (t + d) + d
  | 0 => by simp
  | d + 1 => by
    have a := lay_far h f k t d
    have b := h.fall f k (t + d)
    have e := h.step f k (t + d)
    rw [show t + (d + 1) = t + d + 1 by omega]
    omega
theorem lay_few {L : Nat → Nat → Nat → Int} (h : Lay L) (f k t : Nat) : ∀ d, L (f + d) k t ≤ L f k t
  | 0 => by simp
  | d + 1 => by
    have a := lay_few h f k t d
    have b := h.more (f + d) k t
    rw [show f + (d + 1) = f + d + 1 by omega]
    omega
/-- the least sums -/
theorem layG_snoc {L : Nat → Nat → Nat → Int} {rs : List Nat} {g : Nat} : layG L (g :: rs).reverse = cmpL (layG L rs.reverse) g := by
  rw [List.reverse_cons, layG_app]
  rfl
theorem join_all {A : Nat → Nat → Nat → Int} (hA : Lay A) {rs : List Nat} : ∀ f k t a j, a ≤ f → layG A rs.reverse f k t ≤ A a k j + layG F0 rs.reverse (f - a) j t := by
  induction rs with
  | nil =>
    intro f k t a j h
    obtain ⟨d, rfl⟩ := Nat.exists_eq_add_of_le h
    show A (a + d) k t ≤ A a k j + F0 (a + d - a) j t
    have h1 := lay_few hA a k t d
    rcases Nat.le_total j t with q | q
    · obtain ⟨e, rfl⟩ := Nat.exists_eq_add_of_le q
      have := (lay_far hA a k j e).1
      unfold F0
      split <;> omega
    · obtain ⟨e, rfl⟩ := Nat.exists_eq_add_of_le q
      have := (lay_far hA a k t e).2
      unfold F0
      split <;> omega
  | cons g rs ih =>
    intro f k t a j h
    rw [layG_snoc, layG_snoc]
    by_cases e : t = g
    · subst e
      obtain ⟨c1, c2, c3, _⟩ := cmpL_at (L := layG A rs.reverse) (g := t) (f := f) (k := k)
      obtain ⟨_, _, _, q | q | ⟨q0, q⟩⟩ := cmpL_at (L := layG F0 rs.reverse) (g := t) (f := f - a) (k := j)
      · have := ih f k (t - 1) a j h; omega
      · have := ih f k (t + 1) a j h; omega
      · have := ih (f - 1) k t a j (by omega)
        rw [show f - 1 - a = f - a - 1 by omega] at this
        have := c3 (by omega)
        omega
    · rw [cmpL_ne e, cmpL_ne e]
      exact ih f k t a j h
theorem join_some {A : Nat → Nat → Nat → Int} (hA : Lay A) {N : Nat} {rs : List Nat} (hg : ∀ g, g ∈ rs → 1 ≤ g ∧ g + 1 < N) : ∀ f k t, t < N → ∃ a j, a ≤ f ∧ j < N ∧ A a k j + layG F0 rs.reverse (f - a) j t = layG A rs.reverse f k t := by
  induction rs with
  | nil =>
    intro f k t ht
    refine ⟨f, t, Nat.le_refl _, ht, ?_⟩
    show A f k t + F0 (f - f) t t = A f k t
    unfold F0
    split <;> omega
  | cons g rs ih =>
    intro f k t ht
    have ih := ih fun x hx => hg x (by simp [hx])
    have hg := hg g (by simp)
    by_cases e : t = g
    · subst e
      have up := join_all hA (rs := t :: rs) f k t
      rw [layG_snoc, layG_snoc] at *
      obtain ⟨_, _, _, q | q | ⟨q0, q⟩⟩ := cmpL_at (L := layG A rs.reverse) (g := t) (f := f) (k := k)
      · obtain ⟨a, j, h1, h2, h3⟩ := ih f k (t - 1) (by omega)
        have := up a j h1
        have := (cmpL_at (L := layG F0 rs.reverse) (g := t) (f := f - a) (k := j)).1
        exact ⟨a, j, h1, h2, by omega⟩
      · obtain ⟨a, j, h1, h2, h3⟩ := ih f k (t + 1) (by omega)
        have := up a j h1
        have := (cmpL_at (L := layG F0 rs.reverse) (g := t) (f := f - a) (k := j)).2.1
        exact ⟨a, j, h1, h2, by omega⟩
      · obtain ⟨a, j, h1, h2, h3⟩ := ih (f - 1) k t ht
        have := up a j (by omega)
        have := (cmpL_at (L := layG F0 rs.reverse) (g := t) (f := f - a) (k := j)).2.2.1 (by omega)
        rw [show f - 1 - a = f - a - 1 by omega] at h3
        exact ⟨a, j, by omega, h2, by omega⟩
    · rw [layG_snoc, layG_snoc, cmpL_ne e]
      obtain ⟨a, j, h1, h2, h3⟩ := ih f k t ht
      exact ⟨a, j, h1, h2, by rw [cmpL_ne e]; exact h3⟩
theorem joinL_eq {A : Nat → Nat → Nat → Int} (hA : Lay A) {N : Nat} {gs : List Nat} (hg : ∀ g, g ∈ gs → 1 ≤ g ∧ g + 1 < N) {f k t : Nat} (ht : t < N) : joinL N A (layG F0 gs) f k t = layG A gs f k t := by
  have e : gs = gs.reverse.reverse := by simp
  have up := join_all hA (rs := gs.reverse) f k t
  obtain ⟨a, j, h1, h2, h3⟩ := join_some hA (N := N) (rs := gs.reverse) (fun g h => hg g (by simpa using h)) f k t ht
  rw [← e] at up h3
  have in_ : ∀ a, a ≤ f → layG A gs f k t ≤ joinF N (A a) (layG F0 gs (f - a)) k t := fun a ha => by
    obtain ⟨⟨j, _, q⟩, _⟩ := minL_rg (n := N) (r := fun j => A a k j + layG F0 gs (f - a) j t) (by omega)
    unfold joinF
    rw [← q]
    exact up a j ha
  refine minL_eq ⟨a, by omega, ?_⟩ fun a ha => in_ a (by omega)
  have l1 := in_ a h1
  have l2 : joinF N (A a) (layG F0 gs (f - a)) k t ≤ A a k j + layG F0 gs (f - a) j t := (minL_rg (n := N) (r := fun j => A a k j + layG F0 gs (f - a) j t) (by omega)).2 j h2
  show joinF N (A a) (layG F0 gs (f - a)) k t = _
  omega
end Bm

set_option maxHeartbeats 4000000
/-! B44: calls of the defs about layers. -/
namespace Bm
open PySem
/-- f(bag, ..): the bag comes back -/
theorem call_bag1 {c : Str → List D → CRes} {f : Str} {i : Nat} {es : E} {g : List D} {bag bag' v : D} {ds : List D} {as : List Arg} (hi : g[i]? = some bag) (hb : Bag bag) (ha : (den c es).arg g = .ok as g) (ht : takeA as (g.set i .dead) = some (ds, g.set i .dead)) (hc : c f (bag :: ds) = .ok v (bag' :: ds)) (hk : backA as ds ds (g.set i bag') = some (g.set i bag')) :
    (den c (.call f (.cons (.var i) es))).val g = .ok (v, false) (g.set i bag') := by
  have h2 := hb.not_pers
  refine call_val (args_cons (arg_r hi h2.2) ha) (ds := bag :: ds) (g2 := g.set i .dead) ?_ hc ?_
  · simp [takeA, hi, h2.1, h2.2, ht]
  · simp [backA, h2.1, List.set_set, hk]
theorem lay_congr {m : Bool} {F N : Nat} {A B : Nat → Nat → Nat → Int} (h : ∀ f k t, f < F → k < N → t < N → A f k t = B f k t) : layD m F N A = layD m F N B := by
  exact congrArg (D.nd (.lst m)) (rg_congr fun f hf => congrArg (D.nd (.lst m)) (rg_congr fun k hk => congrArg (D.nd (.lst m)) (rg_congr fun t ht => by rw [h f k t hf hk ht])))
theorem lay_toP {m m' : Bool} {F N : Nat} {A : Nat → Nat → Nat → Int} : (layD m F N A).toP = (layD m' F N A).toP := by
  simp only [D.toP, toPL_rg]
theorem lay_small {L : Nat → Nat → Nat → Int} (h : Lay L) {N f k t : Nat} (hk : k < N) (hN : N ≤ 100) : (L f k t).natAbs < 10 ^ 60 := by
  have h1 := h.low f k t
  have h2 := h.high f k t
  have : (L f k t).natAbs ≤ 100 := by omega
  exact Nat.lt_of_le_of_lt this (by decide)
theorem lay_fine {m : Bool} {F N : Nat} {L : Nat → Nat → Nat → Int} (h : Lay L) (hN : N ≤ 100) : Fine 4 ((((0 + 1) * N + 1) * N + 1) * F) (layD m F N L) :=
  fine_rg fun f hf => fine_rg fun k hk => fine_rg fun t ht => fine_int (lay_small h hk hN)
theorem lay_bulk {F N : Nat} (hF : F ≤ 21) (hN : N ≤ 13) : (((0 + 1) * N + 1) * N + 1) * F ≤ 4000 := by
  have h1 : (0 + 1) * N + 1 ≤ 14 := by omega
  have h2 : ((0 + 1) * N + 1) * N ≤ 14 * 13 := Nat.mul_le_mul h1 hN
  exact Nat.le_trans (Nat.mul_le_mul (show ((0 + 1) * N + 1) * N + 1 ≤ 183 by omega) hF) (by decide)
/-- what the defs about layers do, seen by a caller -/
structure LayC (c : Str → List D → CRes) : Prop where
  take : Draws c
  places : ∀ (bag : D) (a b : Int), Bag bag → a ≤ b → b - a ≤ 1000000 → ∃ v bag', c "_law_places" [bag, .int a, .int b] = .ok (.int v) [bag', .int a, .int b] ∧ Bag bag' ∧ a ≤ v ∧ v ≤ b
  gates : ∀ (bag : D) (p most : Nat), Bag bag → 1 ≤ p → p ≤ 1000 → most ≤ 1000 → ∃ gs bag', c "_law_gates" [bag, .int (p : Int), .int (most : Int)] = .ok (gsD true gs) [bag', .int (p : Int), .int (most : Int)] ∧ Bag bag' ∧ gs.length ≤ most ∧ ∀ g, g ∈ gs → GateOk p g
  layers : ∀ (m : Bool) (gs : List Nat) (F n : Nat), 1 ≤ n → n ≤ 100 → 1 ≤ F → F ≤ 1000 → (∀ g, g ∈ gs → 1 ≤ g ∧ g + 1 < n) → c "_law_layers" [gsD m gs, .int ((n : Int) - 1), .int ((F : Int) - 1)] = .ok (layD false F n (layG F0 gs)) [gsD m gs, .int ((n : Int) - 1), .int ((F : Int) - 1)]
  alike : ∀ (a b a' b' : Nat) (k k' : Kd) (xs ys : List D), Fine a b (.nd k xs) → Fine a' b' (.nd k' ys) → a ≤ 64 → a' ≤ 64 → b ≤ 100000 → b' ≤ 100000 → (D.nd k xs).toP = (D.nd k' ys).toP → c "_law_alike" [.nd k xs, .nd k' ys] = .ok (.bl true) [.nd k xs, .nd k' ys]
  own : ∀ (F n : Nat) (L : Nat → Nat → Nat → Int), F ≤ 1000 → n ≤ 100 → ∃ xs : List D, xs.length ≤ 1000 ∧ c "_law_each_own" [layD true F n L] = .ok (.bl true) [.lst true xs]
theorem LayC.alikeL {c : Str → List D → CRes} (h : LayC c) {m m' : Bool} {F N : Nat} {L : Nat → Nat → Nat → Int} (hL : Lay L) (hF : F ≤ 21) (hN : N ≤ 13) : c "_law_alike" [layD m F N L, layD m' F N L] = .ok (.bl true) [layD m F N L, layD m' F N L] := by
  have b := lay_bulk hF hN
  exact h.alike _ _ _ _ _ _ _ _ (lay_fine hL (by omega)) (lay_fine hL (by omega)) (by omega) (by omega) (by omega) (by omega) lay_toP
end Bm

set_option maxHeartbeats 4000000
/-! B45: layers changed in place. -/
namespace Bm
open PySem
def dPassed : Def := ⟨2,  2,
  (.ret (.blt .min (.cons (.idx (.var 0) (.bin .sub (.var 1) (.cst (.int 1)))) (.cons (.bin .add (.idx (.var 0) (.bin .add (.var 1) (.cst (.int 1)))) (.cst (.int 1))) .nil))))⟩
abbrev dCmpLay_b2 : S := (.kill [ 3 , 5 ] (.seq (.asg (.var 5) (.call "passed" (.cons (.var 4) (.cons (.var 1) .nil)))) (.asg (.idx (.var 4) (.var 1)) (.ife (.cmp .gt (.var 2) (.cst (.int 0))) (.blt .min (.cons (.var 5) (.cons (.idx (.idx (.idx (.var 0) (.bin .sub (.var 2) (.cst (.int 1)))) (.var 3)) (.var 1)) .nil))) (.var 5)))))
abbrev dCmpLay_f2 : S := (.forR (some 3) 4 (.idx (.var 0) (.var 2)) dCmpLay_b2)
abbrev dCmpLay_b1 : S := (.kill [ 2 , 3 , 4 , 5 ] (.kill [ 3 , 4 , 5 ] dCmpLay_f2))
abbrev dCmpLay_f1 : S := (.forS (.var 2) (.blt .range (.cons (.bin .sub (.blt .len (.cons (.var 0) .nil)) (.cst (.int 1))) (.cons (.neg (.cst (.int 1))) (.cons (.neg (.cst (.int 1))) .nil)))) dCmpLay_b1)
def dCmpLay : Def := ⟨2,  6,
  (.kill [ 2 , 3 , 4 , 5 ] dCmpLay_f1)⟩
abbrev dLate_e2 : E := (.blt .list (.cons (.var 5) .nil))
abbrev dLate_c2 : E := (.comp dLate_e2 (.var 5) (.var 4) .nil [ 5 ])
abbrev dLate_e1 : E := dLate_c2
abbrev dLate_c1 : E := (.comp dLate_e1 (.var 4) (.var 0) .nil [ 4 ])
def dLate : Def := ⟨3,  6,
  (.seq (.asg (.var 3) dLate_c1) (.seq (.expr (.call "compare_layers" (.cons (.var 3) (.cons (.var 1) .nil)))) (.ret (.call "joined_layers" (.cons (.frz (.mv 3)) (.cons (.var 2) .nil))))))⟩
theorem passed_ok {c : Str → List D → CRes} {m : Bool} {N g : Nat} {r : Nat → Int} (hg : 1 ≤ g) (hn : g + 1 < N) : dPassed.run c [rowD m N r, .int (g : Int)] = .ok (.int (mn (r (g - 1)) (r (g + 1) + 1))) [rowD m N r, .int (g : Int)] := by
  have i1 : L2.atI (rg N fun t => D.int (r t)) ((g : Int) - 1) = some (.int (r (g - 1))) := by
    rw [atI_rgI (by omega) (by omega)]
    congr 4
    omega
  have i2 : L2.atI (rg N fun t => D.int (r t)) ((g : Int) + 1) = some (.int (r (g + 1))) := by
    rw [atI_rgI (by omega) (by omega)]
    congr 4
  have body : sden c dPassed.body ([rowD m N r, .int (g : Int)] ++ List.replicate (dPassed.nn - dPassed.np) .dead) = .rt (.int (mn (r (g - 1)) (r (g + 1) + 1))) [rowD m N r, .int (g : Int)] := by
    show sden c (.ret (.blt .min (.cons (.idx (.var 0) (.bin .sub (.var 1) (.cst (.int 1)))) (.cons (.bin .add (.idx (.var 0) (.bin .add (.var 1) (.cst (.int 1)))) (.cst (.int 1))) .nil)))) [rowD m N r, .int (g : Int)] = _
    cases m <;> simp [v_cst, v_glb, v_var, v_bin, t_cmp, v_cmp, v_neg, v_not, t_not, t_and, t_or, v_and, v_or, v_ife, l_nil, l_cons, v_tup, v_lst, v_idx, v_slc, p_part, v_rev, v_lrg, v_blt, v_mv, v_frz, t_nil, t_var, t_idx, t_blt, s_var, s_tup, s_cons, s_nil, w_skip, w_seq, w_expr, w_asg, w_par, w_ret, w_if, w_kill, rb_ok, rs_ok, sb_nx, sb_rt, o_some, varD, mvD, mkV, late, quiet, isVar, own1, D.isDead, D.pers, partI, b_add, b_sub, b_mod, c_lt, c_le, c_gt, c_ge, c_eq, c_ne, e_int, e_str, truD, f_len, f_lenT, f_min2, f_max2, f_intB, f_intI, idxD, allOwn, mkLst, mkTup, asgTup, asgCons, asgNil, cntE, i1, i2, mn]
  rw [run_rt rfl body]
  rfl
def Pass (c : Str → List D → CRes) : Prop := ∀ (m : Bool) (N g : Nat) (r : Nat → Int), 1 ≤ g → g + 1 < N → c "passed" [rowD m N r, .int (g : Int)] = .ok (.int (mn (r (g - 1)) (r (g + 1) + 1))) [rowD m N r, .int (g : Int)]
/-- the rows below k of table m are changed -/
def upto (L Y : Nat → Nat → Nat → Int) (g m k : Nat) (f k' t : Nat) : Int := if f = m ∧ k' < k then cmpL L g f k' t else Y f k' t
theorem frz_row {n : Nat} {r : Nat → Int} : (rowD true n r).frz = rowD false n r := by simp only [D.frz, frzL_rg]
theorem frz_tab {n : Nat} {A : Nat → Nat → Int} : (tabD true n A).frz = tabD false n A := by simp only [D.frz, frzL_rg]
theorem row_turn {c : Str → List D → CRes} (hc : Pass c) {F N g m k : Nat} {X L : Nat → Nat → Nat → Int} {T : List D} (hg : 1 ≤ g) (hn : g + 1 < N) (hm : m < F) (hk : k < N) (hX : ∀ t, X m k t = L m k t) (hL : 0 < m → ∀ t, X (m - 1) k t = L (m - 1) k t) (hT : 0 < m → L2.atI T ((m : Int) - 1) = some (tabD false N (X (m - 1)))) :
    sden c dCmpLay_b2 [.lst false T, .int (g : Int), .int (m : Int), .int (k : Int), rowD true N (X m k), .dead] = .nx [.lst false T, .int (g : Int), .int (m : Int), .dead, rowD true N (cmpL L g m k), .dead] := by
  have cl : (den c (.call "passed" (.cons (.var 4) (.cons (.var 1) .nil)))).val [.lst false T, .int (g : Int), .int (m : Int), .int (k : Int), rowD true N (X m k), .dead] = .ok (.int (mn (X m k (g - 1)) (X m k (g + 1) + 1)), false) [.lst false T, .int (g : Int), .int (m : Int), .int (k : Int), rowD true N (X m k), .dead] :=
    call_val (args_cons (arg_r (b := rowD true N (X m k)) rfl rfl) (args_cons (arg_r (b := .int (g : Int)) rfl rfl) rfl)) (ds := [rowD true N (X m k), .int (g : Int)]) (g2 := [.lst false T, .int (g : Int), .int (m : Int), .int (k : Int), .dead, .dead]) rfl (hc true N g (X m k) hg hn) rfl
  have e2 : (den c (.ife (.cmp .gt (.var 2) (.cst (.int 0))) (.blt .min (.cons (.var 5) (.cons (.idx (.idx (.idx (.var 0) (.bin .sub (.var 2) (.cst (.int 1)))) (.var 3)) (.var 1)) .nil))) (.var 5))).val [.lst false T, .int (g : Int), .int (m : Int), .int (k : Int), rowD true N (X m k), .int (mn (X m k (g - 1)) (X m k (g + 1) + 1))] = .ok (.int (cmpL L g m k g), false) [.lst false T, .int (g : Int), .int (m : Int), .int (k : Int), rowD true N (X m k), .int (mn (X m k (g - 1)) (X m k (g + 1) + 1))] := by
    by_cases h0 : m = 0
    · subst h0
      simp [v_cst, v_glb, v_var, v_bin, t_cmp, v_cmp, v_neg, v_not, t_not, t_and, t_or, v_and, v_or, v_ife, l_nil, l_cons, v_tup, v_lst, v_idx, v_slc, p_part, v_rev, v_lrg, v_blt, v_mv, v_frz, t_nil, t_var, t_idx, t_blt, s_var, s_tup, s_cons, s_nil, w_skip, w_seq, w_expr, w_asg, w_par, w_ret, w_if, w_kill, rb_ok, rs_ok, sb_nx, sb_rt, o_some, varD, mvD, mkV, late, quiet, isVar, own1, D.isDead, D.pers, partI, b_add, b_sub, b_mod, c_lt, c_le, c_gt, c_ge, c_eq, c_ne, e_int, e_str, truD, f_len, f_lenT, f_min2, f_max2, f_intB, f_intI, idxD, allOwn, mkLst, mkTup, asgTup, asgCons, asgNil, cntE, cmpL, hX]
    · have hp : 0 < m := by omega
      have i3 := hT hp
      have i4 : L2.atI (rg N fun k => rowD false N (X (m - 1) k)) (k : Int) = some (rowD false N (X (m - 1) k)) := atI_rg hk
      have i5 : L2.atI (rg N fun t => D.int (X (m - 1) k t)) (g : Int) = some (.int (X (m - 1) k g)) := atI_rg (by omega)
      have i6 : L2.atI (rg N fun t => D.int (L (m - 1) k t)) (g : Int) = some (.int (L (m - 1) k g)) := atI_rg (by omega)
      simp [v_cst, v_glb, v_var, v_bin, t_cmp, v_cmp, v_neg, v_not, t_not, t_and, t_or, v_and, v_or, v_ife, l_nil, l_cons, v_tup, v_lst, v_idx, v_slc, p_part, v_rev, v_lrg, v_blt, v_mv, v_frz, t_nil, t_var, t_idx, t_blt, s_var, s_tup, s_cons, s_nil, w_skip, w_seq, w_expr, w_asg, w_par, w_ret, w_if, w_kill, rb_ok, rs_ok, sb_nx, sb_rt, o_some, varD, mvD, mkV, late, quiet, isVar, own1, D.isDead, D.pers, partI, b_add, b_sub, b_mod, c_lt, c_le, c_gt, c_ge, c_eq, c_ne, e_int, e_str, truD, f_len, f_lenT, f_min2, f_max2, f_intB, f_intI, idxD, allOwn, mkLst, mkTup, asgTup, asgCons, asgNil, cntE, cmpL, h0, hp, i3, i4, i5, i6, mn, hX, hL hp]
      try rfl
  have e3 : ∀ e : E, (den c e).val [.lst false T, .int (g : Int), .int (m : Int), .int (k : Int), rowD true N (X m k), .int (mn (X m k (g - 1)) (X m k (g + 1) + 1))] = .ok (.int (cmpL L g m k g), false) [.lst false T, .int (g : Int), .int (m : Int), .int (k : Int), rowD true N (X m k), .int (mn (X m k (g - 1)) (X m k (g + 1) + 1))] →
      sden c (.asg (.idx (.var 4) (.var 1)) e) [.lst false T, .int (g : Int), .int (m : Int), .int (k : Int), rowD true N (X m k), .int (mn (X m k (g - 1)) (X m k (g + 1) + 1))] = .nx [.lst false T, .int (g : Int), .int (m : Int), .int (k : Int), rowD true N (cmpL L g m k), .int (mn (X m k (g - 1)) (X m k (g + 1) + 1))] := fun e he => by
    refine asg_nx he ?_
    have hi : L2.ixN N (g : Int) = some g := by
      unfold L2.ixN
      rw [if_pos (by omega), if_pos (by omega)]
      rfl
    have q : (rg N fun t => D.int (X m k t)).set g (.int (cmpL L g m k g)) = rg N fun t => .int (cmpL L g m k t) := by
      rw [rg_set]
      exact rg_congr fun t ht => by
        by_cases h : t = g
        · rw [if_pos h, h]
        · rw [if_neg h, cmpL_ne h, hX]
    simp [s_idx, asgIdx, p_var, v_var, varD, mkV, o_some, rb_ok, D.isDead, D.pers, isVar, getG, getP, rg_len, hi, setG, setP, q]
  have b2 : sden c (.seq (.asg (.var 5) (.call "passed" (.cons (.var 4) (.cons (.var 1) .nil)))) (.asg (.idx (.var 4) (.var 1)) (.ife (.cmp .gt (.var 2) (.cst (.int 0))) (.blt .min (.cons (.var 5) (.cons (.idx (.idx (.idx (.var 0) (.bin .sub (.var 2) (.cst (.int 1)))) (.var 3)) (.var 1)) .nil))) (.var 5)))) [.lst false T, .int (g : Int), .int (m : Int), .int (k : Int), rowD true N (X m k), .dead] = .nx [.lst false T, .int (g : Int), .int (m : Int), .int (k : Int), rowD true N (cmpL L g m k), .int (mn (X m k (g - 1)) (X m k (g + 1) + 1))] := by
    rw [seq_nx (asg_nx cl (var_asg (by simp)))]
    exact e3 _ e2
  rw [kill_nx b2]
  rfl
theorem all6 {P : Nat → D → Prop} {a b d e f x : D} (h0 : P 0 a) (h1 : P 1 b) (h2 : P 2 d) (h3 : P 3 e) (h4 : P 4 f) (h5 : P 5 x) : ∀ (j : Nat) (y : D), [a, b, d, e, f, x][j]? = some y → P j y := by
  intro j y h
  match j with
  | 0 => cases h; exact h0
  | 1 => cases h; exact h1
  | 2 => cases h; exact h2
  | 3 => cases h; exact h3
  | 4 => cases h; exact h4
  | 5 => cases h; exact h5
  | j + 6 => simp at h
theorem tab_turn {c : Str → List D → CRes} (hc : Pass c) {F N g m : Nat} {L Y : Nat → Nat → Nat → Int} (hg : 1 ≤ g) (hn : g + 1 < N) (hm : m < F) (hY : ∀ k t, Y m k t = L m k t) (hY1 : 0 < m → ∀ k t, Y (m - 1) k t = L (m - 1) k t) :
    sden c dCmpLay_f2 [layD true F N Y, .int (g : Int), .int (m : Int), .dead, .dead, .dead] = .nx [layD true F N (upto L Y g m N), .int (g : Int), .int (m : Int), .dead, .dead, .dead] := by
  have ixm : L2.ixN F (m : Int) = some m := by
    unfold L2.ixN
    rw [if_pos (by omega), if_pos (by omega)]
    rfl
  have gp : ∀ k, getG [layD true F N (upto L Y g m k), .int (g : Int), .int (m : Int), .dead, .dead, .dead] 0 [m] = some (tabD true N (upto L Y g m k m)) := fun k => by
    simp [getG, getP, rg_get hm]
  have z : upto L Y g m 0 = Y := by
    funext f k t
    simp [upto]
  have h := forR_fn (c := c) (ko := some 3) (x := 4) (i := 0) (p := [m]) (a := .idx (.var 0) (.var 2)) (b := dCmpLay_b2) (n := N) (g := [layD true F N Y, .int (g : Int), .int (m : Int), .dead, .dead, .dead]) (fun k => [layD true F N (upto L Y g m k), .int (g : Int), .int (m : Int), .dead, .dead, .dead]) (by
      simp only [z]
      simp [p_idx, plcIdx, p_var, v_var, varD, mkV, o_some, rb_ok, D.isDead, D.pers, quiet, getG, getP, rg_len, ixm]) rfl (by rw [gp]; rfl) (by unfold lenR; rw [gp]; exact rg_len) (fun k hk => by
      have hd : (rg N fun k' => rowD true N (upto L Y g m k m k'))[k]? = some (rowD true N (upto L Y g m k m k)) := rg_get hk
      have sd : ∀ y, setG [layD true F N (upto L Y g m k), .int (g : Int), .int (m : Int), .dead, .dead, .dead] 0 ([m] ++ [k]) y = [.lst true ((rg F fun f => tabD true N (upto L Y g m k f)).set m (.lst true ((rg N fun k' => rowD true N (upto L Y g m k m k')).set k y))), .int (g : Int), .int (m : Int), .dead, .dead, .dead] := fun y => by
        have e1 : (rg F fun f => tabD true N (upto L Y g m k f))[m]? = some (tabD true N (upto L Y g m k m)) := rg_get hm
        simp only [setG, List.getElem?_cons_zero, List.cons_append, List.nil_append, setP, e1, hd, List.set_cons_zero]
      have hh := hole_is (ko := some 3) (x := 4) (gp k) hd rfl (t := .lst true ((rg F fun f => tabD true N (upto L Y g m k f)).set m (.lst true ((rg N fun k' => rowD true N (upto L Y g m k m k')).set k .dead)))) (by rw [sd]; rfl)
      rw [sd] at hh
      obtain ⟨T, hT⟩ : ∃ T, (D.lst true ((rg F fun f => tabD true N (upto L Y g m k f)).set m (.lst true ((rg N fun k' => rowD true N (upto L Y g m k m k')).set k .dead)))).frz = .lst false T := ⟨_, rfl⟩
      have hat : 0 < m → L2.atI T ((m : Int) - 1) = some (tabD false N (upto L Y g m k (m - 1))) := fun hp => by
        have : T = frzL ((rg F fun f => tabD true N (upto L Y g m k f)).set m (.lst true ((rg N fun k' => rowD true N (upto L Y g m k m k')).set k .dead))) := by
          simp only [D.frz] at hT
          injection hT with _ hT
          exact hT.symm
        rw [this, rg_set, frzL_rg, atI_rgI (by omega) (by omega), show ((m : Int) - 1).toNat = m - 1 by omega, if_neg (by omega), frz_tab]
      have turn := row_turn (c := c) hc (F := F) (T := T) (X := upto L Y g m k) (L := L) hg hn hm hk (fun t => by simp [upto, hY]) (fun hp t => by simp only [upto]; rw [if_neg (by omega), hY1 hp]) hat
      rw [hT] at hh
      refine ⟨_, _, _, hh, .inl turn, ?_⟩
      have u := unhole_is2 (g := [.lst false T, .int (g : Int), .int (m : Int), .int (k : Int), rowD true N (upto L Y g m k m k), .dead]) (g3 := [.lst false T, .int (g : Int), .int (m : Int), .dead, rowD true N (cmpL L g m k), .dead]) (as := asgS dCmpLay_b2) (i := 0) (x := 4) (p := [m] ++ [k]) (t := D.lst true ((rg F fun f => tabD true N (upto L Y g m k f)).set m (.lst true ((rg N fun k' => rowD true N (upto L Y g m k m k')).set k .dead)))) (d := rowD true N (cmpL L g m k)) (by simp [asgS, asgE]) (by simp [asgS, asgE]) (by rw [hT]; rfl) rfl rfl
        (all6 (P := fun j d => j ≠ 0 → d.clean = true ∨ _) (fun h => absurd rfl h) (fun _ => .inl rfl) (fun _ => .inl rfl) (fun _ => .inl rfl) (fun _ => .inl (by
          simp only [D.clean, Bool.true_and]
          exact cleanL_rg fun _ _ => rfl)) (fun _ => .inl rfl))
      refine Eq.trans u ?_
      congr 1
      have e1 : ((rg F fun f => tabD true N (upto L Y g m k f)).set m (.lst true ((rg N fun k' => rowD true N (upto L Y g m k m k')).set k .dead)))[m]? = some (.lst true ((rg N fun k' => rowD true N (upto L Y g m k m k')).set k .dead)) := by rw [List.getElem?_set_self (by rw [rg_len]; exact hm)]
      have e2 : ((rg N fun k' => rowD true N (upto L Y g m k m k')).set k D.dead)[k]? = some .dead := by rw [List.getElem?_set_self (by rw [rg_len]; exact hk)]
      simp only [List.set_cons_zero, List.set_cons_succ, setG, List.getElem?_cons_zero, List.cons_append, List.nil_append, setP, e1, e2, List.set_set]
      congr 1
      refine congrArg (D.nd (.lst true)) ?_
      rw [rg_set]
      refine rg_congr fun f hf => ?_
      by_cases hfm : f = m
      · subst hfm
        rw [if_pos rfl, rg_set]
        refine congrArg (D.nd (.lst true)) (rg_congr fun k' hk' => ?_)
        by_cases hkk : k' = k
        · subst hkk
          rw [if_pos rfl]
          refine congrArg (D.nd (.lst true)) (rg_congr fun t ht => ?_)
          simp [upto]
        · rw [if_neg hkk]
          refine congrArg (D.nd (.lst true)) (rg_congr fun t ht => ?_)
          simp only [upto]
          by_cases h : k' < k
          · simp [h, show k' < k + 1 by omega]
          · simp [h, show ¬ k' < k + 1 by omega]
      · rw [if_neg hfm]
        refine congrArg (D.nd (.lst true)) (rg_congr fun k' hk' => congrArg (D.nd (.lst true)) (rg_congr fun t ht => ?_))
        simp [upto, hfm])
  exact h
theorem run_nx {c : Str → List D → CRes} {f : Def} {as : List D} {g : List D} (hl : as.length = f.np) (h : sden c f.body (as ++ List.replicate (f.nn - f.np) .dead) = .nx g) : f.run c as = .ok .non ((wipe g (asgS f.body)).take f.np) := by
  unfold Def.run
  rw [if_pos hl, h]
theorem rangeC_rg {i : Int} {n : Nat} : rangeC i (-1) n = rg n fun k => .int (i + (k : Int) * -1) := rfl
theorem cmplay_ok {c : Str → List D → CRes} (hc : Pass c) {F N g : Nat} {L : Nat → Nat → Nat → Int} (hg : 1 ≤ g) (hn : g + 1 < N) (hF : 1 ≤ F) (hF2 : F ≤ 1000) : dCmpLay.run c [layD true F N L, .int (g : Int)] = .ok .non [layD true F N (cmpL L g), .int (g : Int)] := by
  have h := for_fn (c := c) (t := .var 2) (it := .blt .range (.cons (.bin .sub (.blt .len (.cons (.var 0) .nil)) (.cst (.int 1))) (.cons (.neg (.cst (.int 1))) (.cons (.neg (.cst (.int 1))) .nil)))) (b := dCmpLay_b1) (src := .fix (rangeC ((F : Int) - 1) (-1) F)) (n := F) (g := [layD true F N L, .int (g : Int), .dead, .dead, .dead, .dead]) (fun j => .int ((F : Int) - 1 + (j : Int) * -1)) (fun j => [layD true F N (fun f k t => if F ≤ f + j then cmpL L g f k t else L f k t), .int (g : Int), .dead, .dead, .dead, .dead]) (by
      have l : (den c (.cons (.bin .sub (.blt .len (.cons (.var 0) .nil)) (.cst (.int 1))) (.cons (.neg (.cst (.int 1))) (.cons (.neg (.cst (.int 1))) .nil)))).lst [layD true F N L, .int (g : Int), .dead, .dead, .dead, .dead] = .ok [(.int ((F : Int) - 1), false), (.int (-1), false), (.int (-1), false)] [layD true F N L, .int (g : Int), .dead, .dead, .dead, .dead] := by simp [v_cst, v_glb, v_var, v_bin, t_cmp, v_cmp, v_neg, v_not, t_not, t_and, t_or, v_and, v_or, v_ife, l_nil, l_cons, v_tup, v_lst, v_idx, v_slc, p_part, v_rev, v_lrg, v_blt, v_mv, v_frz, t_nil, t_var, t_idx, t_blt, s_var, s_tup, s_cons, s_nil, w_skip, w_seq, w_expr, w_asg, w_par, w_ret, w_if, w_kill, rb_ok, rs_ok, sb_nx, sb_rt, o_some, varD, mvD, mkV, late, quiet, isVar, own1, D.isDead, D.pers, partI, b_add, b_sub, b_mod, c_lt, c_le, c_gt, c_ge, c_eq, c_ne, e_int, e_str, truD, f_len, f_lenT, f_min2, f_max2, f_intB, f_intI, idxD, allOwn, mkLst, mkTup, asgTup, asgCons, asgNil, cntE, rg_len]
      have s1 : smallI ((F : Int) - 1) = true := decide_eq_true ⟨by omega, by omega⟩
      have s2 : smallI (-1) = true := rfl
      rw [i_range, l, rb_ok]
      simp only [rangeS]
      rw [if_pos ⟨trivial, s1, s2⟩, o_some, show ((F : Int) - 1 - -1).toNat = F by omega]
      congr 2
      refine congrArg (D.nd (.lst true)) (rg_congr fun f hf => congrArg (D.nd (.lst true)) (rg_congr fun k' hk' => congrArg (D.nd (.lst true)) (rg_congr fun t ht => ?_)))
      show D.int (L f k' t) = D.int (if F ≤ f + 0 then cmpL L g f k' t else L f k' t)
      rw [if_neg (by omega)]) rfl (by rw [rangeC_rg]; exact len_fix) (fun k hk => by rw [rangeC_rg]; exact fix_rg hk) (fun j hj => by
      have e : (F : Int) - 1 + (j : Int) * -1 = ((F - 1 - j : Nat) : Int) := by omega
      refine ⟨[layD true F N (fun f k t => if F ≤ f + j then cmpL L g f k t else L f k t), .int (g : Int), .int ((F - 1 - j : Nat) : Int), .dead, .dead, .dead], by rw [e]; simp [s_var], .inl ?_⟩
      have t := tab_turn (c := c) hc (F := F) (N := N) (g := g) (m := F - 1 - j) (L := L) (Y := fun f k t => if F ≤ f + j then cmpL L g f k t else L f k t) hg hn (by omega) (fun k t => by rw [if_neg (by omega)]) (fun hp k t => by rw [if_neg (by omega)])
      rw [kill_nx (kill_nx t)]
      show RS.nx [layD true F N (upto L _ g (F - 1 - j) N), .int (g : Int), .dead, .dead, .dead, .dead] = _
      congr 2
      refine congrArg (D.nd (.lst true)) (rg_congr fun f hf => congrArg (D.nd (.lst true)) (rg_congr fun k' hk' => congrArg (D.nd (.lst true)) (rg_congr fun t ht => ?_)))
      simp only [upto]
      by_cases h1 : f = F - 1 - j
      · rw [if_pos ⟨h1, hk'⟩, if_pos (by omega)]
      · rw [if_neg (fun q => h1 q.1)]
        by_cases h2 : F ≤ f + j
        · rw [if_pos h2, if_pos (by omega)]
        · rw [if_neg h2, if_neg (by omega)])
  have body : sden c dCmpLay.body ([layD true F N L, .int (g : Int)] ++ List.replicate (dCmpLay.nn - dCmpLay.np) .dead) = .nx [layD true F N (cmpL L g), .int (g : Int), .dead, .dead, .dead, .dead] := by
    show sden c (.kill [2, 3, 4, 5] dCmpLay_f1) [layD true F N L, .int (g : Int), .dead, .dead, .dead, .dead] = _
    rw [kill_nx h]
    show RS.nx [layD true F N _, .int (g : Int), .dead, .dead, .dead, .dead] = _
    congr 2
    refine congrArg (D.nd (.lst true)) (rg_congr fun f hf => congrArg (D.nd (.lst true)) (rg_congr fun k' hk' => congrArg (D.nd (.lst true)) (rg_congr fun t ht => ?_)))
    show D.int (if F ≤ f + F then cmpL L g f k' t else L f k' t) = _
    rw [if_pos (by omega)]
  exact run_nx rfl body
structure LateC (c : Str → List D → CRes) : Prop where
  cmp : ∀ (F N g : Nat) (L : Nat → Nat → Nat → Int), 1 ≤ g → g + 1 < N → 1 ≤ F → F ≤ 1000 → c "compare_layers" [layD true F N L, .int (g : Int)] = .ok .non [layD true F N (cmpL L g), .int (g : Int)]
  join : ∀ (F N : Nat) (A B : Nat → Nat → Nat → Int), 1 ≤ N → N ≤ 100 → F ≤ 1000 → c "joined_layers" [layD false F N A, layD false F N B] = .ok (layD true F N (joinL N A B)) [layD false F N A, layD false F N B]
theorem late_lay_ok {c : Str → List D → CRes} (hc : LateC c) {F N g : Nat} {A B : Nat → Nat → Nat → Int} (hg : 1 ≤ g) (hn : g + 1 < N) (hF : 1 ≤ F) (hF2 : F ≤ 1000) (hN : N ≤ 100) : dLate.run c [layD false F N A, .int (g : Int), layD false F N B] = .ok (layD true F N (joinL N (cmpL A g) B)) [layD false F N A, .int (g : Int), layD false F N B] := by
  have sz := sizeLine_eq
  have c2 : ∀ f, f < F → (den c dLate_c2).val [layD false F N A, .int (g : Int), layD false F N B, .dead, tabD false N (A f), .dead] = .ok (tabD true N (A f), false) [layD false F N A, .int (g : Int), layD false F N B, .dead, tabD false N (A f), .dead] := fun f hf => by
    have h := comp_map (c := c) (elt := dLate_e2) (tg := .var 5) (it := .var 4) (own := [5]) (src := .fix (rg N fun k => rowD false N (A f k))) (n := N) (fun k => rowD false N (A f k)) (fun k => rowD true N (A f k)) [layD false F N A, .int (g : Int), layD false F N B, .dead, tabD false N (A f), .dead]
      (g := [layD false F N A, .int (g : Int), layD false F N B, .dead, tabD false N (A f), .dead]) (g0 := [layD false F N A, .int (g : Int), layD false F N B, .dead, tabD false N (A f), .dead])
      (by simp [i_var, isLive, iterV, iterL, v_cst, v_glb, v_var, v_bin, t_cmp, v_cmp, v_neg, v_not, t_not, t_and, t_or, v_and, v_or, v_ife, l_nil, l_cons, v_tup, v_lst, v_idx, v_slc, p_part, v_rev, v_lrg, v_blt, v_mv, v_frz, t_nil, t_var, t_idx, t_blt, s_var, s_tup, s_cons, s_nil, w_skip, w_seq, w_expr, w_asg, w_par, w_ret, w_if, w_kill, rb_ok, rs_ok, sb_nx, sb_rt, o_some, varD, mvD, mkV, late, quiet, isVar, own1, D.isDead, D.pers, partI, b_add, b_sub, b_mod, c_lt, c_le, c_gt, c_ge, c_eq, c_ne, e_int, e_str, truD, f_len, f_lenT, f_min2, f_max2, f_intB, f_intI, idxD, allOwn, mkLst, mkTup, asgTup, asgCons, asgNil, cntE]) rfl len_fix rfl (fun t ht => fix_rg ht) (fun k hk => ⟨[layD false F N A, .int (g : Int), layD false F N B, .dead, tabD false N (A f), rowD false N (A f k)], [layD false F N A, .int (g : Int), layD false F N B, .dead, tabD false N (A f), rowD false N (A f k)], by simp [s_var], by
        have := f_list (m := false) (l := false) (xs := rg N fun t => .int (A f k t)) persL_row
        simp [v_cst, v_glb, v_var, v_bin, t_cmp, v_cmp, v_neg, v_not, t_not, t_and, t_or, v_and, v_or, v_ife, l_nil, l_cons, v_tup, v_lst, v_idx, v_slc, p_part, v_rev, v_lrg, v_blt, v_mv, v_frz, t_nil, t_var, t_idx, t_blt, s_var, s_tup, s_cons, s_nil, w_skip, w_seq, w_expr, w_asg, w_par, w_ret, w_if, w_kill, rb_ok, rs_ok, sb_nx, sb_rt, o_some, varD, mvD, mkV, late, quiet, isVar, own1, D.isDead, D.pers, partI, b_add, b_sub, b_mod, c_lt, c_le, c_gt, c_ge, c_eq, c_ne, e_int, e_str, truD, f_len, f_lenT, f_min2, f_max2, f_intB, f_intI, idxD, allOwn, mkLst, mkTup, asgTup, asgCons, asgNil, cntE, this], rfl⟩) (by omega)
    rw [h]
    rfl
  have c1 : (den c dLate_c1).val [layD false F N A, .int (g : Int), layD false F N B, .dead, .dead, .dead] = .ok (layD true F N A, false) [layD false F N A, .int (g : Int), layD false F N B, .dead, .dead, .dead] := by
    have h := comp_map (c := c) (elt := dLate_e1) (tg := .var 4) (it := .var 0) (own := [4]) (src := .fix (rg F fun f => tabD false N (A f))) (n := F) (fun f => tabD false N (A f)) (fun f => tabD true N (A f)) [layD false F N A, .int (g : Int), layD false F N B, .dead, .dead, .dead]
      (g := [layD false F N A, .int (g : Int), layD false F N B, .dead, .dead, .dead]) (g0 := [layD false F N A, .int (g : Int), layD false F N B, .dead, .dead, .dead])
      (by simp [i_var, isLive, iterV, iterL, v_cst, v_glb, v_var, v_bin, t_cmp, v_cmp, v_neg, v_not, t_not, t_and, t_or, v_and, v_or, v_ife, l_nil, l_cons, v_tup, v_lst, v_idx, v_slc, p_part, v_rev, v_lrg, v_blt, v_mv, v_frz, t_nil, t_var, t_idx, t_blt, s_var, s_tup, s_cons, s_nil, w_skip, w_seq, w_expr, w_asg, w_par, w_ret, w_if, w_kill, rb_ok, rs_ok, sb_nx, sb_rt, o_some, varD, mvD, mkV, late, quiet, isVar, own1, D.isDead, D.pers, partI, b_add, b_sub, b_mod, c_lt, c_le, c_gt, c_ge, c_eq, c_ne, e_int, e_str, truD, f_len, f_lenT, f_min2, f_max2, f_intB, f_intI, idxD, allOwn, mkLst, mkTup, asgTup, asgCons, asgNil, cntE]) rfl len_fix rfl (fun t ht => fix_rg ht) (fun f hf => ⟨[layD false F N A, .int (g : Int), layD false F N B, .dead, tabD false N (A f), .dead], _, by simp [s_var], c2 f hf, rfl⟩) (by omega)
    rw [h]
    rfl
  have e2 : sden c (.expr (.call "compare_layers" (.cons (.var 3) (.cons (.var 1) .nil)))) [layD false F N A, .int (g : Int), layD false F N B, layD true F N A, .dead, .dead] = .nx [layD false F N A, .int (g : Int), layD false F N B, layD true F N (cmpL A g), .dead, .dead] := by
    have cl : (den c (.call "compare_layers" (.cons (.var 3) (.cons (.var 1) .nil)))).val [layD false F N A, .int (g : Int), layD false F N B, layD true F N A, .dead, .dead] = .ok (.non, false) [layD false F N A, .int (g : Int), layD false F N B, layD true F N (cmpL A g), .dead, .dead] :=
      call_val (args_cons (arg_r (b := layD true F N A) rfl rfl) (args_cons (arg_r (b := .int (g : Int)) rfl rfl) rfl)) (ds := [layD true F N A, .int (g : Int)]) (g2 := [layD false F N A, .int (g : Int), layD false F N B, .dead, .dead, .dead]) rfl (hc.cmp F N g A hg hn hF hF2) rfl
    rw [w_expr, cl]
    rfl
  have fz : (den c (.frz (.mv 3))).val [layD false F N A, .int (g : Int), layD false F N B, layD true F N (cmpL A g), .dead, .dead] = .ok (layD false F N (cmpL A g), false) [layD false F N A, .int (g : Int), layD false F N B, .dead, .dead, .dead] := by
    rw [v_frz, v_mv]
    simp [mvD, rb_ok, D.isDead, D.pers, frz_lay]
  have e3 : (den c (.call "joined_layers" (.cons (.frz (.mv 3)) (.cons (.var 2) .nil)))).val [layD false F N A, .int (g : Int), layD false F N B, layD true F N (cmpL A g), .dead, .dead] = .ok (layD true F N (joinL N (cmpL A g) B), false) [layD false F N A, .int (g : Int), layD false F N B, .dead, .dead, .dead] :=
    call_val (args_cons (one_val rfl fz) (args_cons (arg_r (b := layD false F N B) rfl rfl) rfl)) (ds := [layD false F N (cmpL A g), layD false F N B]) rfl (hc.join F N _ _ (by omega) hN hF2) rfl
  have body : sden c dLate.body ([layD false F N A, .int (g : Int), layD false F N B] ++ List.replicate (dLate.nn - dLate.np) .dead) = .rt (layD true F N (joinL N (cmpL A g) B)) [layD false F N A, .int (g : Int), layD false F N B, .dead, .dead, .dead] := by
    show sden c (.seq (.asg (.var 3) dLate_c1) (.seq (.expr (.call "compare_layers" (.cons (.var 3) (.cons (.var 1) .nil)))) (.ret (.call "joined_layers" (.cons (.frz (.mv 3)) (.cons (.var 2) .nil)))))) [layD false F N A, .int (g : Int), layD false F N B, .dead, .dead, .dead] = _
    rw [seq_nx (asg_nx c1 (var_asg (by simp)))]
    show sden c (.seq _ _) [layD false F N A, .int (g : Int), layD false F N B, layD true F N A, .dead, .dead] = _
    rw [seq_nx e2]
    exact ret_rt e3
  rw [run_rt rfl body]
  rfl
end Bm

set_option maxHeartbeats 4000000
/-! B47: orders. -/
namespace Bm
open PySem
/-- the numbers below n, each once -/
structure IsOrd (n : Nat) (L : List Nat) : Prop where
  len : L.length = n
  lt : ∀ x, x ∈ L → x < n
  nd : L.Nodup
  all : ∀ x, x < n → x ∈ L
theorem IsOrd.of_perm {n : Nat} {L : List Nat} (h : L.Perm (List.range n)) : IsOrd n L :=
  ⟨by rw [h.length_eq, List.length_range], fun x hx => List.mem_range.mp (h.mem_iff.mp hx), h.nodup_iff.mpr List.nodup_range, fun x hx => h.mem_iff.mpr (List.mem_range.mpr hx)⟩
theorem IsOrd.reverse {n : Nat} {L : List Nat} (h : IsOrd n L) : IsOrd n L.reverse :=
  ⟨by rw [List.length_reverse]; exact h.len, fun x hx => h.lt x (by simpa using hx), (List.reverse_perm L).nodup_iff.mpr h.nd, fun x hx => by simpa using h.all x hx⟩
theorem IsOrd.at_idx {n : Nat} {L : List Nat} (h : IsOrd n L) {x : Nat} (hx : x < n) : L.idxOf x < n ∧ L[L.idxOf x]? = some x := by
  have h1 : L.idxOf x < L.length := List.idxOf_lt_length_iff.mpr (h.all x hx)
  exact ⟨by rw [← h.len]; exact h1, by rw [List.getElem?_eq_getElem h1, List.getElem_idxOf h1]⟩
theorem IsOrd.idx_at {n : Nat} {L : List Nat} (h : IsOrd n L) {k x : Nat} (e : L[k]? = some x) : L.idxOf x = k := by
  obtain ⟨hk, e⟩ := List.getElem?_eq_some_iff.mp e
  rw [← e]
  exact h.nd.idxOf_getElem k hk
/-- the places -/
def invL (n : Nat) (L : List Nat) : List Nat := (List.range n).map fun r => L.idxOf r
theorem IsOrd.inv {n : Nat} {L : List Nat} (h : IsOrd n L) : IsOrd n (invL n L) := by
  refine ⟨by simp [invL], fun x hx => ?_, ?_, fun x hx => ?_⟩
  · obtain ⟨r, hr, rfl⟩ := List.mem_map.mp hx
    exact (h.at_idx (List.mem_range.mp hr)).1
  · refine List.pairwise_map.mpr (List.Pairwise.imp_of_mem (fun {a b} ha hb ne e => ne ?_) List.nodup_range)
    have h1 := (h.at_idx (List.mem_range.mp ha)).2
    have h2 := (h.at_idx (List.mem_range.mp hb)).2
    rw [e, h2] at h1
    exact (Option.some.inj h1).symm
  · have hk : x < L.length := by rw [h.len]; exact hx
    exact List.mem_map.mpr ⟨L[x], List.mem_range.mpr (h.lt _ (List.getElem_mem hk)), h.idx_at (List.getElem?_eq_getElem hk)⟩
theorem inv_inv {n : Nat} {L : List Nat} (h : IsOrd n L) : invL n (invL n L) = L := by
  apply List.ext_getElem?
  intro r
  by_cases hr : r < n
  · have hL : r < L.length := by rw [h.len]; exact hr
    have hx := h.lt _ (List.getElem_mem hL)
    have e : (invL n L)[L[r]]? = some r := by
      unfold invL
      rw [List.getElem?_map, List.getElem?_range hx, Option.map_some, h.idx_at (List.getElem?_eq_getElem hL)]
    have e2 := h.inv.idx_at e
    have e3 : (invL n (invL n L))[r]? = some ((invL n L).idxOf r) := by
      show ((List.range n).map fun r => (invL n L).idxOf r)[r]? = _
      rw [List.getElem?_map, List.getElem?_range hr, Option.map_some]
    rw [e3, e2, List.getElem?_eq_getElem hL]
  · rw [List.getElem?_eq_none (by rw [h.inv.inv.len]; omega), List.getElem?_eq_none (by rw [h.len]; omega)]
theorem idx_rev {n : Nat} {L : List Nat} (h : IsOrd n L) {r : Nat} (hr : r < n) : L.reverse.idxOf r = n - 1 - L.idxOf r := by
  obtain ⟨h1, h2⟩ := h.at_idx hr
  apply h.reverse.idx_at
  rw [List.getElem?_reverse (by rw [h.len]; omega), h.len, show n - 1 - (n - 1 - L.idxOf r) = L.idxOf r by omega]
  exact h2
theorem pop_perm {A B : List Nat} {k : Nat} (hk : k < B.length) : ((A ++ [B[k]]) ++ B.eraseIdx k).Perm (A ++ B) := by
  rw [List.append_assoc]
  refine List.Perm.append_left A ?_
  rw [List.eraseIdx_eq_take_drop_succ]
  have e : B = B.take k ++ B[k] :: B.drop (k + 1) := by
    rw [List.getElem_cons_drop, List.take_append_drop]
  conv => rhs; rw [e]
  show (B[k] :: (B.take k ++ B.drop (k + 1))).Perm (B.take k ++ B[k] :: B.drop (k + 1))
  exact List.perm_middle.symm
theorem swap_perm {L : List Nat} {i j : Nat} (hi : i < L.length) (hj : j < L.length) : ((L.set i L[j]).set j L[i]).Perm L := by
  refine List.perm_iff_count.mpr fun a => ?_
  have h1 : j < (L.set i L[j]).length := by rw [List.length_set]; exact hj
  rw [List.count_set h1, List.count_set hi]
  have e : (L.set i L[j])[j] = L[j] := by
    rw [List.getElem_set]
    split
    · rfl
    · rfl
  rw [e]
  have c1 : L[i] = a → 0 < L.count a := fun e => by rw [← e]; exact List.count_pos_iff.mpr (List.getElem_mem hi)
  have c2 : L[j] = a → 0 < L.count a := fun e => by rw [← e]; exact List.count_pos_iff.mpr (List.getElem_mem hj)
  by_cases x : L[i] = a
  · have := c1 x
    by_cases y : L[j] = a
    · simp [x, y]; omega
    · simp [x, y]; omega
  · by_cases y : L[j] = a
    · have := c2 y
      simp [x, y]
    · simp [x, y]
theorem persL_gs {gs : List Nat} : persL (gs.map fun (g : Nat) => D.int (g : Int)) = true := by
  rw [persL_eq]
  exact List.all_eq_true.mpr fun x hx => by
    obtain ⟨g, _, rfl⟩ := List.mem_map.mp hx
    rfl
/-! ### a drawn order -/
abbrev dOrder_b1 : S := (.kill [ 5 ] (.expr (.lm .append (.var 3) (.cons (.lm .popAt (.var 2) (.cons (.call "_law_take" (.cons (.var 0) (.cons (.blt .len (.cons (.var 2) .nil)) .nil))) .nil)) .nil))))
abbrev dOrder_f1 : S := (.forS (.var 5) (.blt .range (.cons (.var 1) .nil)) dOrder_b1)
abbrev dOrder_i1 : S := (.ifS (.cmp .eq (.var 4) (.cst (.int 0))) (.ret (.rev (.lrg (.var 1)))) .skip)
abbrev dOrder_b2 : S := (.kill [ 5 , 6 , 7 ] (.seq (.par [ 6 , 7 ] (.cons (.call "_law_take" (.cons (.var 0) (.cons (.var 1) .nil))) (.cons (.call "_law_take" (.cons (.var 0) (.cons (.var 1) .nil))) .nil))) (.asg (.tupE (.cons (.idx (.var 3) (.var 6)) (.cons (.idx (.var 3) (.var 7)) .nil))) (.tupE (.cons (.idx (.var 3) (.var 7)) (.cons (.idx (.var 3) (.var 6)) .nil))))))
abbrev dOrder_f2 : S := (.forS (.var 5) (.blt .range (.cons (.call "_law_take" (.cons (.var 0) (.cons (.cst (.int 4)) .nil))) .nil)) dOrder_b2)
abbrev dOrder_i2 : S := (.ifS (.cmp .eq (.var 4) (.cst (.int 1))) (.seq (.asg (.var 3) (.lrg (.var 1))) (.kill [ 5 , 6 , 7 ] dOrder_f2)) .skip)
def dOrder : Def := ⟨2,  8,
  (.seq (.par [ 2 , 3 , 4 ] (.cons (.lrg (.var 1)) (.cons (.lstE .nil) (.cons (.call "_law_take" (.cons (.var 0) (.cons (.cst (.int 6)) .nil))) .nil)))) (.seq (.kill [ 5 ] dOrder_f1) (.seq dOrder_i1 (.seq dOrder_i2 (.ret (.mv 3))))))⟩
theorem lrg_val {c : Str → List D → CRes} {e : E} {g g1 : List D} {n : Nat} (h : (den c e).val g = .ok (.int (n : Int), false) g1) (hn : n ≤ 1000000) : (den c (.lrg e)).val g = .ok (gsD true (List.range n), false) g1 := by
  rw [v_lrg, h, rb_ok]
  simp only
  rw [if_pos ⟨by omega, by omega⟩, Int.toNat_natCast]
  have : rangeD 0 n = (List.range n).map fun (g : Nat) => D.int (g : Int) := List.map_congr_left fun i _ => by
    show D.int (0 + (i : Int)) = _
    rw [Int.zero_add]
  rw [this]
theorem gs_get {L : List Nat} {k : Nat} (hk : k < L.length) : (L.map fun (g : Nat) => D.int (g : Int))[k]? = some (.int (L[k] : Int)) := by simp [hk]
theorem gs_at {L : List Nat} {k : Nat} (hk : k < L.length) : L2.atI (L.map fun (g : Nat) => D.int (g : Int)) (k : Int) = some (.int (L[k] : Int)) := by
  have : (k : Int) < (L.length : Int) := by omega
  simp [L2.atI, L2.ixN, this, hk]
theorem gs_ix {L : List Nat} {k : Nat} (hk : k < L.length) : L2.ixN L.length (k : Int) = some k := by
  unfold L2.ixN
  rw [if_pos (by omega), if_pos (by omega)]
  rfl
theorem v_lm {c : Str → List D → CRes} {m : Lm} {a es : E} {g : List D} : (den c (.lm m a es)).val g = ((den c a).plc g).bind fun q g =>
  if (quiet es = true ∨ isVar a = true) ∧ isOwnL (getG g q.1 q.2) = true then ((den c es).lst g).bind fun ys g =>
    match allOwn ys, getG g q.1 q.2 with
    | some ds, some (.nd (.lst true) xs) => (match lmD m xs ds with
      | some (d, xs') => .ok (d, false) (setG g q.1 q.2 (.lst true xs'))
      | none => .no)
    | _, _ => .no
  else .no := rfl
theorem pop_turn {c : Str → List D → CRes} (hc : Draws c) {bag : D} (hb : Bag bag) {p k : Nat} {A B : List Nat} {way : D} (hB : 0 < B.length) (hB2 : B.length ≤ 1000) (hA : A.length ≤ 1000) : ∃ bag' A' B', Bag bag' ∧ A'.length = A.length + 1 ∧ B'.length + 1 = B.length ∧ (A' ++ B').Perm (A ++ B) ∧
    sden c dOrder_b1 [bag, .int (p : Int), gsD true B, gsD true A, way, .int (k : Int), .dead, .dead] = .nx [bag', .int (p : Int), gsD true B', gsD true A', way, .dead, .dead, .dead] := by
  have sz := sizeLine_eq
  obtain ⟨v, bag', e, hb', h3, h4⟩ := draw_call (c := c) hc (i := 0) (m := .blt .len (.cons (.var 2) .nil)) (g := [bag, .int (p : Int), gsD true B, gsD true A, way, .int (k : Int), .dead, .dead]) (many := (B.length : Int)) rfl hb rfl (by simp [v_cst, v_glb, v_var, v_bin, t_cmp, v_cmp, v_neg, v_not, t_not, t_and, t_or, v_and, v_or, v_ife, l_nil, l_cons, v_tup, v_lst, v_idx, v_slc, p_part, v_rev, v_lrg, v_blt, v_mv, v_frz, t_nil, t_var, t_idx, t_blt, s_var, s_tup, s_cons, s_nil, w_skip, w_seq, w_expr, w_asg, w_par, w_ret, w_if, w_kill, rb_ok, rs_ok, sb_nx, sb_rt, o_some, varD, mvD, mkV, late, quiet, isVar, own1, D.isDead, D.pers, partI, b_add, b_sub, b_mod, c_lt, c_le, c_gt, c_ge, c_eq, c_ne, e_int, e_str, truD, f_len, f_lenT, f_min2, f_max2, f_intB, f_intI, idxD, allOwn, mkLst, mkTup, asgTup, asgCons, asgNil, cntE]) (by omega) (by omega)
  obtain ⟨j, rfl⟩ := Int.eq_ofNat_of_zero_le h3
  have hj : j < B.length := by omega
  simp only [List.set_cons_zero] at e
  refine ⟨bag', A ++ [B[j]], B.eraseIdx j, hb', by simp, by rw [List.length_eraseIdx_of_lt hj]; omega, pop_perm hj, ?_⟩
  have er : (B.map fun (g : Nat) => D.int (g : Int)).eraseIdx j = (B.eraseIdx j).map fun (g : Nat) => D.int (g : Int) := by
    rw [List.eraseIdx_eq_take_drop_succ, List.eraseIdx_eq_take_drop_succ, List.map_append, List.map_take, List.map_drop]
  have pv : (den c (.lm .popAt (.var 2) (.cons (.call "_law_take" (.cons (.var 0) (.cons (.blt .len (.cons (.var 2) .nil)) .nil))) .nil))).val [bag, .int (p : Int), gsD true B, gsD true A, way, .int (k : Int), .dead, .dead] = .ok (.int (B[j] : Int), false) [bag', .int (p : Int), gsD true (B.eraseIdx j), gsD true A, way, .int (k : Int), .dead, .dead] := by
    have l1 : (den c (.cons (.call "_law_take" (.cons (.var 0) (.cons (.blt .len (.cons (.var 2) .nil)) .nil))) .nil)).lst [bag, .int (p : Int), gsD true B, gsD true A, way, .int (k : Int), .dead, .dead] = .ok [(.int (j : Int), false)] [bag', .int (p : Int), gsD true B, gsD true A, way, .int (k : Int), .dead, .dead] := by
      rw [l_cons, e]
      rfl
    have sq : seqIndex? (j : Int) B.length = some j := seqIndex_of (by omega) (by omega)
    have f1 : lmD .popAt (B.map fun (g : Nat) => D.int (g : Int)) [.int (j : Int)] = some (.int (B[j] : Int), (B.eraseIdx j).map fun (g : Nat) => D.int (g : Int)) := by
      simp only [lmD, List.length_map, sq, gs_get hj, D.isDead, Bool.false_eq_true, if_false, er]
      rw [if_pos ⟨by omega, by omega⟩]
    have p1 : (den c (.var 2)).plc [bag, .int (p : Int), gsD true B, gsD true A, way, .int (k : Int), .dead, .dead] = .ok (2, []) [bag, .int (p : Int), gsD true B, gsD true A, way, .int (k : Int), .dead, .dead] := rfl
    rw [v_lm, p1, rb_ok, if_pos ⟨.inr rfl, rfl⟩, l1, rb_ok]
    have gg : getG [bag', .int (p : Int), gsD true B, gsD true A, way, .int (k : Int), .dead, .dead] 2 [] = some (gsD true B) := rfl
    simp only [allOwn, if_true, Option.map, gg, f1]
    rfl
  have ap := app_lst (c := c) (i := 3) (xs := A.map fun (g : Nat) => D.int (g : Int)) (g := [bag, .int (p : Int), gsD true B, gsD true A, way, .int (k : Int), .dead, .dead]) rfl (.inr trivial) pv rfl rfl (by simp; omega)
  rw [kill_nx ap]
  simp [wipe]
theorem range_draw {c : Str → List D → CRes} {e : E} {g g1 : List D} {n : Nat} (h : (den c (.cons e .nil)).lst g = .ok [(.int (n : Int), false)] g1) (hn : n ≤ 100000) : (den c (.blt .range (.cons e .nil))).itr g = .ok (.fix (rangeD 0 n)) g1 := by
  rw [i_range, h, rb_ok]
  simp only [rangeS]
  rw [if_pos (smallI_nat hn), o_some, Int.toNat_natCast]
theorem seq_rt {c : Str → List D → CRes} {a b : S} {g g1 : List D} {d : D} (h : sden c a g = .rt d g1) : sden c (.seq a b) g = .rt d g1 := by
  rw [w_seq, h]; rfl
theorem set_idx {c : Str → List D → CRes} {i j k : Nat} {L : List Nat} {z : Nat} {g : List D} (hi : g[i]? = some (gsD true L)) (hj : g[j]? = some (.int (k : Int))) (hk : k < L.length) : (den c (.idx (.var i) (.var j))).asg (.int (z : Int)) g = .ok () (g.set i (gsD true (L.set k z))) := by
  have q : (L.map fun (g : Nat) => D.int (g : Int)).set k (.int (z : Int)) = (L.set k z).map fun (g : Nat) => D.int (g : Int) := by rw [List.map_set]
  have e1 : getG g i [] = some (gsD true L) := by unfold getG; rw [hi]; rfl
  rw [s_idx]
  unfold asgIdx
  have p1 : (den c (.var i)).plc g = .ok (i, []) g := by
    rw [p_var]
    unfold varD
    rw [hi]
    rfl
  have p2 : (den c (.var j)).val g = .ok (.int (k : Int), false) g := by
    rw [v_var]
    unfold varD
    rw [hj]
    rfl
  rw [p1, rb_ok, if_pos (.inr rfl), p2, rb_ok]
  simp only [e1, List.length_map, gs_ix hk, q]
  unfold setG
  rw [hi]
  rfl
theorem get_idx {c : Str → List D → CRes} {i j k : Nat} {L : List Nat} {m : Bool} {g : List D} (hi : g[i]? = some (gsD m L)) (hj : g[j]? = some (.int (k : Int))) (hk : k < L.length) : (den c (.idx (.var i) (.var j))).val g = .ok (.int (L[k] : Int), false) g := by
  have e := gs_at hk
  rw [v_idx]
  cases m <;> simp [v_var, varD, hi, hj, mkV, D.isDead, D.pers, o_some, rb_ok, late, idxD, e]
theorem draw_var {c : Str → List D → CRes} (hc : Draws c) {i j : Nat} {g : List D} {bag : D} {many : Int} (hi : g[i]? = some bag) (hj : g[j]? = some (.int many)) (hij : i ≠ j) (hb : Bag bag) (h1 : 0 < many) (h2 : many < 2 ^ 200) :
    ∃ v bag', (den c (.call "_law_take" (.cons (.var i) (.cons (.var j) .nil)))).val g = .ok (.int v, false) (g.set i bag') ∧ Bag bag' ∧ 0 ≤ v ∧ v < many := by
  obtain ⟨v, bag', e, hb', h3, h4⟩ := hc bag many hb h1 h2
  refine ⟨v, bag', call_bag1 (as := [.r j]) (ds := [.int many]) hi hb (args_cons (arg_r hj rfl) rfl) ?_ e ?_, hb', h3, h4⟩
  · simp [takeA, List.getElem?_set_ne hij, hj, D.isDead, D.pers]
  · simp [backA, D.pers]
theorem swap_turn {c : Str → List D → CRes} (hc : Draws c) {bag : D} (hb : Bag bag) {p : Nat} {L : List Nat} {left way kk : D} (hL : L.length = p) (hp : 0 < p) (hp2 : p ≤ 1000) : ∃ bag' L', Bag bag' ∧ L'.Perm L ∧
    sden c dOrder_b2 [bag, .int (p : Int), left, gsD true L, way, kk, .dead, .dead] = .nx [bag', .int (p : Int), left, gsD true L', way, .dead, .dead, .dead] := by
  have sz := sizeLine_eq
  obtain ⟨v, b1, d1, hb1, v0, v1⟩ := draw_var (c := c) hc (i := 0) (j := 1) (g := [bag, .int (p : Int), left, gsD true L, way, kk, .dead, .dead]) (many := (p : Int)) rfl rfl (by decide) hb (by omega) (by omega)
  simp only [List.set_cons_zero] at d1
  obtain ⟨w, b2, d2, hb2, w0, w1⟩ := draw_var (c := c) hc (i := 0) (j := 1) (g := [b1, .int (p : Int), left, gsD true L, way, kk, .dead, .dead]) (many := (p : Int)) rfl rfl (by decide) hb1 (by omega) (by omega)
  simp only [List.set_cons_zero] at d2
  obtain ⟨i, rfl⟩ := Int.eq_ofNat_of_zero_le v0
  obtain ⟨j, rfl⟩ := Int.eq_ofNat_of_zero_le w0
  have hi : i < L.length := by omega
  have hj : j < L.length := by omega
  refine ⟨b2, (L.set i L[j]).set j L[i], hb2, swap_perm hi hj, ?_⟩
  have e1 : sden c (.par [6, 7] (.cons (.call "_law_take" (.cons (.var 0) (.cons (.var 1) .nil))) (.cons (.call "_law_take" (.cons (.var 0) (.cons (.var 1) .nil))) .nil))) [bag, .int (p : Int), left, gsD true L, way, kk, .dead, .dead] = .nx [b2, .int (p : Int), left, gsD true L, way, kk, .int (i : Int), .int (j : Int)] := by
    rw [w_par, l_cons, d1, rb_ok, l_cons, d2]
    simp [rb_ok, rs_ok, l_nil, late, allOwn, setAll]
  have q1 := get_idx (c := c) (i := 3) (j := 7) (L := L) (m := true) (g := [b2, .int (p : Int), left, gsD true L, way, kk, .int (i : Int), .int (j : Int)]) rfl rfl hj
  have q2 := get_idx (c := c) (i := 3) (j := 6) (L := L) (m := true) (g := [b2, .int (p : Int), left, gsD true L, way, kk, .int (i : Int), .int (j : Int)]) rfl rfl hi
  have t1 : (den c (.tupE (.cons (.idx (.var 3) (.var 7)) (.cons (.idx (.var 3) (.var 6)) .nil)))).val [b2, .int (p : Int), left, gsD true L, way, kk, .int (i : Int), .int (j : Int)] = .ok (.tup [.int (L[j] : Int), .int (L[i] : Int)], false) [b2, .int (p : Int), left, gsD true L, way, kk, .int (i : Int), .int (j : Int)] := by
    rw [v_tup, l_cons, q1, rb_ok, l_cons, q2]
    simp [rb_ok, l_nil, late, mkTup, allOwn, sz, o_some]
  have s1 := set_idx (c := c) (i := 3) (j := 6) (L := L) (z := L[j]) (g := [b2, .int (p : Int), left, gsD true L, way, kk, .int (i : Int), .int (j : Int)]) rfl rfl hi
  have s2 := set_idx (c := c) (i := 3) (j := 7) (L := L.set i L[j]) (z := L[i]) (g := [b2, .int (p : Int), left, gsD true (L.set i L[j]), way, kk, .int (i : Int), .int (j : Int)]) rfl rfl (by rw [List.length_set]; exact hj)
  have s3 : (den c (.tupE (.cons (.idx (.var 3) (.var 6)) (.cons (.idx (.var 3) (.var 7)) .nil)))).asg (.tup [.int (L[j] : Int), .int (L[i] : Int)]) [b2, .int (p : Int), left, gsD true L, way, kk, .int (i : Int), .int (j : Int)] = .ok () [b2, .int (p : Int), left, gsD true ((L.set i L[j]).set j L[i]), way, kk, .int (i : Int), .int (j : Int)] := by
    simp only [List.set_cons_zero, List.set_cons_succ] at s1 s2
    rw [s_tup]
    simp only [asgTup, cntE, List.length_cons, List.length_nil, if_true, s_cons, asgCons, s1, rb_ok, s2, s_nil, asgNil]
  have b := seq_nx (b := .asg (.tupE (.cons (.idx (.var 3) (.var 6)) (.cons (.idx (.var 3) (.var 7)) .nil))) (.tupE (.cons (.idx (.var 3) (.var 7)) (.cons (.idx (.var 3) (.var 6)) .nil)))) e1
  rw [asg_nx t1 s3] at b
  rw [kill_nx b]
  rfl
theorem order_ok {c : Str → List D → CRes} (hc : Draws c) {bag : D} (hb : Bag bag) {p : Nat} (hp : 1 ≤ p) (hp2 : p ≤ 1000) : ∃ L bag', dOrder.run c [bag, .int (p : Int)] = .ok (gsD true L) [bag', .int (p : Int)] ∧ Bag bag' ∧ IsOrd p L := by
  have sz := sizeLine_eq
  obtain ⟨way, b1, d1, hb1, _, _⟩ := draw_call (c := c) hc (i := 0) (m := .cst (.int 6)) (g := [bag, .int (p : Int), .dead, .dead, .dead, .dead, .dead, .dead]) (many := 6) rfl hb rfl rfl (by omega) (by omega)
  simp only [List.set_cons_zero] at d1
  have e1 : sden c (.par [2, 3, 4] (.cons (.lrg (.var 1)) (.cons (.lstE .nil) (.cons (.call "_law_take" (.cons (.var 0) (.cons (.cst (.int 6)) .nil))) .nil)))) [bag, .int (p : Int), .dead, .dead, .dead, .dead, .dead, .dead] = .nx [b1, .int (p : Int), gsD true (List.range p), gsD true [], .int way, .dead, .dead, .dead] := by
    have q := lrg_val (c := c) (e := .var 1) (g := [bag, .int (p : Int), .dead, .dead, .dead, .dead, .dead, .dead]) (n := p) rfl (by omega)
    rw [w_par, l_cons, q, rb_ok, l_cons, lst_nil, rb_ok, l_cons, d1]
    simp [rb_ok, rs_ok, l_nil, late, allOwn, setAll]
  obtain ⟨g', h1, b2, A, B, hb2, lA, lB, pm, rfl⟩ := for_P (c := c) (t := .var 5) (b := dOrder_b1) (it := .blt .range (.cons (.var 1) .nil)) (g := [b1, .int (p : Int), gsD true (List.range p), gsD true [], .int way, .dead, .dead, .dead]) (src := .fix (rangeD 0 p)) (n := p) (fun k => .int (0 + (k : Int)))
    (fun k g => ∃ bag A B, Bag bag ∧ A.length = k ∧ B.length + k = p ∧ (A ++ B).Perm (List.range p) ∧ g = [bag, .int (p : Int), gsD true B, gsD true A, .int way, .dead, .dead, .dead])
    (range_itr rfl (by omega)) rfl (by rw [rangeD_rg]; exact len_fix) ⟨b1, [], List.range p, hb1, rfl, by simp, by simp, rfl⟩ (fun k g hk _ => by rw [rangeD_rg]; exact fix_rg hk) (fun k g hk hP => by
      obtain ⟨bag, A, B, hb, lA, lB, pm, rfl⟩ := hP
      obtain ⟨bag', A', B', hb', lA', lB', pm', e⟩ := pop_turn (c := c) hc hb (p := p) (k := k) (A := A) (B := B) (way := .int way) (by omega) (by omega) (by omega)
      refine ⟨[bag, .int (p : Int), gsD true B, gsD true A, .int way, .int (k : Int), .dead, .dead], by simp [s_var], _, .inl e, bag', A', B', hb', by omega, by omega, pm'.trans pm, rfl⟩)
  have hB : B = [] := List.length_eq_zero_iff.mp (by omega)
  subst hB
  rw [List.append_nil] at pm
  have k1 := kill_nx (is := [5]) h1
  have k1 : sden c (.kill [5] dOrder_f1) [b1, .int (p : Int), gsD true (List.range p), gsD true [], .int way, .dead, .dead, .dead] = .nx [b2, .int (p : Int), gsD true [], gsD true A, .int way, .dead, .dead, .dead] := k1
  have fin : ∀ (L : List Nat) (bg : D) (g : List D), Bag bg → L.Perm (List.range p) → sden c (.seq dOrder_i1 (.seq dOrder_i2 (.ret (.mv 3)))) [b2, .int (p : Int), gsD true [], gsD true A, .int way, .dead, .dead, .dead] = .rt (gsD true L) (bg :: .int (p : Int) :: g) → g.length = 6 → ∃ L bag', dOrder.run c [bag, .int (p : Int)] = .ok (gsD true L) [bag', .int (p : Int)] ∧ Bag bag' ∧ IsOrd p L := fun L bg g hbg hL h hg => by
    refine ⟨L, bg, ?_, hbg, .of_perm hL⟩
    have body : sden c dOrder.body ([bag, .int (p : Int)] ++ List.replicate (dOrder.nn - dOrder.np) .dead) = .rt (gsD true L) (bg :: .int (p : Int) :: g) := by
      show sden c (.seq (.par [2, 3, 4] _) (.seq (.kill [5] dOrder_f1) (.seq dOrder_i1 (.seq dOrder_i2 (.ret (.mv 3)))))) [bag, .int (p : Int), .dead, .dead, .dead, .dead, .dead, .dead] = _
      rw [seq_nx e1, seq_nx k1, h]
    rw [run_rt rfl body]
    match g, hg with
    | [_, _, _, _, _, _], _ => rfl
  have retm : ∀ (L : List Nat) (bg : D), sden c (.ret (.mv 3)) [bg, .int (p : Int), gsD true [], gsD true L, .int way, .dead, .dead, .dead] = .rt (gsD true L) [bg, .int (p : Int), gsD true [], .dead, .int way, .dead, .dead, .dead] := fun L bg => by
    simp [w_ret, v_mv, mvD, D.isDead, D.pers, rs_ok, own1]
  by_cases w0 : way = 0
  · have x : sden c dOrder_i1 [b2, .int (p : Int), gsD true [], gsD true A, .int way, .dead, .dead, .dead] = .rt (gsD true (List.range p).reverse) [b2, .int (p : Int), gsD true [], gsD true A, .int way, .dead, .dead, .dead] := by
      have q := lrg_val (c := c) (e := .var 1) (g := [b2, .int (p : Int), gsD true [], gsD true A, .int way, .dead, .dead, .dead]) (n := p) rfl (by omega)
      have t : (den c (.cmp .eq (.var 4) (.cst (.int 0)))).tst [b2, .int (p : Int), gsD true [], gsD true A, .int way, .dead, .dead, .dead] = .ok true [b2, .int (p : Int), gsD true [], gsD true A, .int way, .dead, .dead, .dead] := by
        simp [v_cst, v_glb, v_var, v_bin, t_cmp, v_cmp, v_neg, v_not, t_not, t_and, t_or, v_and, v_or, v_ife, l_nil, l_cons, v_tup, v_lst, v_idx, v_slc, p_part, v_rev, v_lrg, v_blt, v_mv, v_frz, t_nil, t_var, t_idx, t_blt, s_var, s_tup, s_cons, s_nil, w_skip, w_seq, w_expr, w_asg, w_par, w_ret, w_if, w_kill, rb_ok, rs_ok, sb_nx, sb_rt, o_some, varD, mvD, mkV, late, quiet, isVar, own1, D.isDead, D.pers, partI, b_add, b_sub, b_mod, c_lt, c_le, c_gt, c_ge, c_eq, c_ne, e_int, e_str, truD, f_len, f_lenT, f_min2, f_max2, f_intB, f_intI, idxD, allOwn, mkLst, mkTup, asgTup, asgCons, asgNil, cntE, w0]
      rw [if_t t]
      refine ret_rt ?_
      rw [v_rev, q, rb_ok]
      simp [revD, shares, persL_gs, o_some]
    exact fin (List.range p).reverse b2 [gsD true [], gsD true A, .int way, .dead, .dead, .dead] hb2 (List.reverse_perm _) (seq_rt x) rfl
  · have x : sden c dOrder_i1 [b2, .int (p : Int), gsD true [], gsD true A, .int way, .dead, .dead, .dead] = .nx [b2, .int (p : Int), gsD true [], gsD true A, .int way, .dead, .dead, .dead] := by
      rw [w_if, t_cmp]
      simp [v_cst, v_glb, v_var, v_bin, t_cmp, v_cmp, v_neg, v_not, t_not, t_and, t_or, v_and, v_or, v_ife, l_nil, l_cons, v_tup, v_lst, v_idx, v_slc, p_part, v_rev, v_lrg, v_blt, v_mv, v_frz, t_nil, t_var, t_idx, t_blt, s_var, s_tup, s_cons, s_nil, w_skip, w_seq, w_expr, w_asg, w_par, w_ret, w_if, w_kill, rb_ok, rs_ok, sb_nx, sb_rt, o_some, varD, mvD, mkV, late, quiet, isVar, own1, D.isDead, D.pers, partI, b_add, b_sub, b_mod, c_lt, c_le, c_gt, c_ge, c_eq, c_ne, e_int, e_str, truD, f_len, f_lenT, f_min2, f_max2, f_intB, f_intI, idxD, allOwn, mkLst, mkTup, asgTup, asgCons, asgNil, cntE, w0]
    by_cases w1 : way = 1
    · have q := lrg_val (c := c) (e := .var 1) (g := [b2, .int (p : Int), gsD true [], gsD true A, .int way, .dead, .dead, .dead]) (n := p) rfl (by omega)
      obtain ⟨v, b3, d3, hb3, v0, v1⟩ := draw_call (c := c) hc (i := 0) (m := .cst (.int 4)) (g := [b2, .int (p : Int), gsD true [], gsD true (List.range p), .int way, .dead, .dead, .dead]) (many := 4) rfl hb2 rfl rfl (by omega) (by omega)
      simp only [List.set_cons_zero] at d3
      obtain ⟨n, rfl⟩ := Int.eq_ofNat_of_zero_le v0
      have hi : (den c (.blt .range (.cons (.call "_law_take" (.cons (.var 0) (.cons (.cst (.int 4)) .nil))) .nil))).itr [b2, .int (p : Int), gsD true [], gsD true (List.range p), .int way, .dead, .dead, .dead] = .ok (.fix (rangeD 0 n)) [b3, .int (p : Int), gsD true [], gsD true (List.range p), .int way, .dead, .dead, .dead] := by
        have l1 : (den c (.cons (.call "_law_take" (.cons (.var 0) (.cons (.cst (.int 4)) .nil))) .nil)).lst [b2, .int (p : Int), gsD true [], gsD true (List.range p), .int way, .dead, .dead, .dead] = .ok [(.int (n : Int), false)] [b3, .int (p : Int), gsD true [], gsD true (List.range p), .int way, .dead, .dead, .dead] := by
          rw [l_cons, d3]
          rfl
        exact range_draw l1 (by omega)
      obtain ⟨g', h2, b4, L, hb4, pL, rfl⟩ := for_P (c := c) (t := .var 5) (b := dOrder_b2) (src := .fix (rangeD 0 n)) (n := n) (fun k => .int (0 + (k : Int))) (fun k g => ∃ bag L, Bag bag ∧ L.Perm (List.range p) ∧ g = [bag, .int (p : Int), gsD true [], gsD true L, .int way, .dead, .dead, .dead]) hi rfl (by rw [rangeD_rg]; exact len_fix) ⟨b3, List.range p, hb3, .refl _, rfl⟩ (fun k g hk _ => by rw [rangeD_rg]; exact fix_rg hk) (fun k g hk hP => by
        obtain ⟨bag, L, hb, pL, rfl⟩ := hP
        obtain ⟨bag', L', hb', pL', e⟩ := swap_turn (c := c) hc hb (p := p) (L := L) (left := gsD true []) (way := .int way) (kk := .int (0 + (k : Int))) (by rw [pL.length_eq, List.length_range]) (by omega) hp2
        exact ⟨[bag, .int (p : Int), gsD true [], gsD true L, .int way, .int (0 + (k : Int)), .dead, .dead], by simp [s_var], _, .inl e, bag', L', hb', pL'.trans pL, rfl⟩)
      have k2 : sden c (.kill [5, 6, 7] dOrder_f2) [b2, .int (p : Int), gsD true [], gsD true (List.range p), .int way, .dead, .dead, .dead] = .nx [b4, .int (p : Int), gsD true [], gsD true L, .int way, .dead, .dead, .dead] := kill_nx (is := [5, 6, 7]) h2
      have y : sden c dOrder_i2 [b2, .int (p : Int), gsD true [], gsD true A, .int way, .dead, .dead, .dead] = .nx [b4, .int (p : Int), gsD true [], gsD true L, .int way, .dead, .dead, .dead] := by
        have t : (den c (.cmp .eq (.var 4) (.cst (.int 1)))).tst [b2, .int (p : Int), gsD true [], gsD true A, .int way, .dead, .dead, .dead] = .ok true [b2, .int (p : Int), gsD true [], gsD true A, .int way, .dead, .dead, .dead] := by
          simp [v_cst, v_glb, v_var, v_bin, t_cmp, v_cmp, v_neg, v_not, t_not, t_and, t_or, v_and, v_or, v_ife, l_nil, l_cons, v_tup, v_lst, v_idx, v_slc, p_part, v_rev, v_lrg, v_blt, v_mv, v_frz, t_nil, t_var, t_idx, t_blt, s_var, s_tup, s_cons, s_nil, w_skip, w_seq, w_expr, w_asg, w_par, w_ret, w_if, w_kill, rb_ok, rs_ok, sb_nx, sb_rt, o_some, varD, mvD, mkV, late, quiet, isVar, own1, D.isDead, D.pers, partI, b_add, b_sub, b_mod, c_lt, c_le, c_gt, c_ge, c_eq, c_ne, e_int, e_str, truD, f_len, f_lenT, f_min2, f_max2, f_intB, f_intI, idxD, allOwn, mkLst, mkTup, asgTup, asgCons, asgNil, cntE, w1]
        rw [if_t t, seq_nx (asg_nx q (var_asg (by simp)))]
        exact k2
      exact fin L b4 [gsD true [], .dead, .int way, .dead, .dead, .dead] hb4 pL (by rw [seq_nx x, seq_nx y]; exact retm L b4) rfl
    · have y : sden c dOrder_i2 [b2, .int (p : Int), gsD true [], gsD true A, .int way, .dead, .dead, .dead] = .nx [b2, .int (p : Int), gsD true [], gsD true A, .int way, .dead, .dead, .dead] := by
        rw [w_if, t_cmp]
        simp [v_cst, v_glb, v_var, v_bin, t_cmp, v_cmp, v_neg, v_not, t_not, t_and, t_or, v_and, v_or, v_ife, l_nil, l_cons, v_tup, v_lst, v_idx, v_slc, p_part, v_rev, v_lrg, v_blt, v_mv, v_frz, t_nil, t_var, t_idx, t_blt, s_var, s_tup, s_cons, s_nil, w_skip, w_seq, w_expr, w_asg, w_par, w_ret, w_if, w_kill, rb_ok, rs_ok, sb_nx, sb_rt, o_some, varD, mvD, mkV, late, quiet, isVar, own1, D.isDead, D.pers, partI, b_add, b_sub, b_mod, c_lt, c_le, c_gt, c_ge, c_eq, c_ne, e_int, e_str, truD, f_len, f_lenT, f_min2, f_max2, f_intB, f_intI, idxD, allOwn, mkLst, mkTup, asgTup, asgCons, asgNil, cntE, w1]
      exact fin A b2 [gsD true [], .dead, .int way, .dead, .dead, .dead] hb2 pm (by rw [seq_nx x, seq_nx y]; exact retm A b2) rfl
end Bm

set_option maxHeartbeats 4000000
/-! B48: the places of an order; its wrong pairs. -/
namespace Bm
open PySem
abbrev dInv_b1 : S := (.kill [ 2 , 3 ] (.asg (.idx (.var 1) (.var 3)) (.mv 2)))
abbrev dInv_f1 : S := (.forS (.tupE (.cons (.var 2) (.cons (.var 3) .nil))) (.blt .enumerate (.cons (.var 0) .nil)) dInv_b1)
def dInv : Def := ⟨1,  4,
  (.seq (.asg (.var 1) (.bin .mul (.lstE (.cons (.cst (.int 0)) .nil)) (.blt .len (.cons (.var 0) .nil)))) (.seq (.kill [ 2 , 3 ] dInv_f1) (.ret (.mv 1))))⟩
abbrev dWP_e1 : E := (.tupE (.cons (.var 3) (.cons (.var 4) .nil)))
abbrev dWP_c1 : E := (.comp2 dWP_e1 (.var 3) (.blt .range (.cons (.var 2) .nil)) .nil (.var 4) (.blt .range (.cons (.bin .add (.var 3) (.cst (.int 1))) (.cons (.var 2) .nil))) (.cmp .lt (.idx (.var 1) (.var 4)) (.idx (.var 1) (.var 3))) [ 3 , 4 ] [ 4 ])
def dWP : Def := ⟨1,  5,
  (.seq (.asg (.var 1) (.call "inverse" (.cons (.var 0) .nil))) (.seq (.asg (.var 2) (.blt .len (.cons (.var 0) .nil))) (.ret dWP_c1)))⟩
abbrev dPairs_e1 : E := (.tupE (.cons (.var 2) (.cons (.var 3) .nil)))
abbrev dPairs_c1 : E := (.comp dPairs_e1 (.var 3) (.blt .range (.cons (.bin .add (.var 2) (.cst (.int 1))) (.cons (.blt .len (.cons (.var 0) .nil)) .nil))) (.cmp .lt (.idxOf (.var 0) (.var 3)) (.idxOf (.var 0) (.var 2))) [ 3 ])
abbrev dPairs_b1 : S := (.kill [ 2 ] (.asg (.var 1) (.bin .add (.var 1) dPairs_c1)))
abbrev dPairs_f1 : S := (.forS (.var 2) (.blt .range (.cons (.blt .len (.cons (.var 0) .nil)) .nil)) dPairs_b1)
def dPairs : Def := ⟨1,  4,
  (.seq (.asg (.var 1) (.lstE .nil)) (.seq (.kill [ 2 ] dPairs_f1) (.ret (.mv 1))))⟩
theorem set_idxD {c : Str → List D → CRes} {i j k : Nat} {xs : List D} {d : D} {g : List D} (hi : g[i]? = some (.lst true xs)) (hj : g[j]? = some (.int (k : Int))) (hk : k < xs.length) : (den c (.idx (.var i) (.var j))).asg d g = .ok () (g.set i (.lst true (xs.set k d))) := by
  have e1 : getG g i [] = some (.lst true xs) := by unfold getG; rw [hi]; rfl
  have ix : L2.ixN xs.length (k : Int) = some k := by
    unfold L2.ixN
    rw [if_pos (by omega), if_pos (by omega)]
    rfl
  rw [s_idx]
  unfold asgIdx
  have p1 : (den c (.var i)).plc g = .ok (i, []) g := by
    rw [p_var]
    unfold varD
    rw [hi]
    rfl
  have p2 : (den c (.var j)).val g = .ok (.int (k : Int), false) g := by
    rw [v_var]
    unfold varD
    rw [hj]
    rfl
  rw [p1, rb_ok, if_pos (.inr rfl), p2, rb_ok]
  simp only [e1, ix]
  unfold setG
  rw [hi]
  rfl
theorem gs_lsr {c : Str → List D → CRes} {m : Bool} {L : List Nat} {g : List D} {i : Nat} (hi : g[i]? = some (gsD m L)) : ∃ src : Src, (den c (.var i)).lsr g = .ok src g ∧ (∀ j, j ∈ src.names → j = i) ∧ (∀ g' : List D, g'[i]? = some (gsD m L) → src.len g' = L.length) ∧ ∀ (k : Nat) (g' : List D), g'[i]? = some (gsD m L) → k ≤ L.length → src.at g' k = some (if k < L.length then some (.int (L.getD k 0 : Nat)) else none) := by
  have x : ∀ k, k < L.length → (L.map fun (g : Nat) => D.int (g : Int))[k]? = some (.int (L.getD k 0 : Nat)) := fun k hk => by simp [hk]
  cases m with
  | true =>
    refine ⟨.live i, by rw [r_var]; simp [isLive, hi], fun j hj => by simpa [Src.names] using hj, fun g' h => by simp [Src.len, h], fun k g' h hk => ?_⟩
    simp only [Src.at, h]
    by_cases hl : k < L.length
    · rw [x k hl]
      simp [hl, D.pers]
    · rw [List.getElem?_eq_none (by simp; omega), if_neg hl]
  | false =>
    refine ⟨.fix (L.map fun (g : Nat) => D.int (g : Int)), by rw [r_var]; simp [isLive, hi, iterL, v_var, varD, mkV, D.isDead, D.pers, o_some, rb_ok], fun j hj => by simp [Src.names] at hj, fun g' h => by simp [Src.len], fun k g' h hk => ?_⟩
    rw [at_fix]
    by_cases hl : k < L.length
    · rw [x k hl, if_pos hl]
    · rw [List.getElem?_eq_none (by simp; omega), if_neg hl]
theorem inverse_ok {c : Str → List D → CRes} {m : Bool} {n : Nat} {L : List Nat} (h : IsOrd n L) (hn : n ≤ 1000) : dInv.run c [gsD m L] = .ok (gsD true (invL n L)) [gsD m L] := by
  have sz := sizeLine_eq
  have hl := h.len
  have e1 : sden c (.asg (.var 1) (.bin .mul (.lstE (.cons (.cst (.int 0)) .nil)) (.blt .len (.cons (.var 0) .nil)))) [gsD m L, .dead, .dead, .dead] = .nx [gsD m L, .lst true (rg n fun _ => .int 0), .dead, .dead] := by
    have q : (List.replicate n (D.int 0)) = rg n fun _ => .int 0 := by
      unfold rg
      rw [List.map_const', List.length_range]
    have v1 : (den c (.lstE (.cons (.cst (.int 0)) .nil))).val [gsD m L, .dead, .dead, .dead] = .ok (.lst true [.int 0], false) [gsD m L, .dead, .dead, .dead] := by simp [v_cst, v_glb, v_var, v_bin, t_cmp, v_cmp, v_neg, v_not, t_not, t_and, t_or, v_and, v_or, v_ife, l_nil, l_cons, v_tup, v_lst, v_idx, v_slc, p_part, v_rev, v_lrg, v_blt, v_mv, v_frz, t_nil, t_var, t_idx, t_blt, s_var, s_tup, s_cons, s_nil, w_skip, w_seq, w_expr, w_asg, w_par, w_ret, w_if, w_kill, rb_ok, rs_ok, sb_nx, sb_rt, o_some, varD, mvD, mkV, late, quiet, isVar, own1, D.isDead, D.pers, partI, b_add, b_sub, b_mod, c_lt, c_le, c_gt, c_ge, c_eq, c_ne, e_int, e_str, truD, f_len, f_lenT, f_min2, f_max2, f_intB, f_intI, idxD, allOwn, mkLst, mkTup, asgTup, asgCons, asgNil, cntE, sz]
    have v2 : (den c (.blt .len (.cons (.var 0) .nil))).val [gsD m L, .dead, .dead, .dead] = .ok (.int (n : Int), false) [gsD m L, .dead, .dead, .dead] := by
      cases m <;> simp [v_cst, v_glb, v_var, v_bin, t_cmp, v_cmp, v_neg, v_not, t_not, t_and, t_or, v_and, v_or, v_ife, l_nil, l_cons, v_tup, v_lst, v_idx, v_slc, p_part, v_rev, v_lrg, v_blt, v_mv, v_frz, t_nil, t_var, t_idx, t_blt, s_var, s_tup, s_cons, s_nil, w_skip, w_seq, w_expr, w_asg, w_par, w_ret, w_if, w_kill, rb_ok, rs_ok, sb_nx, sb_rt, o_some, varD, mvD, mkV, late, quiet, isVar, own1, D.isDead, D.pers, partI, b_add, b_sub, b_mod, c_lt, c_le, c_gt, c_ge, c_eq, c_ne, e_int, e_str, truD, f_len, f_lenT, f_min2, f_max2, f_intB, f_intI, idxD, allOwn, mkLst, mkTup, asgTup, asgCons, asgNil, cntE, hl]
    have v3 := bin_val (c := c) (o := .mul) rfl v1 v2
    rw [mul_lst (by omega) (by simp; omega) rfl, repl_one, q] at v3
    exact asg_nx v3 (var_asg (by simp))
  obtain ⟨src, s1, s2, s3, s4⟩ := gs_lsr (c := c) (m := m) (L := L) (g := [gsD m L, .lst true (rg n fun r => .int (if L.idxOf r < 0 then (L.idxOf r : Int) else 0)), .dead, .dead]) (i := 0) rfl
  have lp := for_fn (c := c) (t := .tupE (.cons (.var 2) (.cons (.var 3) .nil))) (it := .blt .enumerate (.cons (.var 0) .nil)) (b := dInv_b1) (src := .enum src) (n := n) (g := [gsD m L, .lst true (rg n fun r => .int (if L.idxOf r < 0 then (L.idxOf r : Int) else 0)), .dead, .dead])
    (fun k => .tup [.int (k : Int), .int (L.getD k 0 : Nat)]) (fun k => [gsD m L, .lst true (rg n fun r => .int (if L.idxOf r < k then (L.idxOf r : Int) else 0)), .dead, .dead])
    (by rw [i_enum, s1]; rfl) (by
      show (src.names.all fun i => !(asgE (.tupE (.cons (.var 2) (.cons (.var 3) .nil))) ++ asgS dInv_b1).contains i) = true
      rw [List.all_eq_true]
      intro j hj
      rw [s2 j hj]
      rfl) (by show src.len _ = n; rw [s3 _ rfl, hl]) (fun k hk => by
      have := s4 k [gsD m L, .lst true (rg n fun r => .int (if L.idxOf r < k then (L.idxOf r : Int) else 0)), .dead, .dead] rfl (by omega)
      rw [hl] at this
      exact enum_at this) (fun k hk => by
      have hk2 : k < L.length := by omega
      have hx := h.lt _ (List.getElem_mem hk2)
      have gd : L.getD k 0 = L[k] := by simp [hk2]
      refine ⟨[gsD m L, .lst true (rg n fun r => .int (if L.idxOf r < k then (L.idxOf r : Int) else 0)), .int (k : Int), .int (L.getD k 0 : Nat)], by simp [v_cst, v_glb, v_var, v_bin, t_cmp, v_cmp, v_neg, v_not, t_not, t_and, t_or, v_and, v_or, v_ife, l_nil, l_cons, v_tup, v_lst, v_idx, v_slc, p_part, v_rev, v_lrg, v_blt, v_mv, v_frz, t_nil, t_var, t_idx, t_blt, s_var, s_tup, s_cons, s_nil, w_skip, w_seq, w_expr, w_asg, w_par, w_ret, w_if, w_kill, rb_ok, rs_ok, sb_nx, sb_rt, o_some, varD, mvD, mkV, late, quiet, isVar, own1, D.isDead, D.pers, partI, b_add, b_sub, b_mod, c_lt, c_le, c_gt, c_ge, c_eq, c_ne, e_int, e_str, truD, f_len, f_lenT, f_min2, f_max2, f_intB, f_intI, idxD, allOwn, mkLst, mkTup, asgTup, asgCons, asgNil, cntE], .inl ?_⟩
      have st := set_idxD (c := c) (i := 1) (j := 3) (k := L.getD k 0) (d := .int (k : Int)) (g := [gsD m L, .lst true (rg n fun r => .int (if L.idxOf r < k then (L.idxOf r : Int) else 0)), .int (k : Int), .int (L.getD k 0 : Nat)]) rfl rfl (by rw [rg_len, gd]; exact hx)
      have q : (rg n fun r => D.int (if L.idxOf r < k then (L.idxOf r : Int) else 0)).set (L.getD k 0) (.int (k : Int)) = rg n fun r => .int (if L.idxOf r < k + 1 then (L.idxOf r : Int) else 0) := by
        rw [rg_set]
        refine rg_congr fun r hr => ?_
        rw [gd]
        by_cases e : r = L[k]
        · subst e
          rw [if_pos rfl, h.idx_at (List.getElem?_eq_getElem hk2), if_pos (by omega)]
        · rw [if_neg e]
          have ne : L.idxOf r ≠ k := fun z => by
            have := (h.at_idx hr).2
            rw [z, List.getElem?_eq_getElem hk2] at this
            exact e (Option.some.inj this).symm
          by_cases h2 : L.idxOf r < k
          · rw [if_pos h2, if_pos (by omega)]
          · rw [if_neg h2, if_neg (by omega)]
      rw [q] at st
      have mv : (den c (.mv 2)).val [gsD m L, .lst true (rg n fun r => .int (if L.idxOf r < k then (L.idxOf r : Int) else 0)), .int (k : Int), .int (L.getD k 0 : Nat)] = .ok (.int (k : Int), false) [gsD m L, .lst true (rg n fun r => .int (if L.idxOf r < k then (L.idxOf r : Int) else 0)), .int (k : Int), .int (L.getD k 0 : Nat)] := rfl
      rw [kill_nx (asg_nx mv st)]
      rfl)
  have fin : (rg n fun r => D.int (if L.idxOf r < n then (L.idxOf r : Int) else 0)) = (invL n L).map fun (g : Nat) => D.int (g : Int) := by
    unfold rg invL
    rw [List.map_map]
    exact List.map_congr_left fun r hr => by
      rw [if_pos (h.at_idx (List.mem_range.mp hr)).1]
      rfl
  rw [fin] at lp
  have z : (rg n fun r => D.int (if L.idxOf r < 0 then (L.idxOf r : Int) else 0)) = rg n fun _ => .int 0 := rg_congr fun r _ => by rw [if_neg (by omega)]
  rw [z] at lp
  have body : sden c dInv.body ([gsD m L] ++ List.replicate (dInv.nn - dInv.np) .dead) = .rt (gsD true (invL n L)) [gsD m L, .dead, .dead, .dead] := by
    show sden c (.seq (.asg (.var 1) (.bin .mul (.lstE (.cons (.cst (.int 0)) .nil)) (.blt .len (.cons (.var 0) .nil)))) (.seq (.kill [2, 3] dInv_f1) (.ret (.mv 1)))) [gsD m L, .dead, .dead, .dead] = _
    rw [seq_nx e1, seq_nx (kill_nx lp)]
    simp [wipe, w_ret, v_mv, mvD, D.isDead, D.pers, rs_ok, own1]
  rw [run_rt rfl body]
  rfl
/-! ### pairs -/
def pairsAt (n : Nat) (L : List Nat) (low : Nat) : List D := ((List.range (n - (low + 1))).filter fun j => decide (L.idxOf (low + 1 + j) < L.idxOf low)).map fun j => .tup [.int (low : Int), .int ((low + 1 + j : Nat) : Int)]
def pairsL (n : Nat) (L : List Nat) : List D := (List.range n).flatMap (pairsAt n L)
theorem pairsAt_len (n : Nat) (L : List Nat) (low : Nat) : (pairsAt n L low).length ≤ n := by
  unfold pairsAt
  rw [List.length_map]
  have := List.length_filter_le (fun j => decide (L.idxOf (low + 1 + j) < L.idxOf low)) (List.range (n - (low + 1)))
  rw [List.length_range] at this
  omega
theorem flat_len {n : Nat} {f : Nat → List D} {m : Nat} (h : ∀ k, (f k).length ≤ m) : ((List.range n).flatMap f).length ≤ n * m := by
  induction n with
  | zero => simp
  | succ n ih =>
    rw [List.range_succ, List.flatMap_append, List.length_append, Nat.succ_mul]
    have := h n
    simp only [List.flatMap_cons, List.flatMap_nil, List.append_nil]
    omega
theorem pairsAt_mem {n : Nat} {L : List Nat} {low : Nat} {x : D} (h : x ∈ pairsAt n L low) : ∃ j, low + 1 + j < n ∧ x = .tup [.int (low : Int), .int ((low + 1 + j : Nat) : Int)] := by
  obtain ⟨j, hj, rfl⟩ := List.mem_map.mp h
  have := List.mem_range.mp (List.mem_filter.mp hj).1
  exact ⟨j, by omega, rfl⟩
theorem pairs_pers {n : Nat} {L : List Nat} {k : Nat} : persL ((List.range k).flatMap (pairsAt n L)) = true := by
  rw [persL_eq, List.all_eq_true]
  intro x hx
  obtain ⟨low, _, hx⟩ := List.mem_flatMap.mp hx
  obtain ⟨j, _, rfl⟩ := pairsAt_mem hx
  rfl
theorem at_pers {n : Nat} {L : List Nat} {k : Nat} : persL (pairsAt n L k) = true := by
  rw [persL_eq, List.all_eq_true]
  intro x hx
  obtain ⟨j, _, rfl⟩ := pairsAt_mem hx
  rfl
theorem comp2_map {c : Str → List D → CRes} {elt tg it tg1 it1 tst1 : E} {own own1 : List Nat} {g g0 : List D} {src : Src} {n : Nat} (x : Nat → D) (zs : Nat → List D) (gw : List D) (hi : (den c it).itr g = .ok src g0) (hn : (src.names.all fun i => !own.contains i) = true) (hl : src.len g0 = n) (hw : wipe g0 own = gw) (hs : ∀ k, k ≤ n → src.at gw k = some (if k < n then some (x k) else none))
    (hb : ∀ k, k < n → ∃ g1 src1 g3 g4, (den c tg).asg (x k) gw = .ok () g1 ∧ (den c it1).itr g1 = .ok src1 g3 ∧ (src1.names.all fun i => !own1.contains i) = true ∧ compGo (den c tg1) (den c tst1) (den c elt) own1 src1 (src1.len g3) 0 (wipe g3 own1) = .ok (zs k) g4 ∧ wipe g4 own = gw) (hz : ((List.range n).flatMap zs).length ≤ sizeLine) :
    (den c (.comp2 elt tg it .nil tg1 it1 tst1 own own1)).val g = .ok (.lst true ((List.range n).flatMap zs), false) (rest g0 gw own) := by
  have go : ∀ m k, k + m = n → compGo2 (den c tg) (den c .nil) (den c elt) (den c tg1) (den c tst1) (den c it1).itr own own1 src m k gw = .ok ((List.range' k m).flatMap zs) gw := by
    intro m
    induction m with
    | zero =>
      intro k e
      obtain rfl : k = n := by omega
      unfold compGo2
      rw [hs k (Nat.le_refl _), if_neg (Nat.lt_irrefl _)]
      rfl
    | succ m ih =>
      intro k e
      obtain ⟨g1, src1, g3, g4, h1, h2, h3, h4, h5⟩ := hb k (by omega)
      unfold compGo2
      rw [hs k (by omega), if_pos (by omega)]
      simp only [h1, rb_ok, t_nil, if_true, h2, h3, h4, h5]
      rw [ih (k + 1) (by omega)]
      rw [List.range'_succ]
      simp only [rb_ok, List.flatMap_cons]
  show Bm.R.bind ((den c it).itr g) _ = _
  rw [hi]
  simp only [Bm.R.bind, if_pos hn, hl, hw, go n 0 (by omega), ← List.range_eq_range', Bm.R.noex, if_pos hz]
theorem range2_itr {c : Str → List D → CRes} {e f : E} {g : List D} {a b : Nat} (h : (den c (.cons e (.cons f .nil))).lst g = .ok [(.int (a : Int), false), (.int (b : Int), false)] g) (ha : a ≤ 100000) (hb : b ≤ 100000) : (den c (.blt .range (.cons e (.cons f .nil)))).itr g = .ok (.fix (rangeD a (b - a))) g := by
  rw [i_range, h, rb_ok]
  simp only [rangeS]
  rw [if_pos ⟨smallI_nat ha, smallI_nat hb⟩, o_some]
  congr 3
  omega
theorem pairs_inner {c : Str → List D → CRes} {tg1 tst1 elt : E} {own1 : List Nat} {n low : Nat} {L : List Nat} {gw : List D} (hb : ∀ j, low + 1 + j < n → ∃ g1, (den c tg1).asg (.int (((low + 1 : Nat) : Int) + (j : Int))) gw = .ok () g1 ∧ (den c tst1).tst g1 = .ok (decide (L.idxOf (low + 1 + j) < L.idxOf low)) g1 ∧ (den c elt).val g1 = .ok (.tup [.int (low : Int), .int ((low + 1 + j : Nat) : Int)], false) g1 ∧ wipe g1 own1 = gw) :
    compGo (den c tg1) (den c tst1) (den c elt) own1 (.fix (rangeD ((low + 1 : Nat) : Int) (n - (low + 1)))) (n - (low + 1)) 0 gw = .ok (pairsAt n L low) gw := by
  obtain ⟨g', h1, h2⟩ := comp_flt (T := den c tg1) (C := den c tst1) (A := den c elt) (own := own1) (src := .fix (rangeD ((low + 1 : Nat) : Int) (n - (low + 1)))) (x := fun j => .int (((low + 1 : Nat) : Int) + (j : Int))) (y := fun j => .tup [.int (low : Int), .int ((low + 1 + j : Nat) : Int)]) (c := fun j => decide (L.idxOf (low + 1 + j) < L.idxOf low)) (n := n - (low + 1)) (fun _ g => g = gw) (fun k g hk e => by rw [rangeD_rg]; exact fix_rg hk) (fun k g hk e => by
    subst e
    obtain ⟨g1, h1, h2, h3, h4⟩ := hb k (by omega)
    exact ⟨g1, g1, h1, h2, fun _ => h4, fun _ => ⟨g1, h3, h4⟩⟩) (n - (low + 1)) 0 gw (by omega) rfl
  subst h2
  rw [← List.range_eq_range'] at h1
  exact h1
theorem wp_ok {c : Str → List D → CRes} {m : Bool} {n : Nat} {L : List Nat} (h : IsOrd n L) (hn : n ≤ 100) (hc : c "inverse" [gsD m L] = .ok (gsD true (invL n L)) [gsD m L]) : dWP.run c [gsD m L] = .ok (.lst true (pairsL n L)) [gsD m L] := by
  have sz := sizeLine_eq
  have e1 : sden c (.asg (.var 1) (.call "inverse" (.cons (.var 0) .nil))) [gsD m L, .dead, .dead, .dead, .dead] = .nx [gsD m L, gsD true (invL n L), .dead, .dead, .dead] := by
    have cl : (den c (.call "inverse" (.cons (.var 0) .nil))).val [gsD m L, .dead, .dead, .dead, .dead] = .ok (gsD true (invL n L), false) [gsD m L, .dead, .dead, .dead, .dead] := by
      cases m with
      | true => exact call_val (args_cons (arg_r (b := gsD true L) rfl rfl) rfl) (ds := [gsD true L]) (g2 := [.dead, .dead, .dead, .dead, .dead]) rfl hc rfl
      | false => exact call_val (args_cons (arg_r (b := gsD false L) rfl rfl) rfl) (ds := [gsD false L]) (g2 := [gsD false L, .dead, .dead, .dead, .dead]) rfl hc rfl
    exact asg_nx cl (by rw [var_asg (by simp)]; rfl)
  have e2 : sden c (.asg (.var 2) (.blt .len (.cons (.var 0) .nil))) [gsD m L, gsD true (invL n L), .dead, .dead, .dead] = .nx [gsD m L, gsD true (invL n L), .int (n : Int), .dead, .dead] := by
    cases m <;> simp [v_cst, v_glb, v_var, v_bin, t_cmp, v_cmp, v_neg, v_not, t_not, t_and, t_or, v_and, v_or, v_ife, l_nil, l_cons, v_tup, v_lst, v_idx, v_slc, p_part, v_rev, v_lrg, v_blt, v_mv, v_frz, t_nil, t_var, t_idx, t_blt, s_var, s_tup, s_cons, s_nil, w_skip, w_seq, w_expr, w_asg, w_par, w_ret, w_if, w_kill, rb_ok, rs_ok, sb_nx, sb_rt, o_some, varD, mvD, mkV, late, quiet, isVar, own1, D.isDead, D.pers, partI, b_add, b_sub, b_mod, c_lt, c_le, c_gt, c_ge, c_eq, c_ne, e_int, e_str, truD, f_len, f_lenT, f_min2, f_max2, f_intB, f_intI, idxD, allOwn, mkLst, mkTup, asgTup, asgCons, asgNil, cntE, h.len]
  have e3 : (den c dWP_c1).val [gsD m L, gsD true (invL n L), .int (n : Int), .dead, .dead] = .ok (.lst true (pairsL n L), false) [gsD m L, gsD true (invL n L), .int (n : Int), .dead, .dead] := by
    have q := comp2_map (c := c) (elt := dWP_e1) (tg := .var 3) (it := .blt .range (.cons (.var 2) .nil)) (tg1 := .var 4) (it1 := .blt .range (.cons (.bin .add (.var 3) (.cst (.int 1))) (.cons (.var 2) .nil))) (tst1 := .cmp .lt (.idx (.var 1) (.var 4)) (.idx (.var 1) (.var 3))) (own := [3, 4]) (own1 := [4]) (g := [gsD m L, gsD true (invL n L), .int (n : Int), .dead, .dead]) (g0 := [gsD m L, gsD true (invL n L), .int (n : Int), .dead, .dead]) (src := .fix (rangeD 0 n)) (n := n)
      (fun k => .int (0 + (k : Int))) (pairsAt n L) [gsD m L, gsD true (invL n L), .int (n : Int), .dead, .dead] (range_itr rfl (by omega)) rfl (by rw [rangeD_rg]; exact len_fix) rfl (fun k hk => by rw [rangeD_rg]; exact fix_rg hk) (fun k hk => by
        refine ⟨[gsD m L, gsD true (invL n L), .int (n : Int), .int (k : Int), .dead], .fix (rangeD ((k + 1 : Nat) : Int) (n - (k + 1))), [gsD m L, gsD true (invL n L), .int (n : Int), .int (k : Int), .dead], [gsD m L, gsD true (invL n L), .int (n : Int), .int (k : Int), .dead], by simp [s_var], range2_itr (a := k + 1) (b := n) (by simp [v_cst, v_glb, v_var, v_bin, t_cmp, v_cmp, v_neg, v_not, t_not, t_and, t_or, v_and, v_or, v_ife, l_nil, l_cons, v_tup, v_lst, v_idx, v_slc, p_part, v_rev, v_lrg, v_blt, v_mv, v_frz, t_nil, t_var, t_idx, t_blt, s_var, s_tup, s_cons, s_nil, w_skip, w_seq, w_expr, w_asg, w_par, w_ret, w_if, w_kill, rb_ok, rs_ok, sb_nx, sb_rt, o_some, varD, mvD, mkV, late, quiet, isVar, own1, D.isDead, D.pers, partI, b_add, b_sub, b_mod, c_lt, c_le, c_gt, c_ge, c_eq, c_ne, e_int, e_str, truD, f_len, f_lenT, f_min2, f_max2, f_intB, f_intI, idxD, allOwn, mkLst, mkTup, asgTup, asgCons, asgNil, cntE]) (by omega) (by omega), rfl, ?_, rfl⟩
        have il := pairs_inner (c := c) (tg1 := .var 4) (tst1 := .cmp .lt (.idx (.var 1) (.var 4)) (.idx (.var 1) (.var 3))) (elt := dWP_e1) (own1 := [4]) (n := n) (low := k) (L := L) (gw := [gsD m L, gsD true (invL n L), .int (n : Int), .int (k : Int), .dead]) (fun j hj => by
          have hA : (invL n L).length = n := h.inv.len
          have y1 : (invL n L)[k + 1 + j]'(by omega) = L.idxOf (k + 1 + j) := by simp [invL]
          have y2 : (invL n L)[k]'(by omega) = L.idxOf k := by simp [invL]
          have x1 := get_idx (c := c) (i := 1) (j := 4) (L := invL n L) (m := true) (k := k + 1 + j) (g := [gsD m L, gsD true (invL n L), .int (n : Int), .int (k : Int), .int ((k + 1 + j : Nat) : Int)]) rfl rfl (by omega)
          have x2 := get_idx (c := c) (i := 1) (j := 3) (L := invL n L) (m := true) (k := k) (g := [gsD m L, gsD true (invL n L), .int (n : Int), .int (k : Int), .int ((k + 1 + j : Nat) : Int)]) rfl rfl (by omega)
          rw [y1] at x1
          rw [y2] at x2
          have ec : ((k + 1 : Nat) : Int) + (j : Int) = ((k + 1 + j : Nat) : Int) := by omega
          rw [ec]
          refine ⟨[gsD m L, gsD true (invL n L), .int (n : Int), .int (k : Int), .int ((k + 1 + j : Nat) : Int)], by simp [s_var], ?_, ?_, rfl⟩
          · rw [t_cmp, x1, rb_ok, x2, rb_ok]
            simp [late, quiet, o_some, rb_ok, c_lt]
          · simp [v_cst, v_glb, v_var, v_bin, t_cmp, v_cmp, v_neg, v_not, t_not, t_and, t_or, v_and, v_or, v_ife, l_nil, l_cons, v_tup, v_lst, v_idx, v_slc, p_part, v_rev, v_lrg, v_blt, v_mv, v_frz, t_nil, t_var, t_idx, t_blt, s_var, s_tup, s_cons, s_nil, w_skip, w_seq, w_expr, w_asg, w_par, w_ret, w_if, w_kill, rb_ok, rs_ok, sb_nx, sb_rt, o_some, varD, mvD, mkV, late, quiet, isVar, own1, D.isDead, D.pers, partI, b_add, b_sub, b_mod, c_lt, c_le, c_gt, c_ge, c_eq, c_ne, e_int, e_str, truD, f_len, f_lenT, f_min2, f_max2, f_intB, f_intI, idxD, allOwn, mkLst, mkTup, asgTup, asgCons, asgNil, cntE, sz])
        rw [show Src.len [gsD m L, gsD true (invL n L), .int (n : Int), .int (k : Int), .dead] (.fix (rangeD ((k + 1 : Nat) : Int) (n - (k + 1)))) = n - (k + 1) from by rw [rangeD_rg]; exact len_fix]
        exact il) (by
        have := flat_len (n := n) (f := pairsAt n L) (m := n) (pairsAt_len n L)
        have := Nat.mul_le_mul hn hn
        omega)
    rw [q]
    rfl
  have body : sden c dWP.body ([gsD m L] ++ List.replicate (dWP.nn - dWP.np) .dead) = .rt (.lst true (pairsL n L)) [gsD m L, gsD true (invL n L), .int (n : Int), .dead, .dead] := by
    show sden c (.seq (.asg (.var 1) (.call "inverse" (.cons (.var 0) .nil))) (.seq (.asg (.var 2) (.blt .len (.cons (.var 0) .nil))) (.ret dWP_c1))) [gsD m L, .dead, .dead, .dead, .dead] = _
    rw [seq_nx e1, seq_nx e2]
    exact ret_rt e3
  rw [run_rt rfl body]
  rfl
theorem find_gs {h : Nat} : ∀ {L : List Nat}, h ∈ L → (L.map fun g : Nat => (g : Int)).findIdx? (· == (h : Int)) = some (L.idxOf h)
  | [], hm => by simp at hm
  | x :: L, hm => by
    rw [List.map_cons, List.findIdx?_cons, List.idxOf_cons]
    by_cases e : x = h
    · subst e
      simp
    · have e2 : ((x : Int) == (h : Int)) = false := by simp; omega
      have e3 : (x == h) = false := by simp [e]
      have hm2 : h ∈ L := (List.mem_cons.mp hm).resolve_left (fun q => e q.symm)
      rw [e2, e3]
      simp only [Bool.false_eq_true, if_false, find_gs hm2, Option.map_some, cond_false]
theorem ints_gs {L : List Nat} : intsD (L.map fun (g : Nat) => D.int (g : Int)) = some (L.map fun g : Nat => (g : Int)) := by
  induction L with
  | nil => rfl
  | cons x L ih => simp [intsD, ih]
theorem idxOf_val {c : Str → List D → CRes} {i : Nat} {e : E} {m : Bool} {L : List Nat} {h : Nat} {g : List D} (hi : g[i]? = some (gsD m L)) (he : (den c e).val g = .ok (.int (h : Int), false) g) (hm : h ∈ L) : (den c (.idxOf (.var i) e)).val g = .ok (.int (L.idxOf h : Int), false) g := by
  have q : idxOfD (gsD m L) (.int (h : Int)) = some (.int (L.idxOf h : Int), false) := by
    simp only [idxOfD, ints_gs, find_gs hm, Option.map]
  rw [v_idxOf, v_var]
  unfold varD
  rw [hi]
  simp only [mkV, D.isDead, Bool.false_eq_true, if_false, o_some, rb_ok, isLstD, if_true, he]
  have l : late (.var i) e (gsD m L, true && !(gsD m L).pers) g = some (gsD m L, true && !(gsD m L).pers) := by
    simp only [late, hi, mkV, D.isDead, Bool.false_eq_true, if_false]
  rw [l]
  simp only [Option.bind, q, o_some]
theorem due_ok {c : Str → List D → CRes} {m : Bool} {n : Nat} {L : List Nat} (h : IsOrd n L) (hn : n ≤ 100) : dPairs.run c [gsD m L] = .ok (.lst true (pairsL n L)) [gsD m L] := by
  have sz := sizeLine_eq
  have ln : ∀ x y z : D, (den c (.blt .len (.cons (.var 0) .nil))).val [gsD m L, x, y, z] = .ok (.int (n : Int), false) [gsD m L, x, y, z] := fun x y z => by
    cases m <;> simp [v_cst, v_glb, v_var, v_bin, t_cmp, v_cmp, v_neg, v_not, t_not, t_and, t_or, v_and, v_or, v_ife, l_nil, l_cons, v_tup, v_lst, v_idx, v_slc, p_part, v_rev, v_lrg, v_blt, v_mv, v_frz, t_nil, t_var, t_idx, t_blt, s_var, s_tup, s_cons, s_nil, w_skip, w_seq, w_expr, w_asg, w_par, w_ret, w_if, w_kill, rb_ok, rs_ok, sb_nx, sb_rt, o_some, varD, mvD, mkV, late, quiet, isVar, own1, D.isDead, D.pers, partI, b_add, b_sub, b_mod, c_lt, c_le, c_gt, c_ge, c_eq, c_ne, e_int, e_str, truD, f_len, f_lenT, f_min2, f_max2, f_intB, f_intI, idxD, allOwn, mkLst, mkTup, asgTup, asgCons, asgNil, cntE, h.len]
  have cp : ∀ (low : Nat) (f : D), low < n → (den c dPairs_c1).val [gsD m L, f, .int (low : Int), .dead] = .ok (.lst true (pairsAt n L low), false) [gsD m L, f, .int (low : Int), .dead] := fun low f hk => by
    have il := pairs_inner (c := c) (tg1 := .var 3) (tst1 := .cmp .lt (.idxOf (.var 0) (.var 3)) (.idxOf (.var 0) (.var 2))) (elt := dPairs_e1) (own1 := [3]) (n := n) (low := low) (L := L) (gw := [gsD m L, f, .int (low : Int), .dead]) (fun j hj => by
      have ec : ((low + 1 : Nat) : Int) + (j : Int) = ((low + 1 + j : Nat) : Int) := by omega
      rw [ec]
      have x1 := idxOf_val (c := c) (i := 0) (e := .var 3) (m := m) (L := L) (h := low + 1 + j) (g := [gsD m L, f, .int (low : Int), .int ((low + 1 + j : Nat) : Int)]) rfl rfl (h.all _ hj)
      have x2 := idxOf_val (c := c) (i := 0) (e := .var 2) (m := m) (L := L) (h := low) (g := [gsD m L, f, .int (low : Int), .int ((low + 1 + j : Nat) : Int)]) rfl rfl (h.all _ hk)
      refine ⟨[gsD m L, f, .int (low : Int), .int ((low + 1 + j : Nat) : Int)], by simp [s_var], ?_, ?_, rfl⟩
      · rw [t_cmp, x1, rb_ok, x2, rb_ok]
        simp [late, quiet, o_some, rb_ok, c_lt]
      · simp [v_cst, v_glb, v_var, v_bin, t_cmp, v_cmp, v_neg, v_not, t_not, t_and, t_or, v_and, v_or, v_ife, l_nil, l_cons, v_tup, v_lst, v_idx, v_slc, p_part, v_rev, v_lrg, v_blt, v_mv, v_frz, t_nil, t_var, t_idx, t_blt, s_var, s_tup, s_cons, s_nil, w_skip, w_seq, w_expr, w_asg, w_par, w_ret, w_if, w_kill, rb_ok, rs_ok, sb_nx, sb_rt, o_some, varD, mvD, mkV, late, quiet, isVar, own1, D.isDead, D.pers, partI, b_add, b_sub, b_mod, c_lt, c_le, c_gt, c_ge, c_eq, c_ne, e_int, e_str, truD, f_len, f_lenT, f_min2, f_max2, f_intB, f_intI, idxD, allOwn, mkLst, mkTup, asgTup, asgCons, asgNil, cntE, sz])
    have l1 : (den c (.cons (.bin .add (.var 2) (.cst (.int 1))) (.cons (.blt .len (.cons (.var 0) .nil)) .nil))).lst [gsD m L, f, .int (low : Int), .dead] = .ok [(.int ((low + 1 : Nat) : Int), false), (.int (n : Int), false)] [gsD m L, f, .int (low : Int), .dead] := by
      rw [l_cons, show (den c (.bin .add (.var 2) (.cst (.int 1)))).val [gsD m L, f, .int (low : Int), .dead] = .ok (.int ((low + 1 : Nat) : Int), false) [gsD m L, f, .int (low : Int), .dead] by simp [v_cst, v_glb, v_var, v_bin, t_cmp, v_cmp, v_neg, v_not, t_not, t_and, t_or, v_and, v_or, v_ife, l_nil, l_cons, v_tup, v_lst, v_idx, v_slc, p_part, v_rev, v_lrg, v_blt, v_mv, v_frz, t_nil, t_var, t_idx, t_blt, s_var, s_tup, s_cons, s_nil, w_skip, w_seq, w_expr, w_asg, w_par, w_ret, w_if, w_kill, rb_ok, rs_ok, sb_nx, sb_rt, o_some, varD, mvD, mkV, late, quiet, isVar, own1, D.isDead, D.pers, partI, b_add, b_sub, b_mod, c_lt, c_le, c_gt, c_ge, c_eq, c_ne, e_int, e_str, truD, f_len, f_lenT, f_min2, f_max2, f_intB, f_intI, idxD, allOwn, mkLst, mkTup, asgTup, asgCons, asgNil, cntE], rb_ok, l_cons, ln]
      rfl
    have q := comp_val (c := c) (elt := dPairs_e1) (tg := .var 3) (tst := .cmp .lt (.idxOf (.var 0) (.var 3)) (.idxOf (.var 0) (.var 2))) (own := [3]) (range2_itr (a := low + 1) (b := n) l1 (by omega) (by omega)) rfl (ys := pairsAt n L low) (g' := [gsD m L, f, .int (low : Int), .dead]) (by
      rw [show Src.len [gsD m L, f, .int (low : Int), .dead] (.fix (rangeD ((low + 1 : Nat) : Int) (n - (low + 1)))) = n - (low + 1) from by rw [rangeD_rg]; exact len_fix]
      exact il) (by have := pairsAt_len n L low; omega)
    rw [q]
    rfl
  have lp := for_fn (c := c) (t := .var 2) (it := .blt .range (.cons (.blt .len (.cons (.var 0) .nil)) .nil)) (b := dPairs_b1) (src := .fix (rangeD 0 n)) (n := n) (g := [gsD m L, .lst true [], .dead, .dead]) (fun k => .int (0 + (k : Int))) (fun k => [gsD m L, .lst true ((List.range k).flatMap (pairsAt n L)), .dead, .dead])
    (range_itr (by rw [l_cons, ln]; rfl) (by omega)) rfl (by rw [rangeD_rg]; exact len_fix) (fun k hk => by rw [rangeD_rg]; exact fix_rg hk) (fun k hk => by
      refine ⟨[gsD m L, .lst true ((List.range k).flatMap (pairsAt n L)), .int (k : Int), .dead], by simp [s_var], .inl ?_⟩
      have v : (den c (.bin .add (.var 1) dPairs_c1)).val [gsD m L, .lst true ((List.range k).flatMap (pairsAt n L)), .int (k : Int), .dead] = .ok (.lst true ((List.range (k + 1)).flatMap (pairsAt n L)), false) [gsD m L, .lst true ((List.range k).flatMap (pairsAt n L)), .int (k : Int), .dead] := by
        have l1 := flat_len (n := k) (f := pairsAt n L) (m := n) (pairsAt_len n L)
        have l2 := Nat.mul_le_mul (show k ≤ 100 by omega) hn
        have l3 := pairsAt_len n L k
        have b := b_cat (m := true) (m' := true) (l := true) (l' := false) (xs := (List.range k).flatMap (pairsAt n L)) (ys := pairsAt n L k) (by omega) pairs_pers at_pers
        have hv : varD 1 [gsD m L, .lst true ((List.range k).flatMap (pairsAt n L)), .int (k : Int), .dead] = .ok (.lst true ((List.range k).flatMap (pairsAt n L)), true) [gsD m L, .lst true ((List.range k).flatMap (pairsAt n L)), .int (k : Int), .dead] := rfl
        have hl : late (.var 1) dPairs_c1 (.lst true ((List.range k).flatMap (pairsAt n L)), true) [gsD m L, .lst true ((List.range k).flatMap (pairsAt n L)), .int (k : Int), .dead] = some (.lst true ((List.range k).flatMap (pairsAt n L)), true) := rfl
        rw [v_bin, v_var, hv, rb_ok, cp k _ hk, rb_ok, hl]
        simp only [Option.map, o_some, rb_ok, b]
        rw [List.range_succ, List.flatMap_append]
        simp
      rw [kill_nx (asg_nx v (var_asg (by simp)))]
      rfl)
  have body : sden c dPairs.body ([gsD m L] ++ List.replicate (dPairs.nn - dPairs.np) .dead) = .rt (.lst true (pairsL n L)) [gsD m L, .dead, .dead, .dead] := by
    have e0 : sden c (.asg (.var 1) (.lstE .nil)) [gsD m L, .dead, .dead, .dead] = .nx [gsD m L, .lst true [], .dead, .dead] := by
      rw [asg_nx lst_nil (var_asg (by simp))]
      rfl
    show sden c (.seq (.asg (.var 1) (.lstE .nil)) (.seq (.kill [2] dPairs_f1) (.ret (.mv 1)))) [gsD m L, .dead, .dead, .dead] = _
    rw [seq_nx e0, seq_nx (kill_nx lp)]
    simp [wipe, w_ret, v_mv, mvD, D.isDead, D.pers, rs_ok, own1]
    rfl
  rw [run_rt rfl body]
  rfl
end Bm

set_option maxHeartbeats 4000000
/-! B55: Schedules. -/
namespace Bm
open PySem
section
variable {c : Str → List D → CRes} {g : List D} {a es e : E} {x C f m : Str} {t : Ty} {i : Nat}
theorem v_fld : (den c (.fld C f a)).val g = ((den c a).val g).bind fun x g => ofO (fldD C f x) g := rfl
theorem v_prop : (den c (.prop x C m a)).val g = ((den c a).one g).bind fun r g => if insOf C m (argD g r) = true then (callD c x [r] g).noex else .no := rfl
theorem v_meth : (den c (.meth x C m a es)).val g = ((den c a).one g).bind fun r g => if insOf C m (argD g r) = true then ((den c es).arg g).bind fun as g => callD c x (r :: as) g else .no := rfl
theorem v_make : (den c (.make x C es)).val g = ((den c es).arg g).bind fun as g => makeD c x C as g := rfl
theorem v_isi : (den c (.isi t a)).val g = ((den c a).val g).bind fun x g => ofO ((isiD t x.1).map fun b => ((D.bl b, false) : VD)) g := rfl
theorem t_isi : (den c (.isi t a)).tst g = ((den c a).val g).bind fun x g => ofO (isiD t x.1) g := rfl
theorem i_meth : (den c (.meth x C m a es)).itr g = ((den c (.meth x C m a es)).val g).bind fun x g => ofO ((iterV x).map .fix) g := rfl
theorem i_fld : (den c (.fld C f a)).itr g = ((den c (.fld C f a)).val g).bind fun x g => ofO ((iterV x).map .fix) g := rfl
theorem w_setF : sden c (.setF i C f e) g = ((den c e).val g).st fun x g => own1 x g fun d g => (match g[i]? with
    | some (.nd (.ins true C' fs) xs) => if C' = C ∧ fs.contains f = false ∧ fs.length < 900 then .nx (g.set i (.nd (.ins true C' (fs ++ [f])) (xs ++ [d]))) else .no
    | _ => .no) := rfl
end
/-! ### comparisons -/
abbrev rowD1 (r : Nat × Int) : D := .tup [.int (r.1 : Int), .int r.2]
abbrev rowsD (m : Bool) (rs : List (Nat × Int)) : D := .lst m (rs.map rowD1)
def RowOk (p : Nat) (r : Nat × Int) : Prop := GateOk p r.1 ∧ 0 ≤ r.2 ∧ r.2 ≤ 1000000000000000000
abbrev schF : List Str := ["place_count", "rows"]
abbrev schD (p : Nat) (rs : List (Nat × Int)) : D := .nd (.ins false "Schedule" schF) [.int (p : Int), rowsD false rs]
theorem persL_rows {rs : List (Nat × Int)} : persL (rs.map rowD1) = true := by
  rw [persL_eq]
  exact List.all_eq_true.mpr fun x hx => by
    obtain ⟨r, _, rfl⟩ := List.mem_map.mp hx
    rfl
def dIsInt : Def := ⟨1,  1,
  (.ret (.andE (.isi .int (.var 0)) (.notE (.isi .bool (.var 0)))))⟩
def dBetween : Def := ⟨3,  3,
  (.ret (.andE (.call "is_integer" (.cons (.var 0) .nil)) (.cmp2 .le .le (.var 1) (.var 0) (.var 2))))⟩
def dIsPrice : Def := ⟨1,  1,
  (.ret (.call "is_between" (.cons (.var 0) (.cons (.cst (.int 0)) (.cons (.glb "MAX_PRICE" (.int 1000000000000000000)) .nil)))))⟩
abbrev dIsCmp_i1 : S := (.ifS (.orE (.notE (.isi .tuple (.var 0))) (.cmp .ne (.blt .len (.cons (.var 0) .nil)) (.cst (.int 2)))) (.ret (.cst (.bl false))) .skip)
def dIsCmp : Def := ⟨2,  2,
  (.seq dIsCmp_i1 (.ret (.andE (.call "is_between" (.cons (.idx (.var 0) (.cst (.int 0))) (.cons (.cst (.int 1)) (.cons (.bin .sub (.var 1) (.cst (.int 1))) .nil)))) (.call "is_price" (.cons (.idx (.var 0) (.cst (.int 1))) .nil)))))⟩
abbrev dInit_i1 : S := (.ifS (.notE (.call "is_between" (.cons (.var 1) (.cons (.cst (.int 1)) (.cons (.glb "MAX_PLACES" (.int 12)) .nil))))) .never .skip)
abbrev dInit_i2 : S := (.ifS (.orE (.notE (.isi .list (.var 2))) (.cmp .gt (.blt .len (.cons (.var 2) .nil)) (.glb "MAX_COMPARISONS" (.int 400)))) .never .skip)
abbrev dInit_i3 : S := (.ifS (.notE (.call "is_comparison" (.cons (.var 4) (.cons (.var 1) .nil)))) .never .skip)
abbrev dInit_b1 : S := (.kill [ 3 , 4 ] dInit_i3)
abbrev dInit_f1 : S := (.forS (.tupE (.cons (.var 3) (.cons (.var 4) .nil))) (.blt .enumerate (.cons (.var 2) .nil)) dInit_b1)
def dInit : Def := ⟨3,  5,
  (.seq dInit_i1 (.seq dInit_i2 (.seq (.kill [ 3 , 4 ] dInit_f1) (.seq (.setF 0 "Schedule" "place_count" (.var 1)) (.setF 0 "Schedule" "rows" (.blt .list (.cons (.var 2) .nil)))))))⟩
def dSchP : Def := ⟨1,  1,
  (.ret (.fld "Schedule" "place_count" (.var 0)))⟩
abbrev dSchG_e1 : E := (.var 1)
abbrev dSchG_c1 : E := (.comp dSchG_e1 (.tupE (.cons (.var 1) (.cons (.var 2) .nil))) (.fld "Schedule" "rows" (.var 0)) .nil [ 1 , 2 ])
def dSchG : Def := ⟨1,  3,
  (.ret dSchG_c1)⟩
def dSchC : Def := ⟨1,  1,
  (.ret (.blt .list (.cons (.fld "Schedule" "rows" (.var 0)) .nil)))⟩
theorem isint_ok {c : Str → List D → CRes} {i : Int} : dIsInt.run c [.int i] = .ok (.bl true) [.int i] := by
  have body : sden c dIsInt.body ([.int i] ++ List.replicate (dIsInt.nn - dIsInt.np) .dead) = .rt (.bl true) [.int i] := by
    show sden c (.ret (.andE (.isi .int (.var 0)) (.notE (.isi .bool (.var 0))))) [.int i] = _
    simp [v_cst, v_glb, v_var, v_bin, t_cmp, v_cmp, v_neg, v_not, t_not, t_and, t_or, v_and, v_or, v_ife, l_nil, l_cons, v_tup, v_lst, v_idx, v_slc, p_part, v_rev, v_lrg, v_blt, v_mv, v_frz, t_nil, t_var, t_idx, t_blt, s_var, s_tup, s_cons, s_nil, w_skip, w_seq, w_expr, w_asg, w_par, w_ret, w_if, w_kill, rb_ok, rs_ok, sb_nx, sb_rt, o_some, varD, mvD, mkV, late, quiet, isVar, own1, D.isDead, D.pers, partI, b_add, b_sub, b_mod, c_lt, c_le, c_gt, c_ge, c_eq, c_ne, e_int, e_str, truD, f_len, f_lenT, f_min2, f_max2, f_intB, f_intI, idxD, allOwn, mkLst, mkTup, asgTup, asgCons, asgNil, cntE, v_isi, isiD]
  rw [run_rt rfl body]
  rfl
/-- the defs that look at comparisons, seen by a caller -/
def IntC (c : Str → List D → CRes) : Prop := ∀ i : Int, c "is_integer" [.int i] = .ok (.bl true) [.int i]
theorem between_ok {c : Str → List D → CRes} (hc : IntC c) {i lo hi : Int} : dBetween.run c [.int i, .int lo, .int hi] = .ok (.bl (decide (lo ≤ i) && decide (i ≤ hi))) [.int i, .int lo, .int hi] := by
  have e1 : (den c (.call "is_integer" (.cons (.var 0) .nil))).val [.int i, .int lo, .int hi] = .ok (.bl true, false) [.int i, .int lo, .int hi] :=
    call_val (args_cons (arg_r (b := .int i) rfl rfl) rfl) (ds := [.int i]) (g2 := [.int i, .int lo, .int hi]) rfl (hc i) rfl
  have e2 : (den c (.cmp2 .le .le (.var 1) (.var 0) (.var 2))).val [.int i, .int lo, .int hi] = .ok (.bl (decide (lo ≤ i) && decide (i ≤ hi)), false) [.int i, .int lo, .int hi] := by
    rw [v_cmp2, t_cmp2]
    by_cases h : lo ≤ i
    · simp [two, v_var, varD, mkV, D.isDead, D.pers, late, o_some, rb_ok, c_le, h]
    · simp [two, v_var, varD, mkV, D.isDead, D.pers, late, o_some, rb_ok, c_le, h]
  have body : sden c dBetween.body ([.int i, .int lo, .int hi] ++ List.replicate (dBetween.nn - dBetween.np) .dead) = .rt (.bl (decide (lo ≤ i) && decide (i ≤ hi))) [.int i, .int lo, .int hi] := by
    show sden c (.ret (.andE (.call "is_integer" (.cons (.var 0) .nil)) (.cmp2 .le .le (.var 1) (.var 0) (.var 2)))) [.int i, .int lo, .int hi] = _
    rw [w_ret, v_and, e1]
    simp [rb_ok, e2, rs_ok, own1]
  rw [run_rt rfl body]
  rfl
def BetC (c : Str → List D → CRes) : Prop := ∀ i lo hi : Int, c "is_between" [.int i, .int lo, .int hi] = .ok (.bl (decide (lo ≤ i) && decide (i ≤ hi))) [.int i, .int lo, .int hi]
theorem price_ok {c : Str → List D → CRes} (hc : BetC c) {i : Int} (h0 : 0 ≤ i) (h1 : i ≤ 1000000000000000000) : dIsPrice.run c [.int i] = .ok (.bl true) [.int i] := by
  have q := hc i 0 1000000000000000000
  simp only [h0, h1, decide_true, Bool.and_self] at q
  have e1 : (den c (.call "is_between" (.cons (.var 0) (.cons (.cst (.int 0)) (.cons (.glb "MAX_PRICE" (.int 1000000000000000000)) .nil))))).val [.int i] = .ok (.bl true, false) [.int i] :=
    call_val (args_cons (arg_r (b := .int i) rfl rfl) (args_cons (one_val rfl v_cst) (args_cons (one_val rfl v_glb) rfl))) (ds := [.int i, .int 0, .int 1000000000000000000]) (g2 := [.int i]) rfl q rfl
  have body : sden c dIsPrice.body ([.int i] ++ List.replicate (dIsPrice.nn - dIsPrice.np) .dead) = .rt (.bl true) [.int i] := ret_rt e1
  rw [run_rt rfl body]
  rfl
structure CmpC (c : Str → List D → CRes) : Prop where
  bet : BetC c
  price : ∀ i : Int, 0 ≤ i → i ≤ 1000000000000000000 → c "is_price" [.int i] = .ok (.bl true) [.int i]
theorem iscmp_ok {c : Str → List D → CRes} (hc : CmpC c) {p : Nat} {r : Nat × Int} (h : RowOk p r) : dIsCmp.run c [rowD1 r, .int (p : Int)] = .ok (.bl true) [rowD1 r, .int (p : Int)] := by
  obtain ⟨g, pr⟩ := r
  obtain ⟨⟨h1, h2⟩, h3, h4⟩ := h
  simp only at h1 h2 h3 h4
  have q := hc.bet (g : Int) 1 ((p : Int) - 1)
  have x1 : (1 : Int) ≤ (g : Int) := by omega
  have x2 : (g : Int) ≤ (p : Int) - 1 := by omega
  simp only [x1, x2, decide_true, Bool.and_self] at q
  have e1 : (den c (.call "is_between" (.cons (.idx (.var 0) (.cst (.int 0))) (.cons (.cst (.int 1)) (.cons (.bin .sub (.var 1) (.cst (.int 1))) .nil))))).val [rowD1 (g, pr), .int (p : Int)] = .ok (.bl true, false) [rowD1 (g, pr), .int (p : Int)] :=
    call_val (args_cons (one_val rfl (show _ = R.ok (.int (g : Int), false) _ from by simp [v_cst, v_glb, v_var, v_bin, t_cmp, v_cmp, v_neg, v_not, t_not, t_and, t_or, v_and, v_or, v_ife, l_nil, l_cons, v_tup, v_lst, v_idx, v_slc, p_part, v_rev, v_lrg, v_blt, v_mv, v_frz, t_nil, t_var, t_idx, t_blt, s_var, s_tup, s_cons, s_nil, w_skip, w_seq, w_expr, w_asg, w_par, w_ret, w_if, w_kill, rb_ok, rs_ok, sb_nx, sb_rt, o_some, varD, mvD, mkV, late, quiet, isVar, own1, D.isDead, D.pers, partI, b_add, b_sub, b_mod, c_lt, c_le, c_gt, c_ge, c_eq, c_ne, e_int, e_str, truD, f_len, f_lenT, f_min2, f_max2, f_intB, f_intI, idxD, allOwn, mkLst, mkTup, asgTup, asgCons, asgNil, cntE]; rfl)) (args_cons (one_val rfl v_cst) (args_cons (one_val rfl (show _ = R.ok (.int ((p : Int) - 1), false) _ from by simp [v_cst, v_glb, v_var, v_bin, t_cmp, v_cmp, v_neg, v_not, t_not, t_and, t_or, v_and, v_or, v_ife, l_nil, l_cons, v_tup, v_lst, v_idx, v_slc, p_part, v_rev, v_lrg, v_blt, v_mv, v_frz, t_nil, t_var, t_idx, t_blt, s_var, s_tup, s_cons, s_nil, w_skip, w_seq, w_expr, w_asg, w_par, w_ret, w_if, w_kill, rb_ok, rs_ok, sb_nx, sb_rt, o_some, varD, mvD, mkV, late, quiet, isVar, own1, D.isDead, D.pers, partI, b_add, b_sub, b_mod, c_lt, c_le, c_gt, c_ge, c_eq, c_ne, e_int, e_str, truD, f_len, f_lenT, f_min2, f_max2, f_intB, f_intI, idxD, allOwn, mkLst, mkTup, asgTup, asgCons, asgNil, cntE])) rfl))) (ds := [.int (g : Int), .int 1, .int ((p : Int) - 1)]) (g2 := [rowD1 (g, pr), .int (p : Int)]) rfl q rfl
  have e2 : (den c (.call "is_price" (.cons (.idx (.var 0) (.cst (.int 1))) .nil))).val [rowD1 (g, pr), .int (p : Int)] = .ok (.bl true, false) [rowD1 (g, pr), .int (p : Int)] :=
    call_val (args_cons (one_val rfl (show _ = R.ok (.int pr, false) _ from by simp [v_cst, v_glb, v_var, v_bin, t_cmp, v_cmp, v_neg, v_not, t_not, t_and, t_or, v_and, v_or, v_ife, l_nil, l_cons, v_tup, v_lst, v_idx, v_slc, p_part, v_rev, v_lrg, v_blt, v_mv, v_frz, t_nil, t_var, t_idx, t_blt, s_var, s_tup, s_cons, s_nil, w_skip, w_seq, w_expr, w_asg, w_par, w_ret, w_if, w_kill, rb_ok, rs_ok, sb_nx, sb_rt, o_some, varD, mvD, mkV, late, quiet, isVar, own1, D.isDead, D.pers, partI, b_add, b_sub, b_mod, c_lt, c_le, c_gt, c_ge, c_eq, c_ne, e_int, e_str, truD, f_len, f_lenT, f_min2, f_max2, f_intB, f_intI, idxD, allOwn, mkLst, mkTup, asgTup, asgCons, asgNil, cntE]; rfl)) rfl) (ds := [.int pr]) (g2 := [rowD1 (g, pr), .int (p : Int)]) rfl (hc.price pr h3 h4) rfl
  have e3 : sden c dIsCmp_i1 [rowD1 (g, pr), .int (p : Int)] = .nx [rowD1 (g, pr), .int (p : Int)] := by
    simp [v_cst, v_glb, v_var, v_bin, t_cmp, v_cmp, v_neg, v_not, t_not, t_and, t_or, v_and, v_or, v_ife, l_nil, l_cons, v_tup, v_lst, v_idx, v_slc, p_part, v_rev, v_lrg, v_blt, v_mv, v_frz, t_nil, t_var, t_idx, t_blt, s_var, s_tup, s_cons, s_nil, w_skip, w_seq, w_expr, w_asg, w_par, w_ret, w_if, w_kill, rb_ok, rs_ok, sb_nx, sb_rt, o_some, varD, mvD, mkV, late, quiet, isVar, own1, D.isDead, D.pers, partI, b_add, b_sub, b_mod, c_lt, c_le, c_gt, c_ge, c_eq, c_ne, e_int, e_str, truD, f_len, f_lenT, f_min2, f_max2, f_intB, f_intI, idxD, allOwn, mkLst, mkTup, asgTup, asgCons, asgNil, cntE, t_isi, isiD, persL]
  have body : sden c dIsCmp.body ([rowD1 (g, pr), .int (p : Int)] ++ List.replicate (dIsCmp.nn - dIsCmp.np) .dead) = .rt (.bl true) [rowD1 (g, pr), .int (p : Int)] := by
    show sden c (.seq dIsCmp_i1 (.ret (.andE _ _))) [rowD1 (g, pr), .int (p : Int)] = _
    rw [seq_nx e3, w_ret, v_and, e1]
    simp [rb_ok, e2, rs_ok, own1]
  rw [run_rt rfl body]
  rfl
structure InitC (c : Str → List D → CRes) : Prop where
  bet : BetC c
  cmp : ∀ (p : Nat) (r : Nat × Int), RowOk p r → c "is_comparison" [rowD1 r, .int (p : Int)] = .ok (.bl true) [rowD1 r, .int (p : Int)]
theorem init_ok {c : Str → List D → CRes} (hc : InitC c) {p : Nat} {rs : List (Nat × Int)} (h1 : 1 ≤ p) (h2 : p ≤ 12) (hl : rs.length ≤ 400) (hr : ∀ r, r ∈ rs → RowOk p r) :
    dInit.run c [.nd (.ins true "Schedule" []) [], .int (p : Int), rowsD true rs] = .ok .non [.nd (.ins true "Schedule" schF) [.int (p : Int), rowsD true rs], .int (p : Int), rowsD true rs] := by
  have q := hc.bet (p : Int) 1 12
  have x1 : (1 : Int) ≤ (p : Int) := by omega
  have x2 : (p : Int) ≤ 12 := by omega
  simp only [x1, x2, decide_true, Bool.and_self] at q
  have c1 : (den c (.call "is_between" (.cons (.var 1) (.cons (.cst (.int 1)) (.cons (.glb "MAX_PLACES" (.int 12)) .nil))))).val [.nd (.ins true "Schedule" []) [], .int (p : Int), rowsD true rs, .dead, .dead] = .ok (.bl true, false) [.nd (.ins true "Schedule" []) [], .int (p : Int), rowsD true rs, .dead, .dead] :=
    call_val (args_cons (arg_r (b := .int (p : Int)) rfl rfl) (args_cons (one_val rfl v_cst) (args_cons (one_val rfl v_glb) rfl))) (ds := [.int (p : Int), .int 1, .int 12]) (g2 := [.nd (.ins true "Schedule" []) [], .int (p : Int), rowsD true rs, .dead, .dead]) rfl q rfl
  have e1 : sden c dInit_i1 [.nd (.ins true "Schedule" []) [], .int (p : Int), rowsD true rs, .dead, .dead] = .nx [.nd (.ins true "Schedule" []) [], .int (p : Int), rowsD true rs, .dead, .dead] := by
    rw [w_if, t_not, t_call, c1]
    rfl
  have e2 : sden c dInit_i2 [.nd (.ins true "Schedule" []) [], .int (p : Int), rowsD true rs, .dead, .dead] = .nx [.nd (.ins true "Schedule" []) [], .int (p : Int), rowsD true rs, .dead, .dead] := by
    have hl2 : ¬ (400 : Int) < (rs.length : Int) := by omega
    simp [v_cst, v_glb, v_var, v_bin, t_cmp, v_cmp, v_neg, v_not, t_not, t_and, t_or, v_and, v_or, v_ife, l_nil, l_cons, v_tup, v_lst, v_idx, v_slc, p_part, v_rev, v_lrg, v_blt, v_mv, v_frz, t_nil, t_var, t_idx, t_blt, s_var, s_tup, s_cons, s_nil, w_skip, w_seq, w_expr, w_asg, w_par, w_ret, w_if, w_kill, rb_ok, rs_ok, sb_nx, sb_rt, o_some, varD, mvD, mkV, late, quiet, isVar, own1, D.isDead, D.pers, partI, b_add, b_sub, b_mod, c_lt, c_le, c_gt, c_ge, c_eq, c_ne, e_int, e_str, truD, f_len, f_lenT, f_min2, f_max2, f_intB, f_intI, idxD, allOwn, mkLst, mkTup, asgTup, asgCons, asgNil, cntE, t_isi, isiD, hl2]
  have x : ∀ k, k < rs.length → (rs.map rowD1)[k]? = some (rowD1 (rs.getD k (0, 0))) := fun k hk => by simp [hk]
  have lv : ∀ k, k ≤ rs.length → (Src.live 2).at [.nd (.ins true "Schedule" []) [], .int (p : Int), rowsD true rs, .dead, .dead] k = some (if k < rs.length then some (rowD1 (rs.getD k (0, 0))) else none) := fun k hk => by
    simp only [Src.at, List.getElem?_cons_succ, List.getElem?_cons_zero]
    by_cases h : k < rs.length
    · rw [x k h]
      simp [h, D.pers, persL]
    · rw [List.getElem?_eq_none (by simp; omega), if_neg h]
  have e3 : sden c dInit_f1 [.nd (.ins true "Schedule" []) [], .int (p : Int), rowsD true rs, .dead, .dead] = .nx [.nd (.ins true "Schedule" []) [], .int (p : Int), rowsD true rs, .dead, .dead] :=
    for_fn (c := c) (t := .tupE (.cons (.var 3) (.cons (.var 4) .nil))) (it := .blt .enumerate (.cons (.var 2) .nil)) (b := dInit_b1) (src := .enum (.live 2)) (n := rs.length) (fun k => .tup [.int (k : Int), rowD1 (rs.getD k (0, 0))]) (fun _ => [.nd (.ins true "Schedule" []) [], .int (p : Int), rowsD true rs, .dead, .dead])
      (by rw [i_enum, r_var]; rfl) rfl (by simp [Src.len]) (fun k hk => enum_at (lv k hk)) (fun k hk => by
        refine ⟨[.nd (.ins true "Schedule" []) [], .int (p : Int), rowsD true rs, .int (k : Int), rowD1 (rs.getD k (0, 0))], by simp [s_tup, s_cons, s_nil, s_var, asgTup, asgCons, asgNil, cntE, rb_ok], .inl ?_⟩
        have hm := hr (rs.getD k (0, 0)) (by simp [List.getD, hk])
        have c2 : (den c (.call "is_comparison" (.cons (.var 4) (.cons (.var 1) .nil)))).val [.nd (.ins true "Schedule" []) [], .int (p : Int), rowsD true rs, .int (k : Int), rowD1 (rs.getD k (0, 0))] = .ok (.bl true, false) [.nd (.ins true "Schedule" []) [], .int (p : Int), rowsD true rs, .int (k : Int), rowD1 (rs.getD k (0, 0))] :=
          call_val (args_cons (arg_r (b := rowD1 (rs.getD k (0, 0))) rfl rfl) (args_cons (arg_r (b := .int (p : Int)) rfl rfl) rfl)) (ds := [rowD1 (rs.getD k (0, 0)), .int (p : Int)]) (g2 := [.nd (.ins true "Schedule" []) [], .int (p : Int), rowsD true rs, .int (k : Int), rowD1 (rs.getD k (0, 0))]) rfl (hc.cmp p _ hm) rfl
        have e : sden c (.ifS (.notE (.call "is_comparison" (.cons (.var 4) (.cons (.var 1) .nil)))) .never .skip) [.nd (.ins true "Schedule" []) [], .int (p : Int), rowsD true rs, .int (k : Int), rowD1 (rs.getD k (0, 0))] = .nx [.nd (.ins true "Schedule" []) [], .int (p : Int), rowsD true rs, .int (k : Int), rowD1 (rs.getD k (0, 0))] := by
          rw [w_if, t_not, t_call, c2]
          rfl
        exact kill_nx (is := [3, 4]) e)
  have e4 : sden c (.setF 0 "Schedule" "place_count" (.var 1)) [.nd (.ins true "Schedule" []) [], .int (p : Int), rowsD true rs, .dead, .dead] = .nx [.nd (.ins true "Schedule" ["place_count"]) [.int (p : Int)], .int (p : Int), rowsD true rs, .dead, .dead] := rfl
  have e5 : sden c (.setF 0 "Schedule" "rows" (.blt .list (.cons (.var 2) .nil))) [.nd (.ins true "Schedule" ["place_count"]) [.int (p : Int)], .int (p : Int), rowsD true rs, .dead, .dead] = .nx [.nd (.ins true "Schedule" schF) [.int (p : Int), rowsD true rs], .int (p : Int), rowsD true rs, .dead, .dead] := by
    have l1 : (den c (.blt .list (.cons (.var 2) .nil))).val [.nd (.ins true "Schedule" ["place_count"]) [.int (p : Int)], .int (p : Int), rowsD true rs, .dead, .dead] = .ok (rowsD true rs, false) [.nd (.ins true "Schedule" ["place_count"]) [.int (p : Int)], .int (p : Int), rowsD true rs, .dead, .dead] := by
      have := f_list (m := true) (l := true) (xs := rs.map rowD1) persL_rows
      have hv : varD 2 [.nd (.ins true "Schedule" ["place_count"]) [.int (p : Int)], .int (p : Int), rowsD true rs, .dead, .dead] = .ok (rowsD true rs, true) [.nd (.ins true "Schedule" ["place_count"]) [.int (p : Int)], .int (p : Int), rowsD true rs, .dead, .dead] := rfl
      have hl : late (.var 2) .nil (rowsD true rs, true) [.nd (.ins true "Schedule" ["place_count"]) [.int (p : Int)], .int (p : Int), rowsD true rs, .dead, .dead] = some (rowsD true rs, true) := rfl
      rw [v_blt, l_cons, v_var, hv, rb_ok, l_nil, rb_ok, hl]
      show ofO (bltD .list [(rowsD true rs, true)]) _ = _
      rw [this]
      rfl
    rw [w_setF, l1]
    rfl
  have body : sden c dInit.body ([.nd (.ins true "Schedule" []) [], .int (p : Int), rowsD true rs] ++ List.replicate (dInit.nn - dInit.np) .dead) = .nx [.nd (.ins true "Schedule" schF) [.int (p : Int), rowsD true rs], .int (p : Int), rowsD true rs, .dead, .dead] := by
    show sden c (.seq dInit_i1 (.seq dInit_i2 (.seq (.kill [3, 4] dInit_f1) (.seq (.setF 0 "Schedule" "place_count" (.var 1)) (.setF 0 "Schedule" "rows" (.blt .list (.cons (.var 2) .nil))))))) [.nd (.ins true "Schedule" []) [], .int (p : Int), rowsD true rs, .dead, .dead] = _
    rw [seq_nx e1, seq_nx e2, seq_nx (kill_nx e3)]
    show sden c (.seq _ _) [.nd (.ins true "Schedule" []) [], .int (p : Int), rowsD true rs, .dead, .dead] = _
    rw [seq_nx e4, e5]
  rw [run_nx rfl body]
  rfl
theorem schP_ok {c : Str → List D → CRes} {p : Nat} {rs : List (Nat × Int)} : dSchP.run c [schD p rs] = .ok (.int (p : Int)) [schD p rs] := by
  have body : sden c dSchP.body ([schD p rs] ++ List.replicate (dSchP.nn - dSchP.np) .dead) = .rt (.int (p : Int)) [schD p rs] := by
    show sden c (.ret (.fld "Schedule" "place_count" (.var 0))) [schD p rs] = _
    rfl
  rw [run_rt rfl body]
  rfl
theorem rows_val {c : Str → List D → CRes} {p i : Nat} {rs : List (Nat × Int)} {g : List D} (hi : g[i]? = some (schD p rs)) : (den c (.fld "Schedule" "rows" (.var i))).val g = .ok (rowsD false rs, false) g := by
  rw [v_fld, v_var]
  simp only [varD, hi]
  rfl
theorem schC_ok {c : Str → List D → CRes} {p : Nat} {rs : List (Nat × Int)} : dSchC.run c [schD p rs] = .ok (rowsD true rs) [schD p rs] := by
  have body : sden c dSchC.body ([schD p rs] ++ List.replicate (dSchC.nn - dSchC.np) .dead) = .rt (rowsD true rs) [schD p rs] := by
    show sden c (.ret (.blt .list (.cons (.fld "Schedule" "rows" (.var 0)) .nil))) [schD p rs] = _
    refine ret_rt ?_
    rw [blt1 rfl (rows_val rfl), f_list persL_rows]
    rfl
  rw [run_rt rfl body]
  rfl
theorem schG_ok {c : Str → List D → CRes} {p : Nat} {rs : List (Nat × Int)} (hl : rs.length ≤ 100000) : dSchG.run c [schD p rs] = .ok (gsD true (rs.map (·.1))) [schD p rs] := by
  have sz := sizeLine_eq
  have it : (den c (.fld "Schedule" "rows" (.var 0))).itr [schD p rs, .dead, .dead] = .ok (.fix (rs.map rowD1)) [schD p rs, .dead, .dead] := by
    rw [i_fld, rows_val rfl]
    rfl
  have h := comp_map (c := c) (elt := .var 1) (tg := .tupE (.cons (.var 1) (.cons (.var 2) .nil))) (it := .fld "Schedule" "rows" (.var 0)) (own := [1, 2]) (src := .fix (rs.map rowD1)) (n := rs.length) (fun k => rowD1 (rs.getD k (0, 0))) (fun k => .int ((rs.getD k (0, 0)).1 : Int)) [schD p rs, .dead, .dead] (g := [schD p rs, .dead, .dead]) (g0 := [schD p rs, .dead, .dead])
    it rfl (by simp [Src.len]) rfl (fun k hk => by
      rw [at_fix]
      by_cases h : k < rs.length
      · rw [if_pos h]; simp [h]
      · rw [if_neg h, List.getElem?_eq_none (by simp; omega)]) (fun k hk => ⟨[schD p rs, .int ((rs.getD k (0, 0)).1 : Int), .int (rs.getD k (0, 0)).2], _, by simp [s_tup, s_cons, s_nil, s_var, asgTup, asgCons, asgNil, cntE, rb_ok], v_var, rfl⟩) (by omega)
  have e : (rg rs.length fun k => D.int ((rs.getD k (0, 0)).1 : Int)) = (rs.map (·.1)).map fun (g : Nat) => D.int (g : Int) := by
    unfold rg
    rw [List.map_map]
    apply List.ext_getElem?
    intro i
    by_cases h : i < rs.length
    · simp [h]
    · simp [h]
  rw [e] at h
  have body : sden c dSchG.body ([schD p rs] ++ List.replicate (dSchG.nn - dSchG.np) .dead) = .rt (gsD true (rs.map (·.1))) [schD p rs, .dead, .dead] := ret_rt h
  rw [run_rt rfl body]
  rfl
end Bm

set_option maxHeartbeats 4000000
/-! B56: drawn comparisons; Schedules as they are used. -/
namespace Bm
open PySem
/-! ### uses of an instance that nobody changes -/
section
variable {c : Str → List D → CRes} {g : List D} {i : Nat} {x C m : Str} {fs : List Str} {xs : List D} {d : D}
theorem prop_val (hi : g[i]? = some (.nd (.ins false C fs) xs)) (hm : fs.contains m = false) (hc : c x [.nd (.ins false C fs) xs] = .ok d [.nd (.ins false C fs) xs]) : (den c (.prop x C m (.var i))).val g = .ok (d, false) g := by
  have hv : varD i g = .ok (.nd (.ins false C fs) xs, false) g := by simp [varD, hi, mkV, D.isDead, D.pers, o_some]
  rw [v_prop, o_var, hv]
  simp only [rb_ok, argD, hi, insOf, decide_true, Bool.true_and, hm, Bool.not_false, if_true]
  simp only [callD, takeA, hi, D.isDead, D.pers, Bool.not_false, if_true, Bool.false_eq_true, if_false, Option.map, hc, backA, Bm.R.noex]
theorem meth0_val (hi : g[i]? = some (.nd (.ins false C fs) xs)) (hm : fs.contains m = false) (hc : c x [.nd (.ins false C fs) xs] = .ok d [.nd (.ins false C fs) xs]) : (den c (.meth x C m (.var i) .nil)).val g = .ok (d, false) g := by
  have hv : varD i g = .ok (.nd (.ins false C fs) xs, false) g := by simp [varD, hi, mkV, D.isDead, D.pers, o_some]
  rw [v_meth, o_var, hv]
  simp only [rb_ok, argD, hi, insOf, decide_true, Bool.true_and, hm, Bool.not_false, if_true, a_nil]
  simp only [callD, takeA, hi, D.isDead, D.pers, Bool.not_false, if_true, Bool.false_eq_true, if_false, Option.map, hc, backA]
/-- C(..), given up at once -/
theorem make_val {es : E} {as : List Arg} {g1 g2 g3 : List D} {ds ds' xs : List D} {fs : List Str} (h : (den c es).arg g = .ok as g1) (ht : takeA as g1 = some (ds, g2)) (hc : c x (.nd (.ins true C []) [] :: ds) = .ok .non (.nd (.ins true C fs) xs :: ds')) (hb : backA as ds ds' g2 = some g3) :
    (den c (.frz (.make x C es))).val g = .ok (.nd (.ins false C fs) (frzL xs), false) g3 := by
  rw [v_frz, v_make, h]
  simp only [rb_ok, makeD, ht, hc, hb]
  rfl
end
def InitS (c : Str → List D → CRes) : Prop := ∀ (p : Nat) (rs : List (Nat × Int)), 1 ≤ p → p ≤ 12 → rs.length ≤ 400 → (∀ r, r ∈ rs → RowOk p r) →
  c "Schedule.__init__" [.nd (.ins true "Schedule" []) [], .int (p : Int), rowsD true rs] = .ok .non [.nd (.ins true "Schedule" schF) [.int (p : Int), rowsD true rs], .int (p : Int), rowsD true rs]
theorem frz_int {i : Int} : (D.int i).frz = .int i := rfl
theorem frz_rowD1 {r : Nat × Int} : (rowD1 r).frz = rowD1 r := rfl
theorem frz_rows {m : Bool} {rs : List (Nat × Int)} : (rowsD m rs).frz = rowsD false rs := by
  simp only [D.frz, frzL_eq, List.map_map]
  rfl
/-- Schedule(i, list(j)) -/
theorem sch_val {c : Str → List D → CRes} (hc : InitS c) {i : Nat} {e : E} {p : Nat} {rs : List (Nat × Int)} {g : List D} (hi : g[i]? = some (.int (p : Int))) (hv : isVar e = false) (he : (den c e).val g = .ok (rowsD true rs, false) g) (h1 : 1 ≤ p) (h2 : p ≤ 12) (hl : rs.length ≤ 400) (hr : ∀ r, r ∈ rs → RowOk p r) :
    (den c (.frz (.make "Schedule.__init__" "Schedule" (.cons (.var i) (.cons e .nil))))).val g = .ok (schD p rs, false) g := by
  have h := make_val (c := c) (x := "Schedule.__init__") (C := "Schedule") (es := .cons (.var i) (.cons e .nil)) (g := g) (args_cons (arg_r hi rfl) (args_cons (one_val hv he) rfl)) (ds := [.int (p : Int), rowsD true rs]) (ds' := [.int (p : Int), rowsD true rs]) (g2 := g) (g3 := g)
    (by simp [takeA, hi, D.isDead, D.pers]) (hc p rs h1 h2 hl hr) (by simp [backA, D.pers])
  rw [h]
  simp only [frzL, frz_int, frz_rows]
theorem rlist_val {c : Str → List D → CRes} {i : Nat} {m : Bool} {rs : List (Nat × Int)} {g : List D} (hi : g[i]? = some (rowsD m rs)) : (den c (.blt .list (.cons (.var i) .nil))).val g = .ok (rowsD true rs, false) g := by
  have hv : varD i g = .ok (rowsD m rs, m) g := by cases m <;> simp [varD, hi, mkV, D.isDead, D.pers, o_some]
  have hl : late (.var i) .nil (rowsD m rs, m) g = some (rowsD m rs, m) := by cases m <;> simp [late, hi, mkV, D.isDead, D.pers]
  rw [v_blt, l_cons, v_var, hv, rb_ok, l_nil, rb_ok, hl]
  show ofO (bltD .list [(rowsD m rs, m)]) _ = _
  rw [f_list persL_rows]
  rfl
/-! ### prices, comparisons -/
def dPrice : Def := ⟨1,  1,
  (.ret (.idx (.lstE (.cons (.cst (.int 1)) (.cons (.call "_law_take" (.cons (.var 0) (.cons (.cst (.int 4)) .nil))) (.cons (.call "_law_take" (.cons (.var 0) (.cons (.bin .add (.bin .pow (.cst (.int 10)) (.cst (.int 18))) (.cst (.int 1))) .nil))) (.cons (.bin .pow (.cst (.int 10)) (.cst (.int 18))) .nil))))) (.call "_law_take" (.cons (.var 0) (.cons (.cst (.int 4)) .nil)))))⟩
abbrev dComps_e1 : E := (.tupE (.cons (.var 4) (.cons (.idx (.lstE (.cons (.cst (.int 1)) (.cons (.call "_law_price" (.cons (.var 0) .nil)) .nil))) (.blt .int (.cons (.var 3) .nil))) .nil)))
abbrev dComps_c1 : E := (.comp dComps_e1 (.var 4) (.call "_law_gates" (.cons (.var 0) (.cons (.var 1) (.cons (.var 2) .nil)))) .nil [ 4 ])
def dComps : Def := ⟨3,  5,
  (.seq (.asg (.var 3) (.cmp .gt (.call "_law_take" (.cons (.var 0) (.cons (.cst (.int 3)) .nil))) (.cst (.int 0)))) (.ret dComps_c1))⟩
theorem pow18 : binD .pow (.at (.int 10), false) (.at (.int 18), false) = some (.int 1000000000000000000, false) := by
  have h : (0 : Int) ≤ 18 ∧ (18 : Int) ≤ 1000000 ∧ (10 : Int).natAbs < 2 ^ 64 := by decide
  simp only [binD]
  rw [if_pos h]
  rfl
theorem lprice_ok {c : Str → List D → CRes} (hc : Draws c) {bag : D} (hb : Bag bag) : ∃ v bag', dPrice.run c [bag] = .ok (.int v) [bag'] ∧ Bag bag' ∧ 0 ≤ v ∧ v ≤ 1000000000000000000 := by
  obtain ⟨v1, b1, d1, hb1, l1, u1⟩ := draw_call (c := c) hc (i := 0) (m := .cst (.int 4)) (g := [bag]) (many := 4) rfl hb rfl v_cst (by omega) (by omega)
  have pw : ∀ g : List D, (den c (.bin .pow (.cst (.int 10)) (.cst (.int 18)))).val g = .ok (.int 1000000000000000000, false) g := fun g => by
    rw [v_bin, v_cst, rb_ok, v_cst, rb_ok, late_cst]
    simp only [Option.map, o_some, rb_ok]
    rw [pow18, o_some]
  obtain ⟨v2, b2, d2, hb2, l2, u2⟩ := draw_call (c := c) hc (i := 0) (m := .bin .add (.bin .pow (.cst (.int 10)) (.cst (.int 18))) (.cst (.int 1))) (g := [b1]) (many := 1000000000000000001) rfl hb1 rfl (by
    rw [v_bin, pw, rb_ok, v_cst, rb_ok, late_bin]
    rfl) (by omega) (by decide)
  obtain ⟨v3, b3, d3, hb3, l3, u3⟩ := draw_call (c := c) hc (i := 0) (m := .cst (.int 4)) (g := [b2]) (many := 4) rfl hb2 rfl v_cst (by omega) (by omega)
  simp only [List.set_cons_zero] at d1 d2 d3
  have lst : (den c (.lstE (.cons (.cst (.int 1)) (.cons (.call "_law_take" (.cons (.var 0) (.cons (.cst (.int 4)) .nil))) (.cons (.call "_law_take" (.cons (.var 0) (.cons (.bin .add (.bin .pow (.cst (.int 10)) (.cst (.int 18))) (.cst (.int 1))) .nil))) (.cons (.bin .pow (.cst (.int 10)) (.cst (.int 18))) .nil)))))).val [bag] = .ok (.lst true [.int 1, .int v1, .int v2, .int 1000000000000000000], false) [b2] := by
    rw [v_lst, l_cons, v_cst, rb_ok, l_cons, d1, rb_ok, l_cons, d2, rb_ok, l_cons, pw, rb_ok, l_nil, rb_ok]
    simp [late, rb_ok, mkLst, allOwn, sizeLine_eq, o_some]
  obtain ⟨k, rfl⟩ := Int.eq_ofNat_of_zero_le l3
  have hk : k < 4 := by omega
  obtain ⟨v, hv, hv0, hv1⟩ : ∃ v : Int, L2.atI [D.int 1, .int v1, .int v2, .int 1000000000000000000] (k : Int) = some (.int v) ∧ 0 ≤ v ∧ v ≤ 1000000000000000000 := by
    match k, hk with
    | 0, _ => exact ⟨1, rfl, by omega, by omega⟩
    | 1, _ => exact ⟨v1, rfl, by omega, by omega⟩
    | 2, _ => exact ⟨v2, rfl, by omega, by omega⟩
    | 3, _ => exact ⟨1000000000000000000, rfl, by omega, by omega⟩
  refine ⟨v, b3, ?_, hb3, hv0, hv1⟩
  have body : sden c dPrice.body ([bag] ++ List.replicate (dPrice.nn - dPrice.np) .dead) = .rt (.int v) [b3] := by
    refine ret_rt (c := c) (g := [bag]) ?_
    rw [idx_val (y := (.int (k : Int), false)) rfl lst d3, x_lst hv (z := (.int v, false)) rfl]
    rfl
  rw [run_rt rfl body]
  rfl
structure ComC (c : Str → List D → CRes) : Prop where
  take : Draws c
  gates : ∀ (bag : D) (p most : Nat), Bag bag → 1 ≤ p → p ≤ 1000 → most ≤ 1000 → ∃ gs bag', c "_law_gates" [bag, .int (p : Int), .int (most : Int)] = .ok (gsD true gs) [bag', .int (p : Int), .int (most : Int)] ∧ Bag bag' ∧ gs.length ≤ most ∧ ∀ g, g ∈ gs → GateOk p g
  price : ∀ bag, Bag bag → ∃ v bag', c "_law_price" [bag] = .ok (.int v) [bag'] ∧ Bag bag' ∧ 0 ≤ v ∧ v ≤ 1000000000000000000
theorem comps_ok {c : Str → List D → CRes} (hc : ComC c) {bag : D} (hb : Bag bag) {p most : Nat} (hp : 1 ≤ p) (hp2 : p ≤ 1000) (hm : most ≤ 1000) : ∃ rs bag', dComps.run c [bag, .int (p : Int), .int (most : Int)] = .ok (rowsD true rs) [bag', .int (p : Int), .int (most : Int)] ∧ Bag bag' ∧ rs.length ≤ most ∧ ∀ r, r ∈ rs → RowOk p r := by
  have sz := sizeLine_eq
  obtain ⟨v1, b1, d1, hb1, l1, u1⟩ := draw_call (c := c) hc.take (i := 0) (m := .cst (.int 3)) (g := [bag, .int (p : Int), .int (most : Int), .dead, .dead]) (many := 3) rfl hb rfl v_cst (by omega) (by omega)
  obtain ⟨gs, b2, cg, hb2, hl, hg⟩ := hc.gates b1 p most hb1 hp hp2 hm
  simp only [List.set_cons_zero] at d1
  have e1 : sden c (.asg (.var 3) (.cmp .gt (.call "_law_take" (.cons (.var 0) (.cons (.cst (.int 3)) .nil))) (.cst (.int 0)))) [bag, .int (p : Int), .int (most : Int), .dead, .dead] = .nx [b1, .int (p : Int), .int (most : Int), .bl (decide (0 < v1)), .dead] := by
    refine asg_nx (d := .bl (decide (0 < v1))) (g1 := [b1, .int (p : Int), .int (most : Int), .dead, .dead]) ?_ (by rw [var_asg (by simp)]; rfl)
    rw [v_cmp, t_cmp, d1, rb_ok, v_cst, rb_ok, late_call]
    rfl
  have it : (den c (.call "_law_gates" (.cons (.var 0) (.cons (.var 1) (.cons (.var 2) .nil))))).itr [b1, .int (p : Int), .int (most : Int), .bl (decide (0 < v1)), .dead] = .ok (.fix (gs.map fun (g : Nat) => D.int (g : Int))) [b2, .int (p : Int), .int (most : Int), .bl (decide (0 < v1)), .dead] := by
    have cl := call_bag1 (c := c) (f := "_law_gates") (i := 0) (es := .cons (.var 1) (.cons (.var 2) .nil)) (g := [b1, .int (p : Int), .int (most : Int), .bl (decide (0 < v1)), .dead]) (as := [.r 1, .r 2]) (ds := [.int (p : Int), .int (most : Int)]) rfl hb1 (args_cons (arg_r (b := .int (p : Int)) rfl rfl) (args_cons (arg_r (b := .int (most : Int)) rfl rfl) rfl)) rfl cg rfl
    rw [i_call, cl]
    rfl
  obtain ⟨ys, g', h1, ⟨b3, hb3, rfl⟩, h3, h4⟩ := comp_inv (T := den c (.var 4)) (C := den c .nil) (A := den c dComps_e1) (own := [4]) (src := .fix (gs.map fun (g : Nat) => D.int (g : Int))) (x := fun k => .int (gs.getD k 0 : Nat)) (n := gs.length) (fun _ g => ∃ b, Bag b ∧ g = [b, .int (p : Int), .int (most : Int), .bl (decide (0 < v1)), .dead]) (fun k y => ∃ r : Int, 0 ≤ r ∧ r ≤ 1000000000000000000 ∧ y = rowD1 (gs.getD k 0, r))
    (fun k g hk _ => by
      rw [at_fix]
      by_cases h : k < gs.length
      · rw [if_pos h]; simp [h]
      · rw [if_neg h, List.getElem?_eq_none (by simp; omega)]) (fun k g hk hP => by
      obtain ⟨b, hb, rfl⟩ := hP
      obtain ⟨v, b', cp, hb', v0, v1'⟩ := hc.price b hb
      have hbp := hb.not_pers
      have cl : ∀ z : D, (den c (.call "_law_price" (.cons (.var 0) .nil))).val [b, .int (p : Int), .int (most : Int), .bl (decide (0 < v1)), z] = .ok (.int v, false) [b', .int (p : Int), .int (most : Int), .bl (decide (0 < v1)), z] := fun z =>
        call_val (args_cons (arg_r (b := b) rfl hbp.2) rfl) (ds := [b]) (g2 := [.dead, .int (p : Int), .int (most : Int), .bl (decide (0 < v1)), z]) (by simp [takeA, hbp.1, hbp.2]) cp (by simp [backA, hbp.1])
      refine ⟨[b, .int (p : Int), .int (most : Int), .bl (decide (0 < v1)), .int (gs.getD k 0 : Nat)], _, [b', .int (p : Int), .int (most : Int), .bl (decide (0 < v1)), .int (gs.getD k 0 : Nat)], rowD1 (gs.getD k 0, if 0 < v1 then v else 1), by simp [s_var], rfl, ?_, ⟨_, ?_, ?_, rfl⟩, b', hb', rfl⟩
      · have i1 : (den c (.idx (.lstE (.cons (.cst (.int 1)) (.cons (.call "_law_price" (.cons (.var 0) .nil)) .nil))) (.blt .int (.cons (.var 3) .nil)))).val [b, .int (p : Int), .int (most : Int), .bl (decide (0 < v1)), .int (gs.getD k 0 : Nat)] = .ok (.int (if 0 < v1 then v else 1), false) [b', .int (p : Int), .int (most : Int), .bl (decide (0 < v1)), .int (gs.getD k 0 : Nat)] := by
          have ls : (den c (.lstE (.cons (.cst (.int 1)) (.cons (.call "_law_price" (.cons (.var 0) .nil)) .nil)))).val [b, .int (p : Int), .int (most : Int), .bl (decide (0 < v1)), .int (gs.getD k 0 : Nat)] = .ok (.lst true [.int 1, .int v], false) [b', .int (p : Int), .int (most : Int), .bl (decide (0 < v1)), .int (gs.getD k 0 : Nat)] := by
            rw [v_lst, l_cons, v_cst, rb_ok, l_cons, cl, rb_ok, l_nil, rb_ok]
            simp [late, rb_ok, mkLst, allOwn, sz, o_some]
          have bi : ∀ B : Bool, (den c (.blt .int (.cons (.var 3) .nil))).val [b', .int (p : Int), .int (most : Int), .bl B, .int (gs.getD k 0 : Nat)] = .ok (.int (if B then 1 else 0), false) [b', .int (p : Int), .int (most : Int), .bl B, .int (gs.getD k 0 : Nat)] := fun B => rfl
          rw [idx_val rfl ls (bi _)]
          by_cases h : 0 < v1
          · rw [if_pos h, decide_eq_true h]
            rfl
          · rw [if_neg h, decide_eq_false h]
            rfl
        show (den c (.tupE (.cons (.var 4) (.cons _ .nil)))).val _ = _
        rw [v_tup, l_cons, v_var]
        simp only [varD, List.getElem?_cons_succ, List.getElem?_cons_zero, mkV, D.isDead, D.pers, Bool.false_eq_true, if_false, Bool.not_true, Bool.and_false, o_some, rb_ok]
        rw [l_cons, i1]
        simp [rb_ok, l_nil, late, mkV, D.isDead, D.pers, mkTup, allOwn, sz, o_some]
      · split <;> omega
      · split <;> omega) gs.length 0 [b2, .int (p : Int), .int (most : Int), .bl (decide (0 < v1)), .dead] (by omega) ⟨b2, hb2, rfl⟩
  have rows : ∃ rs : List (Nat × Int), ys = rs.map rowD1 ∧ rs.length = gs.length ∧ ∀ r, r ∈ rs → RowOk p r := by
    have : ∀ (ys : List D) (o : Nat), ys.length + o = gs.length → (∀ i y, ys[i]? = some y → ∃ r : Int, 0 ≤ r ∧ r ≤ 1000000000000000000 ∧ y = rowD1 (gs.getD (o + i) 0, r)) → ∃ rs : List (Nat × Int), ys = rs.map rowD1 ∧ rs.length = ys.length ∧ ∀ r, r ∈ rs → RowOk p r := by
      intro ys
      induction ys with
      | nil => exact fun _ _ _ => ⟨[], rfl, rfl, fun _ h => (nomatch h)⟩
      | cons y ys ih =>
        intro o ho h
        obtain ⟨r, r0, r1, rfl⟩ := h 0 y rfl
        obtain ⟨rs, e, l, q⟩ := ih (o + 1) (by simp at ho; omega) fun i y hy => by
          have := h (i + 1) y (by simpa using hy)
          rwa [show o + (i + 1) = o + 1 + i by omega] at this
        refine ⟨(gs.getD o 0, r) :: rs, by rw [e]; rfl, by simp [l], fun z hz => ?_⟩
        rcases List.mem_cons.mp hz with rfl | hz
        · have ho2 : o < gs.length := by simp at ho; omega
          exact ⟨hg _ (by simp [List.getD, ho2]), r0, r1⟩
        · exact q z hz
    obtain ⟨rs, e, l, q⟩ := this ys 0 (by omega) fun i y hy => h4 i y hy
    exact ⟨rs, e, by omega, q⟩
  obtain ⟨rs, rfl, hrl, hrs⟩ := rows
  have hz : (rs.map rowD1).length ≤ sizeLine := by rw [List.length_map]; omega
  have cv := comp_val (c := c) (elt := dComps_e1) (tg := .var 4) (it := .call "_law_gates" (.cons (.var 0) (.cons (.var 1) (.cons (.var 2) .nil)))) (tst := .nil) (own := [4]) (g := [b1, .int (p : Int), .int (most : Int), .bl (decide (0 < v1)), .dead]) it rfl (by simpa [Src.len, wipe] using h1) hz
  refine ⟨rs, b3, ?_, hb3, by omega, hrs⟩
  have body : sden c dComps.body ([bag, .int (p : Int), .int (most : Int)] ++ List.replicate (dComps.nn - dComps.np) .dead) = .rt (rowsD true rs) [b3, .int (p : Int), .int (most : Int), .bl (decide (0 < v1)), .dead] := by
    show sden c (.seq (.asg (.var 3) _) (.ret dComps_c1)) [bag, .int (p : Int), .int (most : Int), .dead, .dead] = _
    rw [seq_nx e1]
    refine ret_rt ?_
    rw [cv]
    rfl
  rw [run_rt rfl body]
  rfl
/-! ### layers -/
abbrev dFree_e2 : E := (.blt .max (.cons (.bin .sub (.var 1) (.var 2)) (.cons (.cst (.int 0)) .nil)))
abbrev dFree_c2 : E := (.comp dFree_e2 (.var 2) (.blt .range (.cons (.bin .add (.var 0) (.cst (.int 1))) .nil)) .nil [ 2 ])
abbrev dFree_e1 : E := dFree_c2
abbrev dFree_c1 : E := (.comp dFree_e1 (.var 1) (.blt .range (.cons (.bin .add (.var 0) (.cst (.int 1))) .nil)) .nil [ 1 ])
def dFree : Def := ⟨1,  3,
  (.ret dFree_c1)⟩
abbrev dLayersP_e1 : E := (.call "free_table" (.cons (.prop "Schedule.places" "Schedule" "places" (.var 0)) .nil))
abbrev dLayersP_c1 : E := (.comp dLayersP_e1 (.var 4) (.blt .range (.cons (.bin .add (.var 1) (.cst (.int 1))) .nil)) .nil [ 4 ])
abbrev dLayersP_b1 : S := (.kill [ 3 ] (.expr (.call "compare_layers" (.cons (.var 2) (.cons (.var 3) .nil)))))
abbrev dLayersP_f1 : S := (.forS (.var 3) (.meth "Schedule.gates" "Schedule" "gates" (.var 0) .nil) dLayersP_b1)
def dLayersP : Def := ⟨2,  5,
  (.seq (.asg (.var 2) dLayersP_c1) (.seq (.kill [ 3 ] dLayersP_f1) (.ret (.mv 2))))⟩
theorem free_ok {c : Str → List D → CRes} {n : Nat} (hn : n ≤ 100) : dFree.run c [.int (n : Int)] = .ok (tabD true (n + 1) (F0 0)) [.int (n : Int)] := by
  have sz := sizeLine_eq
  have rl : ∀ a b : D, (den c (.cons (.bin .add (.var 0) (.cst (.int 1))) .nil)).lst [.int (n : Int), a, b] = .ok [(.int ((n + 1 : Nat) : Int), false)] [.int (n : Int), a, b] := fun a b => by simp [v_cst, v_glb, v_var, v_bin, t_cmp, v_cmp, v_neg, v_not, t_not, t_and, t_or, v_and, v_or, v_ife, l_nil, l_cons, v_tup, v_lst, v_idx, v_slc, p_part, v_rev, v_lrg, v_blt, v_mv, v_frz, t_nil, t_var, t_idx, t_blt, s_var, s_tup, s_cons, s_nil, w_skip, w_seq, w_expr, w_asg, w_par, w_ret, w_if, w_kill, rb_ok, rs_ok, sb_nx, sb_rt, o_some, varD, mvD, mkV, late, quiet, isVar, own1, D.isDead, D.pers, partI, b_add, b_sub, b_mod, c_lt, c_le, c_gt, c_ge, c_eq, c_ne, e_int, e_str, truD, f_len, f_lenT, f_min2, f_max2, f_intB, f_intI, idxD, allOwn, mkLst, mkTup, asgTup, asgCons, asgNil, cntE]
  have c2 : ∀ k : Nat, (den c dFree_c2).val [.int (n : Int), .int (k : Int), .dead] = .ok (rowD true (n + 1) (F0 0 k), false) [.int (n : Int), .int (k : Int), .dead] := fun k => by
    have h := comp_map (c := c) (elt := dFree_e2) (tg := .var 2) (it := .blt .range (.cons (.bin .add (.var 0) (.cst (.int 1))) .nil)) (own := [2]) (src := .fix (rangeD 0 (n + 1))) (n := n + 1) (fun t => .int (0 + (t : Int))) (fun t => .int (F0 0 k t)) [.int (n : Int), .int (k : Int), .dead] (g := [.int (n : Int), .int (k : Int), .dead]) (g0 := [.int (n : Int), .int (k : Int), .dead])
      (range_itr (rl _ _) (by omega)) rfl (by rw [rangeD_rg]; exact len_fix) rfl (fun t ht => by rw [rangeD_rg]; exact fix_rg ht) (fun t ht => ⟨[.int (n : Int), .int (k : Int), .int (0 + (t : Int))], _, by simp [s_var], by simp [v_cst, v_glb, v_var, v_bin, t_cmp, v_cmp, v_neg, v_not, t_not, t_and, t_or, v_and, v_or, v_ife, l_nil, l_cons, v_tup, v_lst, v_idx, v_slc, p_part, v_rev, v_lrg, v_blt, v_mv, v_frz, t_nil, t_var, t_idx, t_blt, s_var, s_tup, s_cons, s_nil, w_skip, w_seq, w_expr, w_asg, w_par, w_ret, w_if, w_kill, rb_ok, rs_ok, sb_nx, sb_rt, o_some, varD, mvD, mkV, late, quiet, isVar, own1, D.isDead, D.pers, partI, binD, cmpD, eqD, truD, bltD, idxD, allOwn, mkLst, mkTup, asgTup, asgCons, asgNil, cntE, F0]; rfl, rfl⟩) (by omega)
    rw [h]
    rfl
  have c1 : (den c dFree_c1).val [.int (n : Int), .dead, .dead] = .ok (tabD true (n + 1) (F0 0), false) [.int (n : Int), .dead, .dead] := by
    have h := comp_map (c := c) (elt := dFree_e1) (tg := .var 1) (it := .blt .range (.cons (.bin .add (.var 0) (.cst (.int 1))) .nil)) (own := [1]) (src := .fix (rangeD 0 (n + 1))) (n := n + 1) (fun t => .int (0 + (t : Int))) (fun k => rowD true (n + 1) (F0 0 k)) [.int (n : Int), .dead, .dead] (g := [.int (n : Int), .dead, .dead]) (g0 := [.int (n : Int), .dead, .dead])
      (range_itr (rl _ _) (by omega)) rfl (by rw [rangeD_rg]; exact len_fix) rfl (fun t ht => by rw [rangeD_rg]; exact fix_rg ht) (fun k hk => ⟨[.int (n : Int), .int (0 + (k : Int)), .dead], [.int (n : Int), .int (0 + (k : Int)), .dead], by simp [s_var], by rw [Int.zero_add]; exact c2 k, rfl⟩) (by omega)
    rw [h]
    rfl
  have body : sden c dFree.body ([.int (n : Int)] ++ List.replicate (dFree.nn - dFree.np) .dead) = .rt (tabD true (n + 1) (F0 0)) [.int (n : Int), .dead, .dead] := ret_rt c1
  rw [run_rt rfl body]
  rfl
structure SchC (c : Str → List D → CRes) : Prop where
  free : ∀ n : Nat, n ≤ 100 → c "free_table" [.int (n : Int)] = .ok (tabD true (n + 1) (F0 0)) [.int (n : Int)]
  places : ∀ (p : Nat) (rs : List (Nat × Int)), c "Schedule.places" [schD p rs] = .ok (.int (p : Int)) [schD p rs]
  gates : ∀ (p : Nat) (rs : List (Nat × Int)), rs.length ≤ 100000 → c "Schedule.gates" [schD p rs] = .ok (gsD true (rs.map (·.1))) [schD p rs]
  cmp : ∀ (F N g : Nat) (L : Nat → Nat → Nat → Int), 1 ≤ g → g + 1 < N → 1 ≤ F → F ≤ 1000 → c "compare_layers" [layD true F N L, .int (g : Int)] = .ok .non [layD true F N (cmpL L g), .int (g : Int)]
theorem layersP_ok {c : Str → List D → CRes} (hc : SchC c) {F p : Nat} {rs : List (Nat × Int)} (hF0 : 1 ≤ F) (hF : F ≤ 1000) (hp : p ≤ 100) (hl : rs.length ≤ 100000) (hr : ∀ r, r ∈ rs → RowOk p r) :
    dLayersP.run c [schD p rs, .int ((F : Int) - 1)] = .ok (layD true F (p + 1) (layG F0 (rs.map (·.1)))) [schD p rs, .int ((F : Int) - 1)] := by
  have sz := sizeLine_eq
  have pv : ∀ a b d : D, (den c (.prop "Schedule.places" "Schedule" "places" (.var 0))).val [schD p rs, .int ((F : Int) - 1), a, b, d] = .ok (.int (p : Int), false) [schD p rs, .int ((F : Int) - 1), a, b, d] := fun a b d => prop_val rfl (by decide) (hc.places p rs)
  have c1 : (den c dLayersP_c1).val [schD p rs, .int ((F : Int) - 1), .dead, .dead, .dead] = .ok (layD true F (p + 1) F0, false) [schD p rs, .int ((F : Int) - 1), .dead, .dead, .dead] := by
    have h := comp_map (c := c) (elt := dLayersP_e1) (tg := .var 4) (it := .blt .range (.cons (.bin .add (.var 1) (.cst (.int 1))) .nil)) (own := [4]) (src := .fix (rangeD 0 F)) (n := F) (fun t => .int (0 + (t : Int))) (fun f => tabD true (p + 1) (F0 f)) [schD p rs, .int ((F : Int) - 1), .dead, .dead, .dead] (g := [schD p rs, .int ((F : Int) - 1), .dead, .dead, .dead]) (g0 := [schD p rs, .int ((F : Int) - 1), .dead, .dead, .dead])
      (range_itr (by simp [v_cst, v_glb, v_var, v_bin, t_cmp, v_cmp, v_neg, v_not, t_not, t_and, t_or, v_and, v_or, v_ife, l_nil, l_cons, v_tup, v_lst, v_idx, v_slc, p_part, v_rev, v_lrg, v_blt, v_mv, v_frz, t_nil, t_var, t_idx, t_blt, s_var, s_tup, s_cons, s_nil, w_skip, w_seq, w_expr, w_asg, w_par, w_ret, w_if, w_kill, rb_ok, rs_ok, sb_nx, sb_rt, o_some, varD, mvD, mkV, late, quiet, isVar, own1, D.isDead, D.pers, partI, b_add, b_sub, b_mod, c_lt, c_le, c_gt, c_ge, c_eq, c_ne, e_int, e_str, truD, f_len, f_lenT, f_min2, f_max2, f_intB, f_intI, idxD, allOwn, mkLst, mkTup, asgTup, asgCons, asgNil, cntE]) (by omega)) rfl (by rw [rangeD_rg]; exact len_fix) rfl (fun t ht => by rw [rangeD_rg]; exact fix_rg ht) (fun f hf => ⟨[schD p rs, .int ((F : Int) - 1), .dead, .dead, .int (0 + (f : Int))], [schD p rs, .int ((F : Int) - 1), .dead, .dead, .int (0 + (f : Int))], by simp [s_var], call_v1 rfl (pv _ _ _) (hc.free p hp), rfl⟩) (by omega)
    rw [h]
    rfl
  have e1 : sden c (.asg (.var 2) dLayersP_c1) [schD p rs, .int ((F : Int) - 1), .dead, .dead, .dead] = .nx [schD p rs, .int ((F : Int) - 1), layD true F (p + 1) F0, .dead, .dead] := asg_nx c1 (by rw [var_asg (by simp)]; rfl)
  have x : ∀ k, k < rs.length → ((rs.map (·.1)).map fun (g : Nat) => D.int (g : Int))[k]? = some (.int ((rs.map (·.1)).getD k 0 : Nat)) := fun k hk => by simp [hk]
  have e2 : sden c dLayersP_f1 [schD p rs, .int ((F : Int) - 1), layD true F (p + 1) F0, .dead, .dead] = .nx [schD p rs, .int ((F : Int) - 1), layD true F (p + 1) (layG F0 (rs.map (·.1))), .dead, .dead] := by
    have h := for_fn (c := c) (t := .var 3) (it := .meth "Schedule.gates" "Schedule" "gates" (.var 0) .nil) (b := dLayersP_b1) (src := .fix ((rs.map (·.1)).map fun (g : Nat) => D.int (g : Int))) (n := rs.length) (g := [schD p rs, .int ((F : Int) - 1), layD true F (p + 1) F0, .dead, .dead]) (fun k => .int ((rs.map (·.1)).getD k 0 : Nat)) (fun k => [schD p rs, .int ((F : Int) - 1), layD true F (p + 1) (layG F0 ((rs.map (·.1)).take k)), .dead, .dead])
      (by rw [i_meth, meth0_val rfl (by decide) (hc.gates p rs hl)]; rfl) rfl (by simp [Src.len]) (fun k hk => by
        rw [at_fix]
        by_cases h : k < rs.length
        · rw [x k h, if_pos h]
        · rw [List.getElem?_eq_none (by simp; omega), if_neg h]) (fun k hk => by
        refine ⟨[schD p rs, .int ((F : Int) - 1), layD true F (p + 1) (layG F0 ((rs.map (·.1)).take k)), .int ((rs.map (·.1)).getD k 0 : Nat), .dead], by simp [s_var], .inl ?_⟩
        have hm : GateOk p ((rs.map (·.1)).getD k 0) := by
          have : (rs.map (·.1)).getD k 0 = rs[k].1 := by simp [List.getD, hk]
          rw [this]
          exact (hr rs[k] (List.getElem_mem hk)).1
        have cl : (den c (.call "compare_layers" (.cons (.var 2) (.cons (.var 3) .nil)))).val [schD p rs, .int ((F : Int) - 1), layD true F (p + 1) (layG F0 ((rs.map (·.1)).take k)), .int ((rs.map (·.1)).getD k 0 : Nat), .dead] = .ok (.non, false) [schD p rs, .int ((F : Int) - 1), layD true F (p + 1) (cmpL (layG F0 ((rs.map (·.1)).take k)) ((rs.map (·.1)).getD k 0)), .int ((rs.map (·.1)).getD k 0 : Nat), .dead] :=
          call_val (args_cons (arg_r (b := layD true F (p + 1) (layG F0 ((rs.map (·.1)).take k))) rfl rfl) (args_cons (arg_r (b := .int ((rs.map (·.1)).getD k 0 : Nat)) rfl rfl) rfl)) (ds := [layD true F (p + 1) (layG F0 ((rs.map (·.1)).take k)), .int ((rs.map (·.1)).getD k 0 : Nat)]) (g2 := [schD p rs, .int ((F : Int) - 1), .dead, .int ((rs.map (·.1)).getD k 0 : Nat), .dead]) rfl (hc.cmp F (p + 1) _ _ hm.1 (by have := hm.2; omega) hF0 hF) rfl
        have ex : sden c (.expr (.call "compare_layers" (.cons (.var 2) (.cons (.var 3) .nil)))) [schD p rs, .int ((F : Int) - 1), layD true F (p + 1) (layG F0 ((rs.map (·.1)).take k)), .int ((rs.map (·.1)).getD k 0 : Nat), .dead] = .nx [schD p rs, .int ((F : Int) - 1), layD true F (p + 1) (cmpL (layG F0 ((rs.map (·.1)).take k)) ((rs.map (·.1)).getD k 0)), .int ((rs.map (·.1)).getD k 0 : Nat), .dead] := by
          rw [w_expr, cl]
          rfl
        rw [kill_nx ex]
        have q : layG F0 ((rs.map (·.1)).take (k + 1)) = cmpL (layG F0 ((rs.map (·.1)).take k)) ((rs.map (·.1)).getD k 0) := by
          rw [List.take_succ]
          unfold layG
          rw [List.foldl_append]
          simp [hk]
        rw [q]
        rfl)
    rw [show (rs.map (·.1)).take rs.length = rs.map (·.1) from List.take_of_length_le (by simp)] at h
    exact h
  have body : sden c dLayersP.body ([schD p rs, .int ((F : Int) - 1)] ++ List.replicate (dLayersP.nn - dLayersP.np) .dead) = .rt (layD true F (p + 1) (layG F0 (rs.map (·.1)))) [schD p rs, .int ((F : Int) - 1), .dead, .dead, .dead] := by
    show sden c (.seq (.asg (.var 2) dLayersP_c1) (.seq (.kill [3] dLayersP_f1) (.ret (.mv 2)))) [schD p rs, .int ((F : Int) - 1), .dead, .dead, .dead] = _
    rw [seq_nx e1, seq_nx (kill_nx e2)]
    rfl
  rw [run_rt rfl body]
  rfl
end Bm

namespace WK34
open PySem Bm
/-- _law_bag: _law_script _law_cell -/
def d__law_bag : Def := ⟨1, 2,
  (.ret (.lstE (.cons (.cst (.int 0)) (.cons (.cst (.int 1234567891)) (.cons (.cst (.int 0)) (.cons (.comp (.blt .abs (.cons (.var 1) .nil)) (.var 1) (.slc (.var 0) (.cst .non) (.cst (.int 63))) .nil [1]) .nil))))))⟩
/-- _law_take: _law_bag_here _law_many _law_cell _law_value _law_first _law_second -/
def d__law_take : Def := ⟨2, 6,
  (.seq (.ifS (.cmp .eq (.idx (.var 0) (.cst (.int 0))) (.cst (.int 0)))
  (.seq (.asg (.var 2) (.cst (.int 0)))
  (.seq (.ifS (.cmp .lt (.idx (.var 0) (.cst (.int 2))) (.blt .len (.cons (.idx (.var 0) (.cst (.int 3))) .nil)))
  (.asg (.var 2) (.idx (.idx (.var 0) (.cst (.int 3))) (.idx (.var 0) (.cst (.int 2)))))
  .skip)
  (.seq (.augI (.var 0) (.cst (.int 2)) .add (.cst (.int 1)))
  (.seq (.ifS (.cmp .ge (.var 2) (.cst (.int 1000000000000000000)))
  (.asg (.idx (.var 0) (.cst (.int 0))) (.var 2))
  .skip)
  (.asg (.idx (.var 0) (.cst (.int 1))) (.bin .mod (.bin .add (.bin .add (.bin .mul (.idx (.var 0) (.cst (.int 1))) (.cst (.int 48271))) (.bin .mod (.var 2) (.cst (.int 2147483647)))) (.bin .mul (.cst (.int 7919)) (.idx (.var 0) (.cst (.int 2))))) (.cst (.int 2147483647))))))))
  .skip)
  (.seq (.ifS (.cmp .gt (.idx (.var 0) (.cst (.int 0))) (.cst (.int 0)))
  (.seq (.asg (.var 3) (.bin .mod (.idx (.var 0) (.cst (.int 0))) (.var 1)))
  (.seq (.asg (.idx (.var 0) (.cst (.int 0))) (.bin .fdiv (.idx (.var 0) (.cst (.int 0))) (.var 1)))
  (.ret (.mv 3))))
  .skip)
  (.seq (.asg (.var 4) (.bin .mod (.bin .mul (.bin .add (.idx (.var 0) (.cst (.int 1))) (.cst (.int 1))) (.cst (.int 39373))) (.cst (.int 1000000007))))
  (.seq (.asg (.var 5) (.bin .mod (.bin .mul (.bin .mod (.bin .mul (.var 4) (.var 4)) (.cst (.int 998244353))) (.cst (.int 30011))) (.cst (.int 998244353))))
  (.seq (.ifS (.cmp .gt (.var 1) (.cst (.int 1000000)))
  (.ret (.bin .mod (.bin .add (.bin .mul (.var 5) (.cst (.int 1000000007))) (.var 4)) (.var 1)))
  .skip)
  (.ret (.bin .mod (.bin .fdiv (.var 5) (.cst (.int 7))) (.var 1))))))))⟩
/-- _law_places: _law_bag_here _law_least _law_most -/
def d__law_places : Def := ⟨3, 3,
  (.ret (.bin .add (.var 1) (.call "_law_take" (.cons (.var 0) (.cons (.bin .add (.bin .sub (.var 2) (.var 1)) (.cst (.int 1))) .nil)))))⟩
/-- _law_price: _law_bag_here -/
def d__law_price : Def := ⟨1, 1,
  (.ret (.idx (.lstE (.cons (.cst (.int 1)) (.cons (.call "_law_take" (.cons (.var 0) (.cons (.cst (.int 4)) .nil))) (.cons (.call "_law_take" (.cons (.var 0) (.cons (.bin .add (.bin .pow (.cst (.int 10)) (.cst (.int 18))) (.cst (.int 1))) .nil))) (.cons (.bin .pow (.cst (.int 10)) (.cst (.int 18))) .nil))))) (.call "_law_take" (.cons (.var 0) (.cons (.cst (.int 4)) .nil)))))⟩
/-- _law_gates: _law_bag_here _law_places_here _law_most _law_way _law_at _law_found _law_k _law_gate -/
def d__law_gates : Def := ⟨3, 8,
  (.seq (.par [3, 4] (.cons (.call "_law_take" (.cons (.var 0) (.cons (.cst (.int 4)) .nil))) (.cons (.call "_law_take" (.cons (.var 0) (.cons (.cst (.int 12)) .nil))) .nil)))
  (.seq (.asg (.var 5) (.lstE .nil))
  (.seq (.kill [6, 7] (.forS (.var 6) (.blt .range (.cons (.bin .mul (.call "_law_take" (.cons (.var 0) (.cons (.bin .add (.var 2) (.cst (.int 1))) .nil))) (.blt .int (.cons (.cmp .gt (.var 1) (.cst (.int 1))) .nil))) .nil))
  (.kill [6, 7] (.seq (.asg (.var 7) (.bin .add (.cst (.int 1)) (.call "_law_take" (.cons (.var 0) (.cons (.bin .sub (.var 1) (.cst (.int 1))) .nil)))))
  (.seq (.ifS (.cmp .eq (.var 3) (.cst (.int 1)))
  (.asg (.var 7) (.bin .add (.cst (.int 1)) (.bin .mod (.bin .add (.var 4) (.var 6)) (.bin .sub (.var 1) (.cst (.int 1))))))
  .skip)
  (.seq (.ifS (.cmp .eq (.var 3) (.cst (.int 2)))
  (.asg (.var 7) (.bin .sub (.bin .sub (.var 1) (.cst (.int 1))) (.bin .mod (.bin .add (.var 4) (.var 6)) (.bin .sub (.var 1) (.cst (.int 1))))))
  .skip)
  (.seq (.ifS (.andE (.cmp .eq (.var 3) (.cst (.int 3))) (.cmp .gt (.bin .mod (.var 7) (.cst (.int 3))) (.cst (.int 0))))
  (.asg (.var 7) (.bin .add (.cst (.int 1)) (.bin .mod (.bin .add (.var 4) (.bin .mod (.var 6) (.cst (.int 2)))) (.bin .sub (.var 1) (.cst (.int 1))))))
  .skip)
  (.expr (.lm .append (.var 5) (.cons (.mv 7) .nil))))))))))
  (.ret (.mv 5)))))⟩
/-- _law_comparisons: _law_bag_here _law_places_here _law_most _law_dear _law_gate -/
def d__law_comparisons : Def := ⟨3, 5,
  (.seq (.asg (.var 3) (.cmp .gt (.call "_law_take" (.cons (.var 0) (.cons (.cst (.int 3)) .nil))) (.cst (.int 0))))
  (.ret (.comp (.tupE (.cons (.var 4) (.cons (.idx (.lstE (.cons (.cst (.int 1)) (.cons (.call "_law_price" (.cons (.var 0) .nil)) .nil))) (.blt .int (.cons (.var 3) .nil))) .nil))) (.var 4) (.call "_law_gates" (.cons (.var 0) (.cons (.var 1) (.cons (.var 2) .nil)))) .nil [4])))⟩
/-- is_integer: thing -/
def d_is_integer : Def := ⟨1, 1,
  (.ret (.andE (.isi .int (.var 0)) (.notE (.isi .bool (.var 0)))))⟩
/-- is_between: thing low high -/
def d_is_between : Def := ⟨3, 3,
  (.ret (.andE (.call "is_integer" (.cons (.var 0) .nil)) (.cmp2 .le .le (.var 1) (.var 0) (.var 2))))⟩
/-- is_price: thing -/
def d_is_price : Def := ⟨1, 1,
  (.ret (.call "is_between" (.cons (.var 0) (.cons (.cst (.int 0)) (.cons (.glb "MAX_PRICE" (.int 1000000000000000000)) .nil)))))⟩
/-- is_comparison: thing places -/
def d_is_comparison : Def := ⟨2, 2,
  (.seq (.ifS (.orE (.notE (.isi .tuple (.var 0))) (.cmp .ne (.blt .len (.cons (.var 0) .nil)) (.cst (.int 2))))
  (.ret (.cst (.bl false)))
  .skip)
  (.ret (.andE (.call "is_between" (.cons (.idx (.var 0) (.cst (.int 0))) (.cons (.cst (.int 1)) (.cons (.bin .sub (.var 1) (.cst (.int 1))) .nil)))) (.call "is_price" (.cons (.idx (.var 0) (.cst (.int 1))) .nil)))))⟩
/-- Schedule.__init__: self places comparisons at comparison -/
def d_Schedule_m___init__ : Def := ⟨3, 5,
  (.seq (.ifS (.notE (.call "is_between" (.cons (.var 1) (.cons (.cst (.int 1)) (.cons (.glb "MAX_PLACES" (.int 12)) .nil)))))
  .never
  .skip)
  (.seq (.ifS (.orE (.notE (.isi .list (.var 2))) (.cmp .gt (.blt .len (.cons (.var 2) .nil)) (.glb "MAX_COMPARISONS" (.int 400))))
  .never
  .skip)
  (.seq (.kill [3, 4] (.forS (.tupE (.cons (.var 3) (.cons (.var 4) .nil))) (.blt .enumerate (.cons (.var 2) .nil))
  (.kill [3, 4] (.ifS (.notE (.call "is_comparison" (.cons (.var 4) (.cons (.var 1) .nil))))
  .never
  .skip))))
  (.seq (.setF 0 "Schedule" "place_count" (.var 1))
  (.setF 0 "Schedule" "rows" (.blt .list (.cons (.var 2) .nil)))))))⟩
/-- _law_compared: _law_tables _law_gate _law_found _law_f _law_table _law_rows _law_k _law_row _law_entry -/
def d__law_compared : Def := ⟨2, 9,
  (.seq (.asg (.var 2) (.lstE .nil))
  (.seq (.kill [3, 4, 5, 6, 7, 8] (.forS (.tupE (.cons (.var 3) (.cons (.var 4) .nil))) (.blt .enumerate (.cons (.var 0) .nil))
  (.kill [3, 4, 5, 6, 7, 8] (.seq (.asg (.var 5) (.lstE .nil))
  (.seq (.kill [6, 7, 8] (.forS (.tupE (.cons (.var 6) (.cons (.var 7) .nil))) (.blt .enumerate (.cons (.var 4) .nil))
  (.kill [6, 7, 8] (.seq (.asg (.var 8) (.blt .min (.cons (.idx (.var 7) (.bin .sub (.var 1) (.cst (.int 1)))) (.cons (.bin .add (.idx (.var 7) (.bin .add (.var 1) (.cst (.int 1)))) (.cst (.int 1))) .nil))))
  (.seq (.ifS (.cmp .gt (.var 3) (.cst (.int 0)))
  (.asg (.var 8) (.blt .min (.cons (.var 8) (.cons (.idx (.idx (.idx (.var 0) (.bin .sub (.var 3) (.cst (.int 1)))) (.var 6)) (.var 1)) .nil))))
  .skip)
  (.expr (.lm .append (.var 5) (.cons (.bin .add (.bin .add (.slc (.var 7) (.cst .non) (.var 1)) (.lstE (.cons (.var 8) .nil))) (.slc (.var 7) (.bin .add (.var 1) (.cst (.int 1))) (.cst .non))) .nil))))))))
  (.expr (.lm .append (.var 2) (.cons (.mv 5) .nil))))))))
  (.ret (.mv 2))))⟩
/-- _law_layers: _law_gates_here _law_places_here _law_most _law_size _law_found _law_gate _law_f _law_k _law_t -/
def d__law_layers : Def := ⟨3, 9,
  (.seq (.asg (.var 3) (.bin .add (.var 1) (.cst (.int 1))))
  (.seq (.gift [4] (.asg (.var 4) (.comp (.comp (.comp (.blt .max (.cons (.bin .sub (.var 7) (.var 8)) (.cons (.cst (.int 0)) .nil))) (.var 8) (.blt .range (.cons (.var 3) .nil)) .nil [8]) (.var 7) (.blt .range (.cons (.var 3) .nil)) .nil [7]) (.var 6) (.blt .range (.cons (.bin .add (.var 2) (.cst (.int 1))) .nil)) .nil [6])))
  (.seq (.kill [5] (.forS (.var 5) (.var 0)
  (.kill [5] (.gift [4] (.asg (.var 4) (.call "_law_compared" (.cons (.var 4) (.cons (.var 5) .nil))))))))
  (.ret (.mv 4)))))⟩
/-- free_table: places k t -/
def d_free_table : Def := ⟨1, 3,
  (.ret (.comp (.comp (.blt .max (.cons (.bin .sub (.var 1) (.var 2)) (.cons (.cst (.int 0)) .nil))) (.var 2) (.blt .range (.cons (.bin .add (.var 0) (.cst (.int 1))) .nil)) .nil [2]) (.var 1) (.blt .range (.cons (.bin .add (.var 0) (.cst (.int 1))) .nil)) .nil [1]))⟩
/-- Schedule.places: self -/
def d_Schedule_m_places : Def := ⟨1, 1,
  (.ret (.fld "Schedule" "place_count" (.var 0)))⟩
/-- Schedule.gates: self gate price -/
def d_Schedule_m_gates : Def := ⟨1, 3,
  (.ret (.comp (.var 1) (.tupE (.cons (.var 1) (.cons (.var 2) .nil))) (.fld "Schedule" "rows" (.var 0)) .nil [1, 2]))⟩
/-- passed: row gate -/
def d_passed : Def := ⟨2, 2,
  (.ret (.blt .min (.cons (.idx (.var 0) (.bin .sub (.var 1) (.cst (.int 1)))) (.cons (.bin .add (.idx (.var 0) (.bin .add (.var 1) (.cst (.int 1)))) (.cst (.int 1))) .nil))))⟩
/-- compare_layers: tables gate misses k row done -/
def d_compare_layers : Def := ⟨2, 6,
  (.kill [2, 3, 4, 5] (.forS (.var 2) (.blt .range (.cons (.bin .sub (.blt .len (.cons (.var 0) .nil)) (.cst (.int 1))) (.cons (.neg (.cst (.int 1))) (.cons (.neg (.cst (.int 1))) .nil))))
  (.kill [2, 3, 4, 5] (.kill [3, 4, 5] (.forR (some 3) 4 (.idx (.var 0) (.var 2))
  (.kill [3, 5] (.seq (.asg (.var 5) (.call "passed" (.cons (.var 4) (.cons (.var 1) .nil))))
  (.asg (.idx (.var 4) (.var 1)) (.ife (.cmp .gt (.var 2) (.cst (.int 0))) (.blt .min (.cons (.var 5) (.cons (.idx (.idx (.idx (.var 0) (.bin .sub (.var 2) (.cst (.int 1)))) (.var 3)) (.var 1)) .nil))) (.var 5))))))))))⟩
/-- layers: schedule misses found gate layer -/
def d_layers : Def := ⟨2, 5,
  (.seq (.asg (.var 2) (.comp (.call "free_table" (.cons (.prop "Schedule.places" "Schedule" "places" (.var 0)) .nil)) (.var 4) (.blt .range (.cons (.bin .add (.var 1) (.cst (.int 1))) .nil)) .nil [4]))
  (.seq (.kill [3] (.forS (.var 3) (.meth "Schedule.gates" "Schedule" "gates" (.var 0) .nil)
  (.kill [3] (.expr (.call "compare_layers" (.cons (.var 2) (.cons (.var 3) .nil)))))))
  (.ret (.mv 2))))⟩
/-- _law_alike: _law_found _law_due -/
def d__law_alike : Def := ⟨2, 2,
  (.ret (.andE (.cmp .eq (.var 0) (.var 1)) (.cmp .eq (.blt .repr (.cons (.var 0) .nil)) (.blt .repr (.cons (.var 1) .nil)))))⟩
/-- _law_each_own: _law_tables _law_lengths _law_sizes _law_table _law_row -/
def d__law_each_own : Def := ⟨1, 5,
  (.seq (.peek 0 (.par [1, 2] (.cons (.comp (.comp (.blt .len (.cons (.var 4) .nil)) (.var 4) (.var 3) .nil [4]) (.var 3) (.var 0) .nil [3]) (.cons (.comp (.blt .len (.cons (.var 3) .nil)) (.var 3) (.var 0) .nil [3]) .nil))))
  (.seq (.kill [3, 4] (.forR none 3 (.var 0)
  (.kill [4] (.kill [4] (.forR none 4 (.var 3)
  (.expr (.lm .append (.var 4) (.cons (.cst (.int 0)) .nil))))))))
  (.seq (.peek 0 (.ifS (.cmp .ne (.comp (.comp (.bin .sub (.blt .len (.cons (.var 4) .nil)) (.cst (.int 1))) (.var 4) (.var 3) .nil [4]) (.var 3) (.var 0) .nil [3]) (.var 1))
  (.ret (.cst (.bl false)))
  .skip))
  (.seq (.kill [3] (.forR none 3 (.var 0)
  (.expr (.lm .append (.var 3) (.cons (.lstE .nil) .nil)))))
  (.peek 0 (.ret (.cmp .eq (.comp (.bin .sub (.blt .len (.cons (.var 3) .nil)) (.cst (.int 1))) (.var 3) (.var 0) .nil [3]) (.var 2))))))))⟩
/-- Schedule.comparisons: self -/
def d_Schedule_m_comparisons : Def := ⟨1, 1,
  (.ret (.blt .list (.cons (.fld "Schedule" "rows" (.var 0)) .nil)))⟩
/-- law: _law_script _law_bag_here _law_way _law_places_here _law_rows _law_most _law_schedule _law_gates_here _law_fewer _law_due _law_less _law_again _law_found _law_other _law_row -/
def d_law : Def := ⟨1, 15,
  (.seq (.asg (.var 1) (.call "_law_bag" (.cons (.var 0) .nil)))
  (.seq (.asg (.var 2) (.idx (.lstE (.cons (.cst (.int 0)) (.cons (.cst (.int 0)) (.cons (.cst (.int 0)) (.cons (.cst (.int 0)) (.cons (.cst (.int 3)) (.cons (.cst (.int 3)) (.cons (.cst (.int 1)) (.cons (.cst (.int 2)) .nil))))))))) (.call "_law_take" (.cons (.var 1) (.cons (.cst (.int 8)) .nil)))))
  (.seq (.asg (.var 3) (.call "_law_places" (.cons (.var 1) (.cons (.cst (.int 1)) (.cons (.idx (.lstE (.cons (.cst (.int 12)) (.cons (.cst (.int 12)) (.cons (.cst (.int 4)) (.cons (.cst (.int 4)) .nil))))) (.var 2)) .nil)))))
  (.seq (.asg (.var 4) (.call "_law_comparisons" (.cons (.var 1) (.cons (.var 3) (.cons (.idx (.lstE (.cons (.cst (.int 60)) (.cons (.cst (.int 400)) (.cons (.cst (.int 3)) (.cons (.cst (.int 60)) .nil))))) (.var 2)) .nil)))))
  (.seq (.asg (.var 5) (.idx (.lstE (.cons (.call "_law_take" (.cons (.var 1) (.cons (.cst (.int 10)) .nil))) (.cons (.call "_law_take" (.cons (.var 1) (.cons (.cst (.int 3)) .nil))) (.cons (.bin .add (.cst (.int 399)) (.call "_law_take" (.cons (.var 1) (.cons (.cst (.int 2)) .nil)))) (.cons (.call "_law_take" (.cons (.var 1) (.cons (.cst (.int 62)) .nil))) .nil))))) (.var 2)))
  (.seq (.par [6, 7] (.cons (.frz (.make "Schedule.__init__" "Schedule" (.cons (.var 3) (.cons (.blt .list (.cons (.var 4) .nil)) .nil)))) (.cons (.comp (.idx (.var 14) (.cst (.int 0))) (.var 14) (.var 4) .nil [14]) .nil)))
  (.seq (.asg (.var 8) (.frz (.make "Schedule.__init__" "Schedule" (.cons (.var 3) (.cons (.blt .list (.cons (.slc (.var 4) (.cst .non) (.neg (.cst (.int 1)))) .nil)) .nil)))))
  (.seq (.par [9, 10] (.cons (.call "_law_layers" (.cons (.var 7) (.cons (.var 3) (.cons (.var 5) .nil)))) (.cons (.call "_law_layers" (.cons (.slc (.var 7) (.cst .non) (.neg (.cst (.int 1)))) (.cons (.var 3) (.cons (.var 5) .nil)))) .nil)))
  (.seq (.kill [11, 12, 13] (.forS (.var 11) (.blt .range (.cons (.cst (.int 3)) .nil))
  (.kill [11, 12, 13] (.seq (.asg (.var 12) (.call "layers" (.cons (.var 6) (.cons (.var 5) .nil))))
  (.seq (.ifS (.orE (.notE (.call "_law_alike" (.cons (.var 12) (.cons (.var 9) .nil)))) (.notE (.call "_law_each_own" (.cons (.var 12) .nil))))
  (.ret (.cst (.bl false)))
  .skip)
  (.seq (.asg (.var 13) (.call "layers" (.cons (.var 8) (.cons (.var 5) .nil))))
  (.seq (.ifS (.notE (.call "_law_alike" (.cons (.var 13) (.cons (.var 10) .nil))))
  (.ret (.cst (.bl false)))
  .skip)
  (.expr (.lm .clear (.var 13) .nil)))))))))
  (.ret (.cmp .eq (.meth "Schedule.comparisons" "Schedule" "comparisons" (.var 6) .nil) (.var 4))))))))))))⟩
def pr23 : List (Str × Def) := []
def pr22 : List (Str × Def) := ("_law_bag", d__law_bag) :: pr23
def pr21 : List (Str × Def) := ("_law_take", d__law_take) :: pr22
def pr20 : List (Str × Def) := ("_law_places", d__law_places) :: pr21
def pr19 : List (Str × Def) := ("_law_price", d__law_price) :: pr20
def pr18 : List (Str × Def) := ("_law_gates", d__law_gates) :: pr19
def pr17 : List (Str × Def) := ("_law_comparisons", d__law_comparisons) :: pr18
def pr16 : List (Str × Def) := ("is_integer", d_is_integer) :: pr17
def pr15 : List (Str × Def) := ("is_between", d_is_between) :: pr16
def pr14 : List (Str × Def) := ("is_price", d_is_price) :: pr15
def pr13 : List (Str × Def) := ("is_comparison", d_is_comparison) :: pr14
def pr12 : List (Str × Def) := ("Schedule.__init__", d_Schedule_m___init__) :: pr13
def pr11 : List (Str × Def) := ("_law_compared", d__law_compared) :: pr12
def pr10 : List (Str × Def) := ("_law_layers", d__law_layers) :: pr11
def pr9 : List (Str × Def) := ("free_table", d_free_table) :: pr10
def pr8 : List (Str × Def) := ("Schedule.places", d_Schedule_m_places) :: pr9
def pr7 : List (Str × Def) := ("Schedule.gates", d_Schedule_m_gates) :: pr8
def pr6 : List (Str × Def) := ("passed", d_passed) :: pr7
def pr5 : List (Str × Def) := ("compare_layers", d_compare_layers) :: pr6
def pr4 : List (Str × Def) := ("layers", d_layers) :: pr5
def pr3 : List (Str × Def) := ("_law_alike", d__law_alike) :: pr4
def pr2 : List (Str × Def) := ("_law_each_own", d__law_each_own) :: pr3
def pr1 : List (Str × Def) := ("Schedule.comparisons", d_Schedule_m_comparisons) :: pr2
def pr0 : List (Str × Def) := ("law", d_law) :: pr1
end WK34

set_option maxHeartbeats 4000000
namespace WK34
open PySem Bm
abbrev dL_e1 : E := (.idx (.var 14) (.cst (.int 0)))
abbrev dL_c1 : E := (.comp dL_e1 (.var 14) (.var 4) .nil [ 14 ])
abbrev dL_i1 : S := (.ifS (.orE (.notE (.call "_law_alike" (.cons (.var 12) (.cons (.var 9) .nil)))) (.notE (.call "_law_each_own" (.cons (.var 12) .nil)))) (.ret (.cst (.bl false))) .skip)
abbrev dL_i2 : S := (.ifS (.notE (.call "_law_alike" (.cons (.var 13) (.cons (.var 10) .nil)))) (.ret (.cst (.bl false))) .skip)
abbrev dL_b1 : S := (.kill [ 11 , 12 , 13 ] (.seq (.asg (.var 12) (.call "layers" (.cons (.var 6) (.cons (.var 5) .nil)))) (.seq dL_i1 (.seq (.asg (.var 13) (.call "layers" (.cons (.var 8) (.cons (.var 5) .nil)))) (.seq dL_i2 (.expr (.lm .clear (.var 13) .nil)))))))
abbrev dL_f1 : S := (.forS (.var 11) (.blt .range (.cons (.cst (.int 3)) .nil)) dL_b1)
def dL : Def := ⟨1,  15,
  (.seq (.asg (.var 1) (.call "_law_bag" (.cons (.var 0) .nil))) (.seq (.asg (.var 2) (.idx (.lstE (.cons (.cst (.int 0)) (.cons (.cst (.int 0)) (.cons (.cst (.int 0)) (.cons (.cst (.int 0)) (.cons (.cst (.int 3)) (.cons (.cst (.int 3)) (.cons (.cst (.int 1)) (.cons (.cst (.int 2)) .nil))))))))) (.call "_law_take" (.cons (.var 1) (.cons (.cst (.int 8)) .nil))))) (.seq (.asg (.var 3) (.call "_law_places" (.cons (.var 1) (.cons (.cst (.int 1)) (.cons (.idx (.lstE (.cons (.cst (.int 12)) (.cons (.cst (.int 12)) (.cons (.cst (.int 4)) (.cons (.cst (.int 4)) .nil))))) (.var 2)) .nil))))) (.seq (.asg (.var 4) (.call "_law_comparisons" (.cons (.var 1) (.cons (.var 3) (.cons (.idx (.lstE (.cons (.cst (.int 60)) (.cons (.cst (.int 400)) (.cons (.cst (.int 3)) (.cons (.cst (.int 60)) .nil))))) (.var 2)) .nil))))) (.seq (.asg (.var 5) (.idx (.lstE (.cons (.call "_law_take" (.cons (.var 1) (.cons (.cst (.int 10)) .nil))) (.cons (.call "_law_take" (.cons (.var 1) (.cons (.cst (.int 3)) .nil))) (.cons (.bin .add (.cst (.int 399)) (.call "_law_take" (.cons (.var 1) (.cons (.cst (.int 2)) .nil)))) (.cons (.call "_law_take" (.cons (.var 1) (.cons (.cst (.int 62)) .nil))) .nil))))) (.var 2))) (.seq (.par [ 6 , 7 ] (.cons (.frz (.make "Schedule.__init__" "Schedule" (.cons (.var 3) (.cons (.blt .list (.cons (.var 4) .nil)) .nil)))) (.cons dL_c1 .nil))) (.seq (.asg (.var 8) (.frz (.make "Schedule.__init__" "Schedule" (.cons (.var 3) (.cons (.blt .list (.cons (.slc (.var 4) (.cst .non) (.neg (.cst (.int 1)))) .nil)) .nil))))) (.seq (.par [ 9 , 10 ] (.cons (.call "_law_layers" (.cons (.var 7) (.cons (.var 3) (.cons (.var 5) .nil)))) (.cons (.call "_law_layers" (.cons (.slc (.var 7) (.cst .non) (.neg (.cst (.int 1)))) (.cons (.var 3) (.cons (.var 5) .nil)))) .nil))) (.seq (.kill [ 11 , 12 , 13 ] dL_f1) (.ret (.cmp .eq (.meth "Schedule.comparisons" "Schedule" "comparisons" (.var 6) .nil) (.var 4))))))))))))⟩
structure Calls (c : Str → List D → CRes) : Prop where
  take : Draws c
  places : ∀ (bag : D) (a b : Int), Bag bag → a ≤ b → b - a ≤ 1000000 → ∃ v bag', c "_law_places" [bag, .int a, .int b] = .ok (.int v) [bag', .int a, .int b] ∧ Bag bag' ∧ a ≤ v ∧ v ≤ b
  comps : ∀ (bag : D) (p most : Nat), Bag bag → 1 ≤ p → p ≤ 1000 → most ≤ 1000 → ∃ rs bag', c "_law_comparisons" [bag, .int (p : Int), .int (most : Int)] = .ok (rowsD true rs) [bag', .int (p : Int), .int (most : Int)] ∧ Bag bag' ∧ rs.length ≤ most ∧ ∀ r, r ∈ rs → RowOk p r
  init : InitS c
  lay : ∀ (m : Bool) (gs : List Nat) (F n : Nat), 1 ≤ n → n ≤ 100 → 1 ≤ F → F ≤ 1000 → (∀ g, g ∈ gs → 1 ≤ g ∧ g + 1 < n) → c "_law_layers" [gsD m gs, .int ((n : Int) - 1), .int ((F : Int) - 1)] = .ok (layD false F n (layG F0 gs)) [gsD m gs, .int ((n : Int) - 1), .int ((F : Int) - 1)]
  layP : ∀ (F p : Nat) (rs : List (Nat × Int)), 1 ≤ F → F ≤ 1000 → p ≤ 100 → rs.length ≤ 100000 → (∀ r, r ∈ rs → RowOk p r) → c "layers" [schD p rs, .int ((F : Int) - 1)] = .ok (layD true F (p + 1) (layG F0 (rs.map (·.1)))) [schD p rs, .int ((F : Int) - 1)]
  alike : ∀ (a b a' b' : Nat) (k k' : Kd) (xs ys : List D), Fine a b (.nd k xs) → Fine a' b' (.nd k' ys) → a ≤ 64 → a' ≤ 64 → b ≤ 100000 → b' ≤ 100000 → (D.nd k xs).toP = (D.nd k' ys).toP → c "_law_alike" [.nd k xs, .nd k' ys] = .ok (.bl true) [.nd k xs, .nd k' ys]
  own : ∀ (F n : Nat) (L : Nat → Nat → Nat → Int), F ≤ 1000 → n ≤ 100 → ∃ xs : List D, xs.length ≤ 1000 ∧ c "_law_each_own" [layD true F n L] = .ok (.bl true) [.lst true xs]
  schC : ∀ (p : Nat) (rs : List (Nat × Int)), c "Schedule.comparisons" [schD p rs] = .ok (rowsD true rs) [schD p rs]
theorem cut_last (xs : List D) : cutD xs none (some (-1)) = xs.dropLast := by
  have h : ((-1 : Int) + (xs.length : Int)).toNat = xs.length - 1 := by omega
  show (xs.drop 0).take ((if (-1 : Int) < 0 then (-1 + (xs.length : Int)).toNat else min (-1 : Int).toNat xs.length) - 0) = _
  rw [if_pos (by decide), List.dropLast_eq_take, Nat.sub_zero, List.drop_zero, h]
theorem slc_last {c : Str → List D → CRes} {i : Nat} {xs : List D} {g : List D} (hi : g[i]? = some (.lst true xs)) (hp : persL xs = true) : (den c (.slc (.var i) (.cst .non) (.neg (.cst (.int 1))))).val g = .ok (.lst true xs.dropLast, false) g := by
  have hv : varD i g = .ok (.lst true xs, true) g := by simp [varD, hi, mkV, D.isDead, D.pers, o_some]
  have hl : ∀ m, late (.var i) m (.lst true xs, true) g = some (.lst true xs, true) := fun m => by simp [late, hi, mkV, D.isDead, D.pers]
  have q : slcD (.lst true xs, true) none (some (-1)) = some (.lst true xs.dropLast, false) := by
    simp only [slcD]
    rw [if_pos (show shares true xs = true from hp), cut_last]
  have n1 : (den c (.neg (.cst (.int 1)))).val g = .ok (.int (-1), false) g := rfl
  rw [v_slc, v_var, hv, rb_ok, p_part, v_cst, rb_ok]
  simp only [partI, o_some, rb_ok]
  rw [p_part, n1, rb_ok]
  simp only [partI, o_some, rb_ok, hl, q]
theorem bulk_ok {F N : Nat} (h : (N ≤ 13 ∧ F ≤ 10) ∨ (N ≤ 5 ∧ F ≤ 401)) : (((0 + 1) * N + 1) * N + 1) * F ≤ 100000 := by
  rcases h with ⟨h1, h2⟩ | ⟨h1, h2⟩
  · have a : ((0 + 1) * N + 1) * N ≤ 14 * 13 := Nat.mul_le_mul (by omega) h1
    exact Nat.le_trans (Nat.mul_le_mul (show ((0 + 1) * N + 1) * N + 1 ≤ 183 by omega) h2) (by decide)
  · have a : ((0 + 1) * N + 1) * N ≤ 6 * 5 := Nat.mul_le_mul (by omega) h1
    exact Nat.le_trans (Nat.mul_le_mul (show ((0 + 1) * N + 1) * N + 1 ≤ 31 by omega) h2) (by decide)
theorem rows_fine {m : Bool} {p : Nat} {rs : List (Nat × Int)} (hp : p ≤ 1000) (hl : rs.length ≤ 400) (hr : ∀ r, r ∈ rs → RowOk p r) : Fine 3 2000 (rowsD m rs) := by
  have := fine_lst (m := m) (xs := rs.map rowD1) (a := 2) (b := 2) fun x hx => by
    obtain ⟨r, hr', rfl⟩ := List.mem_map.mp hx
    obtain ⟨⟨_, h1⟩, h2, h3⟩ := hr r hr'
    refine (fine_tup (a := 1) (b := 0) (xs := [D.int (r.1 : Int), .int r.2]) fun y hy => ?_).mono (by omega) (by simp)
    simp only [List.mem_cons, List.not_mem_nil, or_false] at hy
    rcases hy with rfl | rfl
    · refine fine_int (Nat.lt_of_lt_of_le (show _ < 1001 from ?_) (by decide))
      rw [Int.natAbs_natCast]
      omega
    · refine fine_int (Nat.lt_of_lt_of_le (show _ < 1000000000000000001 from ?_) (by decide))
      omega
  refine this.mono (by omega) ?_
  rw [List.length_map]
  omega
section
variable {c : Str → List D → CRes} {s b w z t : D} {p F : Nat} {rs rt : List (Nat × Int)} {gs : List Nat}
/-- the names -/
abbrev st (s b w : D) (p : Nat) (rs rt : List (Nat × Int)) (F : Nat) (a f o : D) : List D := [s, b, w, .int (p : Int), rowsD true rs, .int ((F : Int) - 1), schD p rs, gsD true (rs.map (·.1)), schD p rt, layD false F (p + 1) (layG F0 (rs.map (·.1))), layD false F (p + 1) (layG F0 (rt.map (·.1))), a, f, o, .dead]
theorem turn (hc : Calls c) (hp : 1 ≤ p) (hp2 : p ≤ 12) (hF : 1 ≤ F) (hb : (p + 1 ≤ 13 ∧ F ≤ 10) ∨ (p + 1 ≤ 5 ∧ F ≤ 401)) (hl : rs.length ≤ 400) (hr : ∀ r, r ∈ rs → RowOk p r) (hl2 : rt.length ≤ 400) (hr2 : ∀ r, r ∈ rt → RowOk p r) : sden c dL_b1 (st s b w p rs rt F t .dead .dead) = .nx (st s b w p rs rt F .dead .dead .dead) := by
  have hF2 : F ≤ 401 := by omega
  have bk := bulk_ok hb
  have L1 : Lay (layG F0 (rs.map (·.1))) := lay_from lay_free fun g hg => by
    obtain ⟨r, h, rfl⟩ := List.mem_map.mp hg
    exact (hr r h).1.1
  have L2 : Lay (layG F0 (rt.map (·.1))) := lay_from lay_free fun g hg => by
    obtain ⟨r, h, rfl⟩ := List.mem_map.mp hg
    exact (hr2 r h).1.1
  have al : ∀ {L : Nat → Nat → Nat → Int}, Lay L → c "_law_alike" [layD true F (p + 1) L, layD false F (p + 1) L] = .ok (.bl true) [layD true F (p + 1) L, layD false F (p + 1) L] := fun h => hc.alike _ _ _ _ _ _ _ _ (lay_fine h (by omega)) (lay_fine h (by omega)) (by omega) (by omega) bk bk lay_toP
  obtain ⟨xs, _, ow⟩ := hc.own F (p + 1) (layG F0 (rs.map (·.1))) (by omega) (by omega)
  have e1 : sden c (.asg (.var 12) (.call "layers" (.cons (.var 6) (.cons (.var 5) .nil)))) (st s b w p rs rt F t .dead .dead) = .nx (st s b w p rs rt F t (layD true F (p + 1) (layG F0 (rs.map (·.1)))) .dead) :=
    asg_nx (d := layD true F (p + 1) (layG F0 (rs.map (·.1)))) (g1 := st s b w p rs rt F t .dead .dead) (call_val (args_cons (arg_r (b := schD p rs) rfl rfl) (args_cons (arg_r (b := .int ((F : Int) - 1)) rfl rfl) rfl)) (ds := [schD p rs, .int ((F : Int) - 1)]) (g2 := st s b w p rs rt F t .dead .dead) rfl (hc.layP F p rs hF (by omega) (by omega) (by omega) hr) rfl) (by rw [var_asg (by simp)]; rfl)
  have a1 : (den c (.call "_law_alike" (.cons (.var 12) (.cons (.var 9) .nil)))).val (st s b w p rs rt F t (layD true F (p + 1) (layG F0 (rs.map (·.1)))) .dead) = .ok (.bl true, false) (st s b w p rs rt F t (layD true F (p + 1) (layG F0 (rs.map (·.1)))) .dead) :=
    call_val (args_cons (arg_r (b := layD true F (p + 1) (layG F0 (rs.map (·.1)))) rfl rfl) (args_cons (arg_r (b := layD false F (p + 1) (layG F0 (rs.map (·.1)))) rfl rfl) rfl)) (ds := [layD true F (p + 1) (layG F0 (rs.map (·.1))), layD false F (p + 1) (layG F0 (rs.map (·.1)))]) (g2 := st s b w p rs rt F t .dead .dead) rfl (al L1) rfl
  have a2 : (den c (.call "_law_each_own" (.cons (.var 12) .nil))).val (st s b w p rs rt F t (layD true F (p + 1) (layG F0 (rs.map (·.1)))) .dead) = .ok (.bl true, false) (st s b w p rs rt F t (.lst true xs) .dead) :=
    call_val (args_cons (arg_r (b := layD true F (p + 1) (layG F0 (rs.map (·.1)))) rfl rfl) rfl) (ds := [layD true F (p + 1) (layG F0 (rs.map (·.1)))]) (g2 := st s b w p rs rt F t .dead .dead) rfl ow rfl
  have e2 : sden c dL_i1 (st s b w p rs rt F t (layD true F (p + 1) (layG F0 (rs.map (·.1)))) .dead) = .nx (st s b w p rs rt F t (.lst true xs) .dead) := by
    rw [w_if, t_or, t_not, t_call, a1]
    simp only [rb_ok, truD, o_some, Bool.not_true, Bool.false_eq_true, if_false]
    rw [t_not, t_call, a2]
    rfl
  have e3 : sden c (.asg (.var 13) (.call "layers" (.cons (.var 8) (.cons (.var 5) .nil)))) (st s b w p rs rt F t (.lst true xs) .dead) = .nx (st s b w p rs rt F t (.lst true xs) (layD true F (p + 1) (layG F0 (rt.map (·.1))))) :=
    asg_nx (d := layD true F (p + 1) (layG F0 (rt.map (·.1)))) (g1 := st s b w p rs rt F t (.lst true xs) .dead) (call_val (args_cons (arg_r (b := schD p rt) rfl rfl) (args_cons (arg_r (b := .int ((F : Int) - 1)) rfl rfl) rfl)) (ds := [schD p rt, .int ((F : Int) - 1)]) (g2 := st s b w p rs rt F t (.lst true xs) .dead) rfl (hc.layP F p rt hF (by omega) (by omega) (by omega) hr2) rfl) (by rw [var_asg (by simp)]; rfl)
  have a3 : (den c (.call "_law_alike" (.cons (.var 13) (.cons (.var 10) .nil)))).val (st s b w p rs rt F t (.lst true xs) (layD true F (p + 1) (layG F0 (rt.map (·.1))))) = .ok (.bl true, false) (st s b w p rs rt F t (.lst true xs) (layD true F (p + 1) (layG F0 (rt.map (·.1))))) :=
    call_val (args_cons (arg_r (b := layD true F (p + 1) (layG F0 (rt.map (·.1)))) rfl rfl) (args_cons (arg_r (b := layD false F (p + 1) (layG F0 (rt.map (·.1)))) rfl rfl) rfl)) (ds := [layD true F (p + 1) (layG F0 (rt.map (·.1))), layD false F (p + 1) (layG F0 (rt.map (·.1)))]) (g2 := st s b w p rs rt F t (.lst true xs) .dead) rfl (al L2) rfl
  have e4 : sden c dL_i2 (st s b w p rs rt F t (.lst true xs) (layD true F (p + 1) (layG F0 (rt.map (·.1))))) = .nx (st s b w p rs rt F t (.lst true xs) (layD true F (p + 1) (layG F0 (rt.map (·.1))))) := by
    rw [w_if, t_not, t_call, a3]
    rfl
  have e5 : sden c (.expr (.lm .clear (.var 13) .nil)) (st s b w p rs rt F t (.lst true xs) (layD true F (p + 1) (layG F0 (rt.map (·.1))))) = .nx (st s b w p rs rt F t (.lst true xs) (.lst true [])) := by
    have p1 : (den c (.var 13)).plc (st s b w p rs rt F t (.lst true xs) (layD true F (p + 1) (layG F0 (rt.map (·.1))))) = .ok (13, []) (st s b w p rs rt F t (.lst true xs) (layD true F (p + 1) (layG F0 (rt.map (·.1))))) := rfl
    rw [w_expr, v_lm, p1, rb_ok, if_pos ⟨.inr rfl, rfl⟩, l_nil, rb_ok]
    rfl
  rw [w_kill, seq_nx e1, seq_nx e2, seq_nx e3, seq_nx e4, e5]
  rfl
end
theorem law_ok {c : Str → List D → CRes} (hc : Calls c) {ns : List Int} (hbag : ∃ bag, c "_law_bag" [scrD ns] = .ok bag [scrD ns] ∧ Bag bag) : ∃ as, dL.run c [scrD ns] = .ok (.bl true) as := by
  have sz := sizeLine_eq
  obtain ⟨bag, e, hb⟩ := hbag
  have e1 : (den c (.call "_law_bag" (.cons (.var 0) .nil))).val [scrD ns, .dead, .dead, .dead, .dead, .dead, .dead, .dead, .dead, .dead, .dead, .dead, .dead, .dead, .dead] = .ok (bag, false) [scrD ns, .dead, .dead, .dead, .dead, .dead, .dead, .dead, .dead, .dead, .dead, .dead, .dead, .dead, .dead] :=
    call_val (args_cons (arg_r (b := scrD ns) rfl rfl) rfl) (ds := [scrD ns]) (g2 := [.dead, .dead, .dead, .dead, .dead, .dead, .dead, .dead, .dead, .dead, .dead, .dead, .dead, .dead, .dead]) rfl e rfl
  -- the way
  obtain ⟨v1, b1, d1, hb1, l1, u1⟩ := draw_call (c := c) hc.take (i := 1) (m := .cst (.int 8)) (g := [scrD ns, bag, .dead, .dead, .dead, .dead, .dead, .dead, .dead, .dead, .dead, .dead, .dead, .dead, .dead]) (many := 8) rfl hb rfl v_cst (by omega) (by omega)
  simp only [List.set_cons_succ, List.set_cons_zero] at d1
  obtain ⟨k1, rfl⟩ := Int.eq_ofNat_of_zero_le l1
  obtain ⟨w, hw, hw4⟩ : ∃ w : Nat, L2.atI [D.int 0, .int 0, .int 0, .int 0, .int 3, .int 3, .int 1, .int 2] (k1 : Int) = some (.int (w : Int)) ∧ w < 4 := by
    have hk : k1 < 8 := by omega
    match k1, hk with
    | 0, _ => exact ⟨0, rfl, by omega⟩
    | 1, _ => exact ⟨0, rfl, by omega⟩
    | 2, _ => exact ⟨0, rfl, by omega⟩
    | 3, _ => exact ⟨0, rfl, by omega⟩
    | 4, _ => exact ⟨3, rfl, by omega⟩
    | 5, _ => exact ⟨3, rfl, by omega⟩
    | 6, _ => exact ⟨1, rfl, by omega⟩
    | 7, _ => exact ⟨2, rfl, by omega⟩
  have e2 : (den c (.idx (.lstE (.cons (.cst (.int 0)) (.cons (.cst (.int 0)) (.cons (.cst (.int 0)) (.cons (.cst (.int 0)) (.cons (.cst (.int 3)) (.cons (.cst (.int 3)) (.cons (.cst (.int 1)) (.cons (.cst (.int 2)) .nil))))))))) (.call "_law_take" (.cons (.var 1) (.cons (.cst (.int 8)) .nil))))).val [scrD ns, bag, .dead, .dead, .dead, .dead, .dead, .dead, .dead, .dead, .dead, .dead, .dead, .dead, .dead] = .ok (.int (w : Int), false) [scrD ns, b1, .dead, .dead, .dead, .dead, .dead, .dead, .dead, .dead, .dead, .dead, .dead, .dead, .dead] := by
    rw [idx_val (x := .lst true [D.int 0, .int 0, .int 0, .int 0, .int 3, .int 3, .int 1, .int 2]) (y := (.int (k1 : Int), false)) rfl (by simp [v_lst, l_cons, l_nil, v_cst, rb_ok, late, mkLst, allOwn, sz, o_some]) d1, x_lst hw (z := (.int (w : Int), false)) rfl]
    rfl
  -- places
  obtain ⟨P, hP, hP1, hP2⟩ : ∃ P : Nat, L2.atI [D.int 12, .int 12, .int 4, .int 4] (w : Int) = some (.int (P : Int)) ∧ 1 ≤ P ∧ ((w = 0 ∧ P = 12) ∨ (w = 1 ∧ P = 12) ∨ (w = 2 ∧ P = 4) ∨ (w = 3 ∧ P = 4)) := by
    match w, hw4 with
    | 0, _ => exact ⟨12, rfl, by omega, by omega⟩
    | 1, _ => exact ⟨12, rfl, by omega, by omega⟩
    | 2, _ => exact ⟨4, rfl, by omega, by omega⟩
    | 3, _ => exact ⟨4, rfl, by omega, by omega⟩
  obtain ⟨pv, b2, cp, hb2, p1, p2⟩ := hc.places b1 1 (P : Int) hb1 (by omega) (by omega)
  obtain ⟨p, rfl⟩ := Int.eq_ofNat_of_zero_le (show 0 ≤ pv by omega)
  have i2 : (den c (.idx (.lstE (.cons (.cst (.int 12)) (.cons (.cst (.int 12)) (.cons (.cst (.int 4)) (.cons (.cst (.int 4)) .nil))))) (.var 2))).val [scrD ns, b1, .int (w : Int), .dead, .dead, .dead, .dead, .dead, .dead, .dead, .dead, .dead, .dead, .dead, .dead] = .ok (.int (P : Int), false) [scrD ns, b1, .int (w : Int), .dead, .dead, .dead, .dead, .dead, .dead, .dead, .dead, .dead, .dead, .dead, .dead] := by
    rw [idx_val (x := .lst true [D.int 12, .int 12, .int 4, .int 4]) (y := (.int (w : Int), false)) rfl (by simp [v_lst, l_cons, l_nil, v_cst, rb_ok, late, mkLst, allOwn, sz, o_some]; rfl) rfl, x_lst hP (z := (.int (P : Int), false)) rfl]
    rfl
  have e3 : (den c (.call "_law_places" (.cons (.var 1) (.cons (.cst (.int 1)) (.cons (.idx (.lstE (.cons (.cst (.int 12)) (.cons (.cst (.int 12)) (.cons (.cst (.int 4)) (.cons (.cst (.int 4)) .nil))))) (.var 2)) .nil))))).val [scrD ns, b1, .int (w : Int), .dead, .dead, .dead, .dead, .dead, .dead, .dead, .dead, .dead, .dead, .dead, .dead] = .ok (.int (p : Int), false) [scrD ns, b2, .int (w : Int), .dead, .dead, .dead, .dead, .dead, .dead, .dead, .dead, .dead, .dead, .dead, .dead] :=
    call_bag1 (c := c) (as := [.v (.int 1), .v (.int (P : Int))]) (ds := [.int 1, .int (P : Int)]) rfl hb1 (args_cons (one_val rfl v_cst) (args_cons (one_val rfl i2) rfl)) rfl cp rfl
  -- comparisons
  obtain ⟨M, hM, hM1⟩ : ∃ M : Nat, L2.atI [D.int 60, .int 400, .int 3, .int 60] (w : Int) = some (.int (M : Int)) ∧ M ≤ 400 := by
    match w, hw4 with
    | 0, _ => exact ⟨60, rfl, by omega⟩
    | 1, _ => exact ⟨400, rfl, by omega⟩
    | 2, _ => exact ⟨3, rfl, by omega⟩
    | 3, _ => exact ⟨60, rfl, by omega⟩
  obtain ⟨rs, b3, cr, hb3, hrl, hrs⟩ := hc.comps b2 p M hb2 (by omega) (by omega) (by omega)
  have i3 : (den c (.idx (.lstE (.cons (.cst (.int 60)) (.cons (.cst (.int 400)) (.cons (.cst (.int 3)) (.cons (.cst (.int 60)) .nil))))) (.var 2))).val [scrD ns, b2, .int (w : Int), .int (p : Int), .dead, .dead, .dead, .dead, .dead, .dead, .dead, .dead, .dead, .dead, .dead] = .ok (.int (M : Int), false) [scrD ns, b2, .int (w : Int), .int (p : Int), .dead, .dead, .dead, .dead, .dead, .dead, .dead, .dead, .dead, .dead, .dead] := by
    rw [idx_val (x := .lst true [D.int 60, .int 400, .int 3, .int 60]) (y := (.int (w : Int), false)) rfl (by simp [v_lst, l_cons, l_nil, v_cst, rb_ok, late, mkLst, allOwn, sz, o_some]; rfl) rfl, x_lst hM (z := (.int (M : Int), false)) rfl]
    rfl
  have e4 : (den c (.call "_law_comparisons" (.cons (.var 1) (.cons (.var 3) (.cons (.idx (.lstE (.cons (.cst (.int 60)) (.cons (.cst (.int 400)) (.cons (.cst (.int 3)) (.cons (.cst (.int 60)) .nil))))) (.var 2)) .nil))))).val [scrD ns, b2, .int (w : Int), .int (p : Int), .dead, .dead, .dead, .dead, .dead, .dead, .dead, .dead, .dead, .dead, .dead] = .ok (rowsD true rs, false) [scrD ns, b3, .int (w : Int), .int (p : Int), .dead, .dead, .dead, .dead, .dead, .dead, .dead, .dead, .dead, .dead, .dead] :=
    call_bag1 (c := c) (as := [.r 3, .v (.int (M : Int))]) (ds := [.int (p : Int), .int (M : Int)]) rfl hb2 (args_cons (arg_r (b := .int (p : Int)) rfl rfl) (args_cons (one_val rfl i3) rfl)) rfl cr rfl
  -- the number of misses
  obtain ⟨m1, b4, d4, hb4, l4, u4⟩ := draw_call (c := c) hc.take (i := 1) (m := .cst (.int 10)) (g := [scrD ns, b3, .int (w : Int), .int (p : Int), rowsD true rs, .dead, .dead, .dead, .dead, .dead, .dead, .dead, .dead, .dead, .dead]) (many := 10) rfl hb3 rfl v_cst (by omega) (by omega)
  obtain ⟨m2, b5, d5, hb5, l5, u5⟩ := draw_call (c := c) hc.take (i := 1) (m := .cst (.int 3)) (g := [scrD ns, b4, .int (w : Int), .int (p : Int), rowsD true rs, .dead, .dead, .dead, .dead, .dead, .dead, .dead, .dead, .dead, .dead]) (many := 3) rfl hb4 rfl v_cst (by omega) (by omega)
  obtain ⟨m3, b6, d6, hb6, l6, u6⟩ := draw_call (c := c) hc.take (i := 1) (m := .cst (.int 2)) (g := [scrD ns, b5, .int (w : Int), .int (p : Int), rowsD true rs, .dead, .dead, .dead, .dead, .dead, .dead, .dead, .dead, .dead, .dead]) (many := 2) rfl hb5 rfl v_cst (by omega) (by omega)
  obtain ⟨m4, b7, d7, hb7, l7, u7⟩ := draw_call (c := c) hc.take (i := 1) (m := .cst (.int 62)) (g := [scrD ns, b6, .int (w : Int), .int (p : Int), rowsD true rs, .dead, .dead, .dead, .dead, .dead, .dead, .dead, .dead, .dead, .dead]) (many := 62) rfl hb6 rfl v_cst (by omega) (by omega)
  simp only [List.set_cons_succ, List.set_cons_zero] at d4 d5 d6 d7
  obtain ⟨F, hF, hF1, hF2⟩ : ∃ F : Nat, L2.atI [D.int m1, .int m2, .int (399 + m3), .int m4] (w : Int) = some (.int ((F : Int) - 1)) ∧ 1 ≤ F ∧ ((p + 1 ≤ 13 ∧ F ≤ 10) ∨ (p + 1 ≤ 5 ∧ F ≤ 401)) := by
    have mk : ∀ m : Int, 0 ≤ m → ((p + 1 ≤ 13 ∧ m < 10) ∨ (p + 1 ≤ 5 ∧ m < 401)) → ∃ F : Nat, m = (F : Int) - 1 ∧ 1 ≤ F ∧ ((p + 1 ≤ 13 ∧ F ≤ 10) ∨ (p + 1 ≤ 5 ∧ F ≤ 401)) := fun m h0 h1 => by
      obtain ⟨k, rfl⟩ := Int.eq_ofNat_of_zero_le h0
      exact ⟨k + 1, by omega, by omega, by omega⟩
    match w, hw4, hP2 with
    | 0, _, h => obtain ⟨F, q1, q2, q3⟩ := mk m1 l4 (by omega); exact ⟨F, by rw [← q1]; rfl, q2, q3⟩
    | 1, _, h => obtain ⟨F, q1, q2, q3⟩ := mk m2 l5 (by omega); exact ⟨F, by rw [← q1]; rfl, q2, q3⟩
    | 2, _, h => obtain ⟨F, q1, q2, q3⟩ := mk (399 + m3) (by omega) (by omega); exact ⟨F, by rw [← q1]; rfl, q2, q3⟩
    | 3, _, h => obtain ⟨F, q1, q2, q3⟩ := mk m4 l7 (by omega); exact ⟨F, by rw [← q1]; rfl, q2, q3⟩
  have e5 : (den c (.idx (.lstE (.cons (.call "_law_take" (.cons (.var 1) (.cons (.cst (.int 10)) .nil))) (.cons (.call "_law_take" (.cons (.var 1) (.cons (.cst (.int 3)) .nil))) (.cons (.bin .add (.cst (.int 399)) (.call "_law_take" (.cons (.var 1) (.cons (.cst (.int 2)) .nil)))) (.cons (.call "_law_take" (.cons (.var 1) (.cons (.cst (.int 62)) .nil))) .nil))))) (.var 2))).val [scrD ns, b3, .int (w : Int), .int (p : Int), rowsD true rs, .dead, .dead, .dead, .dead, .dead, .dead, .dead, .dead, .dead, .dead] = .ok (.int ((F : Int) - 1), false) [scrD ns, b7, .int (w : Int), .int (p : Int), rowsD true rs, .dead, .dead, .dead, .dead, .dead, .dead, .dead, .dead, .dead, .dead] := by
    have d6' : (den c (.bin .add (.cst (.int 399)) (.call "_law_take" (.cons (.var 1) (.cons (.cst (.int 2)) .nil))))).val [scrD ns, b5, .int (w : Int), .int (p : Int), rowsD true rs, .dead, .dead, .dead, .dead, .dead, .dead, .dead, .dead, .dead, .dead] = .ok (.int (399 + m3), false) [scrD ns, b6, .int (w : Int), .int (p : Int), rowsD true rs, .dead, .dead, .dead, .dead, .dead, .dead, .dead, .dead, .dead, .dead] := by
      rw [v_bin, v_cst, rb_ok, d6, rb_ok]
      rfl
    rw [idx_val (x := .lst true [D.int m1, .int m2, .int (399 + m3), .int m4]) (y := (.int (w : Int), false)) (g1 := [scrD ns, b7, .int (w : Int), .int (p : Int), rowsD true rs, .dead, .dead, .dead, .dead, .dead, .dead, .dead, .dead, .dead, .dead]) rfl (by
      rw [v_lst, l_cons, d4, rb_ok, l_cons, d5, rb_ok, l_cons, d6', rb_ok, l_cons, d7, rb_ok, l_nil, rb_ok]
      simp [late, rb_ok, mkLst, allOwn, sz, o_some]) rfl, x_lst hF (z := (.int ((F : Int) - 1), false)) rfl]
    rfl
  have hp1 : 1 ≤ p := by omega
  have hp12 : p ≤ 12 := by omega
  have hl4 : rs.length ≤ 400 := by omega
  -- the schedule, its gates
  have c6 : (den c dL_c1).val [scrD ns, b7, .int (w : Int), .int (p : Int), rowsD true rs, .int ((F : Int) - 1), .dead, .dead, .dead, .dead, .dead, .dead, .dead, .dead, .dead] = .ok (gsD true (rs.map (·.1)), false) [scrD ns, b7, .int (w : Int), .int (p : Int), rowsD true rs, .int ((F : Int) - 1), .dead, .dead, .dead, .dead, .dead, .dead, .dead, .dead, .dead] := by
    have h := comp_map (c := c) (elt := dL_e1) (tg := .var 14) (it := .var 4) (own := [14]) (src := .live 4) (n := rs.length) (fun k => rowD1 (rs.getD k (0, 0))) (fun k => .int ((rs.getD k (0, 0)).1 : Int)) [scrD ns, b7, .int (w : Int), .int (p : Int), rowsD true rs, .int ((F : Int) - 1), .dead, .dead, .dead, .dead, .dead, .dead, .dead, .dead, .dead]
      (g := [scrD ns, b7, .int (w : Int), .int (p : Int), rowsD true rs, .int ((F : Int) - 1), .dead, .dead, .dead, .dead, .dead, .dead, .dead, .dead, .dead]) (g0 := [scrD ns, b7, .int (w : Int), .int (p : Int), rowsD true rs, .int ((F : Int) - 1), .dead, .dead, .dead, .dead, .dead, .dead, .dead, .dead, .dead])
      (by rw [i_var]; rfl) rfl (by simp [Src.len]) rfl (fun k hk => by
        simp only [Src.at, List.getElem?_cons_succ, List.getElem?_cons_zero]
        by_cases h : k < rs.length
        · simp [h, D.pers, persL]
        · rw [List.getElem?_eq_none (by simp; omega), if_neg h]) (fun k hk => ⟨[scrD ns, b7, .int (w : Int), .int (p : Int), rowsD true rs, .int ((F : Int) - 1), .dead, .dead, .dead, .dead, .dead, .dead, .dead, .dead, rowD1 (rs.getD k (0, 0))], _, by simp [s_var], rfl, rfl⟩) (by omega)
    have e : (rg rs.length fun k => D.int ((rs.getD k (0, 0)).1 : Int)) = (rs.map (·.1)).map fun (g : Nat) => D.int (g : Int) := by
      unfold rg
      rw [List.map_map]
      apply List.ext_getElem?
      intro i
      by_cases h : i < rs.length
      · simp [h]
      · simp [h]
    rw [e] at h
    rw [h]
    rfl
  have e6 : sden c (.par [6, 7] (.cons (.frz (.make "Schedule.__init__" "Schedule" (.cons (.var 3) (.cons (.blt .list (.cons (.var 4) .nil)) .nil)))) (.cons dL_c1 .nil))) [scrD ns, b7, .int (w : Int), .int (p : Int), rowsD true rs, .int ((F : Int) - 1), .dead, .dead, .dead, .dead, .dead, .dead, .dead, .dead, .dead] = .nx [scrD ns, b7, .int (w : Int), .int (p : Int), rowsD true rs, .int ((F : Int) - 1), schD p rs, gsD true (rs.map (·.1)), .dead, .dead, .dead, .dead, .dead, .dead, .dead] := by
    have s1 := sch_val (c := c) hc.init (i := 3) (e := .blt .list (.cons (.var 4) .nil)) (p := p) (rs := rs) (g := [scrD ns, b7, .int (w : Int), .int (p : Int), rowsD true rs, .int ((F : Int) - 1), .dead, .dead, .dead, .dead, .dead, .dead, .dead, .dead, .dead]) rfl rfl (rlist_val (m := true) rfl) hp1 hp12 hl4 hrs
    rw [w_par, l_cons, s1, rb_ok, l_cons, c6]
    rfl
  -- the shorter one
  have hrs2 : ∀ r, r ∈ rs.dropLast → RowOk p r := fun r h => hrs r (List.dropLast_subset _ h)
  have hl5 : rs.dropLast.length ≤ 400 := by rw [List.length_dropLast]; omega
  have e7 : sden c (.asg (.var 8) (.frz (.make "Schedule.__init__" "Schedule" (.cons (.var 3) (.cons (.blt .list (.cons (.slc (.var 4) (.cst .non) (.neg (.cst (.int 1)))) .nil)) .nil))))) [scrD ns, b7, .int (w : Int), .int (p : Int), rowsD true rs, .int ((F : Int) - 1), schD p rs, gsD true (rs.map (·.1)), .dead, .dead, .dead, .dead, .dead, .dead, .dead] = .nx [scrD ns, b7, .int (w : Int), .int (p : Int), rowsD true rs, .int ((F : Int) - 1), schD p rs, gsD true (rs.map (·.1)), schD p rs.dropLast, .dead, .dead, .dead, .dead, .dead, .dead] := by
    have sl : (den c (.slc (.var 4) (.cst .non) (.neg (.cst (.int 1))))).val [scrD ns, b7, .int (w : Int), .int (p : Int), rowsD true rs, .int ((F : Int) - 1), schD p rs, gsD true (rs.map (·.1)), .dead, .dead, .dead, .dead, .dead, .dead, .dead] = .ok (rowsD true rs.dropLast, false) [scrD ns, b7, .int (w : Int), .int (p : Int), rowsD true rs, .int ((F : Int) - 1), schD p rs, gsD true (rs.map (·.1)), .dead, .dead, .dead, .dead, .dead, .dead, .dead] := by
      rw [slc_last (i := 4) (xs := rs.map rowD1) rfl persL_rows, ← List.map_dropLast]
    have ll : (den c (.blt .list (.cons (.slc (.var 4) (.cst .non) (.neg (.cst (.int 1)))) .nil))).val [scrD ns, b7, .int (w : Int), .int (p : Int), rowsD true rs, .int ((F : Int) - 1), schD p rs, gsD true (rs.map (·.1)), .dead, .dead, .dead, .dead, .dead, .dead, .dead] = .ok (rowsD true rs.dropLast, false) [scrD ns, b7, .int (w : Int), .int (p : Int), rowsD true rs, .int ((F : Int) - 1), schD p rs, gsD true (rs.map (·.1)), .dead, .dead, .dead, .dead, .dead, .dead, .dead] := by
      rw [blt1 rfl sl, f_list persL_rows]
      rfl
    exact asg_nx (sch_val (c := c) hc.init (i := 3) (p := p) (rs := rs.dropLast) rfl rfl ll hp1 hp12 hl5 hrs2) (by rw [var_asg (by simp)]; rfl)
  -- the law's own layers
  have gk : ∀ rt : List (Nat × Int), (∀ r, r ∈ rt → RowOk p r) → ∀ g, g ∈ rt.map (·.1) → 1 ≤ g ∧ g + 1 < p + 1 := fun rt h g hg => by
    obtain ⟨r, h', rfl⟩ := List.mem_map.mp hg
    have := (h r h').1
    exact ⟨this.1, by have := this.2; omega⟩
  have pe : ((p + 1 : Nat) : Int) - 1 = (p : Int) := by omega
  have ly : ∀ (m : Bool) (rt : List (Nat × Int)), (∀ r, r ∈ rt → RowOk p r) → c "_law_layers" [gsD m (rt.map (·.1)), .int (p : Int), .int ((F : Int) - 1)] = .ok (layD false F (p + 1) (layG F0 (rt.map (·.1)))) [gsD m (rt.map (·.1)), .int (p : Int), .int ((F : Int) - 1)] := fun m rt h => by
    have := hc.lay m (rt.map (·.1)) F (p + 1) (by omega) (by omega) hF1 (by omega) (gk rt h)
    rwa [pe] at this
  have e8 : sden c (.par [9, 10] (.cons (.call "_law_layers" (.cons (.var 7) (.cons (.var 3) (.cons (.var 5) .nil)))) (.cons (.call "_law_layers" (.cons (.slc (.var 7) (.cst .non) (.neg (.cst (.int 1)))) (.cons (.var 3) (.cons (.var 5) .nil)))) .nil))) [scrD ns, b7, .int (w : Int), .int (p : Int), rowsD true rs, .int ((F : Int) - 1), schD p rs, gsD true (rs.map (·.1)), schD p rs.dropLast, .dead, .dead, .dead, .dead, .dead, .dead] = .nx (st (scrD ns) b7 (.int (w : Int)) p rs rs.dropLast F .dead .dead .dead) := by
    have y1 : (den c (.call "_law_layers" (.cons (.var 7) (.cons (.var 3) (.cons (.var 5) .nil))))).val [scrD ns, b7, .int (w : Int), .int (p : Int), rowsD true rs, .int ((F : Int) - 1), schD p rs, gsD true (rs.map (·.1)), schD p rs.dropLast, .dead, .dead, .dead, .dead, .dead, .dead] = .ok (layD false F (p + 1) (layG F0 (rs.map (·.1))), false) [scrD ns, b7, .int (w : Int), .int (p : Int), rowsD true rs, .int ((F : Int) - 1), schD p rs, gsD true (rs.map (·.1)), schD p rs.dropLast, .dead, .dead, .dead, .dead, .dead, .dead] :=
      call_val (args_cons (arg_r (b := gsD true (rs.map (·.1))) rfl rfl) (args_cons (arg_r (b := .int (p : Int)) rfl rfl) (args_cons (arg_r (b := .int ((F : Int) - 1)) rfl rfl) rfl))) (ds := [gsD true (rs.map (·.1)), .int (p : Int), .int ((F : Int) - 1)]) (g2 := [scrD ns, b7, .int (w : Int), .int (p : Int), rowsD true rs, .int ((F : Int) - 1), schD p rs, .dead, schD p rs.dropLast, .dead, .dead, .dead, .dead, .dead, .dead]) rfl (ly true rs hrs) rfl
    have sl : (den c (.slc (.var 7) (.cst .non) (.neg (.cst (.int 1))))).val [scrD ns, b7, .int (w : Int), .int (p : Int), rowsD true rs, .int ((F : Int) - 1), schD p rs, gsD true (rs.map (·.1)), schD p rs.dropLast, .dead, .dead, .dead, .dead, .dead, .dead] = .ok (gsD true (rs.dropLast.map (·.1)), false) [scrD ns, b7, .int (w : Int), .int (p : Int), rowsD true rs, .int ((F : Int) - 1), schD p rs, gsD true (rs.map (·.1)), schD p rs.dropLast, .dead, .dead, .dead, .dead, .dead, .dead] := by
      rw [slc_last (i := 7) (xs := (rs.map (·.1)).map fun (g : Nat) => D.int (g : Int)) rfl persL_gs, ← List.map_dropLast, ← List.map_dropLast]
    have y2 : (den c (.call "_law_layers" (.cons (.slc (.var 7) (.cst .non) (.neg (.cst (.int 1)))) (.cons (.var 3) (.cons (.var 5) .nil))))).val [scrD ns, b7, .int (w : Int), .int (p : Int), rowsD true rs, .int ((F : Int) - 1), schD p rs, gsD true (rs.map (·.1)), schD p rs.dropLast, .dead, .dead, .dead, .dead, .dead, .dead] = .ok (layD false F (p + 1) (layG F0 (rs.dropLast.map (·.1))), false) [scrD ns, b7, .int (w : Int), .int (p : Int), rowsD true rs, .int ((F : Int) - 1), schD p rs, gsD true (rs.map (·.1)), schD p rs.dropLast, .dead, .dead, .dead, .dead, .dead, .dead] :=
      call_val (args_cons (one_val rfl sl) (args_cons (arg_r (b := .int (p : Int)) rfl rfl) (args_cons (arg_r (b := .int ((F : Int) - 1)) rfl rfl) rfl))) (ds := [gsD true (rs.dropLast.map (·.1)), .int (p : Int), .int ((F : Int) - 1)]) (g2 := [scrD ns, b7, .int (w : Int), .int (p : Int), rowsD true rs, .int ((F : Int) - 1), schD p rs, gsD true (rs.map (·.1)), schD p rs.dropLast, .dead, .dead, .dead, .dead, .dead, .dead]) rfl (ly true rs.dropLast hrs2) rfl
    rw [w_par, l_cons, y1, rb_ok, l_cons, y2]
    rfl
  -- three times
  have lp := for_fn (c := c) (t := .var 11) (it := .blt .range (.cons (.cst (.int 3)) .nil)) (b := dL_b1) (g := st (scrD ns) b7 (.int (w : Int)) p rs rs.dropLast F .dead .dead .dead) (src := .fix (rangeD 0 3)) (n := 3) (fun k => .int (0 + (k : Int))) (fun _ => st (scrD ns) b7 (.int (w : Int)) p rs rs.dropLast F .dead .dead .dead)
    (range_itr (by simp [l_cons, l_nil, v_cst, rb_ok, late]) (by omega)) rfl (by rw [rangeD_rg]; exact len_fix) (fun k hk => by rw [rangeD_rg]; exact fix_rg hk) (fun k hk => ⟨st (scrD ns) b7 (.int (w : Int)) p rs rs.dropLast F (.int (0 + (k : Int))) .dead .dead, by simp [s_var], .inl (turn hc hp1 hp12 hF1 hF2 hl4 hrs hl5 hrs2)⟩)
  have e9 := kill_nx (is := [11, 12, 13]) lp
  have e10 : sden c (.ret (.cmp .eq (.meth "Schedule.comparisons" "Schedule" "comparisons" (.var 6) .nil) (.var 4))) (st (scrD ns) b7 (.int (w : Int)) p rs rs.dropLast F .dead .dead .dead) = .rt (.bl true) (st (scrD ns) b7 (.int (w : Int)) p rs rs.dropLast F .dead .dead .dead) := by
    have m1 : (den c (.meth "Schedule.comparisons" "Schedule" "comparisons" (.var 6) .nil)).val (st (scrD ns) b7 (.int (w : Int)) p rs rs.dropLast F .dead .dead .dead) = .ok (rowsD true rs, false) (st (scrD ns) b7 (.int (w : Int)) p rs rs.dropLast F .dead .dead .dead) := meth0_val rfl (by decide) (hc.schC p rs)
    have q : cmpD .eq (rowsD true rs) (rowsD true rs) = some true := eqD_same (rows_fine (by omega) hl4 hrs) (rows_fine (by omega) hl4 hrs) (by omega) (by omega) rfl
    refine ret_rt ?_
    rw [v_cmp, t_cmp, m1, rb_ok]
    show Bm.R.bind (ofO (cmpD .eq (rowsD true rs) (rowsD true rs)) _) _ = _
    rw [q]
    rfl
  have body : sden c dL.body ([scrD ns] ++ List.replicate (dL.nn - dL.np) .dead) = .rt (.bl true) (st (scrD ns) b7 (.int (w : Int)) p rs rs.dropLast F .dead .dead .dead) := by
    show sden c (.seq (.asg (.var 1) _) (.seq (.asg (.var 2) _) (.seq (.asg (.var 3) _) (.seq (.asg (.var 4) _) (.seq (.asg (.var 5) _) (.seq (.par [6, 7] _) (.seq (.asg (.var 8) _) (.seq (.par [9, 10] _) (.seq (.kill [11, 12, 13] dL_f1) (.ret _)))))))))) [scrD ns, .dead, .dead, .dead, .dead, .dead, .dead, .dead, .dead, .dead, .dead, .dead, .dead, .dead, .dead] = _
    rw [seq_nx (asg_nx e1 (var_asg (by simp)))]
    show sden c (.seq _ _) [scrD ns, bag, .dead, .dead, .dead, .dead, .dead, .dead, .dead, .dead, .dead, .dead, .dead, .dead, .dead] = _
    rw [seq_nx (asg_nx e2 (var_asg (by simp)))]
    show sden c (.seq _ _) [scrD ns, b1, .int (w : Int), .dead, .dead, .dead, .dead, .dead, .dead, .dead, .dead, .dead, .dead, .dead, .dead] = _
    rw [seq_nx (asg_nx e3 (var_asg (by simp)))]
    show sden c (.seq _ _) [scrD ns, b2, .int (w : Int), .int (p : Int), .dead, .dead, .dead, .dead, .dead, .dead, .dead, .dead, .dead, .dead, .dead] = _
    rw [seq_nx (asg_nx e4 (var_asg (by simp)))]
    show sden c (.seq _ _) [scrD ns, b3, .int (w : Int), .int (p : Int), rowsD true rs, .dead, .dead, .dead, .dead, .dead, .dead, .dead, .dead, .dead, .dead] = _
    rw [seq_nx (asg_nx e5 (var_asg (by simp)))]
    show sden c (.seq _ _) [scrD ns, b7, .int (w : Int), .int (p : Int), rowsD true rs, .int ((F : Int) - 1), .dead, .dead, .dead, .dead, .dead, .dead, .dead, .dead, .dead] = _
    rw [seq_nx e6, seq_nx e7, seq_nx e8, seq_nx e9]
    exact e10
  exact ⟨_, run_rt rfl body⟩
theorem main (ns : List Int) (h : ns.length ≤ 63) : ∃ as, orc pr0 "law" [scrD ns] = .ok (.bl true) as := by
  have d1 : Draws (orc pr1) := fun bag many hb h1 h2 => take_ok (c := orc pr22) hb h1 h2
  have d18 : Draws (orc pr18) := fun bag many hb h1 h2 => take_ok (c := orc pr22) hb h1 h2
  have d19 : Draws (orc pr19) := fun bag many hb h1 h2 => take_ok (c := orc pr22) hb h1 h2
  have d20 : Draws (orc pr20) := fun bag many hb h1 h2 => take_ok (c := orc pr22) hb h1 h2
  have d21 : Draws (orc pr21) := fun bag many hb h1 h2 => take_ok (c := orc pr22) hb h1 h2
  have ic : IntC (orc pr15) := fun i => isint_ok (c := orc pr16)
  have comC : ComC (orc pr17) := ⟨fun bag many hb h1 h2 => take_ok (c := orc pr22) hb h1 h2, fun bag p most hb h1 h2 h3 => gates_ok (c := orc pr19) d19 hb h1 h2 h3, fun bag hb => lprice_ok (c := orc pr20) d20 hb⟩
  have bet : ∀ {k : List (Str × Def)}, (∀ as, orc k "is_between" as = dBetween.run (orc pr15) as) → BetC (orc k) := fun e i lo hi => by
    rw [e]
    exact between_ok (c := orc pr15) ic
  have cmpC : CmpC (orc pr13) := ⟨bet fun as => by rfl, fun i h0 h1 => by
    have e : ∀ as, orc pr13 "is_price" as = dIsPrice.run (orc pr14) as := fun as => by rfl
    rw [e]
    exact price_ok (c := orc pr14) (bet fun as => by rfl) h0 h1⟩
  have iniC : InitC (orc pr12) := ⟨bet fun as => by rfl, fun p r h => by
    have e : ∀ as, orc pr12 "is_comparison" as = dIsCmp.run (orc pr13) as := fun as => by rfl
    rw [e]
    exact iscmp_ok (c := orc pr13) cmpC h⟩
  have pass : Pass (orc pr5) := fun m N g r h1 h2 => by
    have e : ∀ as, orc pr5 "passed" as = dPassed.run (orc pr6) as := fun as => by rfl
    rw [e]
    exact passed_ok (c := orc pr6) h1 h2
  have schC : SchC (orc pr4) := ⟨fun n hn => by
      have e : ∀ as, orc pr4 "free_table" as = dFree.run (orc pr9) as := fun as => by rfl
      rw [e]
      exact free_ok (c := orc pr9) hn, fun p rs => schP_ok (c := orc pr8), fun p rs hl => schG_ok (c := orc pr7) hl, fun F N g L h1 h2 h3 h4 => by
      have e : ∀ as, orc pr4 "compare_layers" as = dCmpLay.run (orc pr5) as := fun as => by rfl
      rw [e]
      exact cmplay_ok (c := orc pr5) pass h1 h2 h3 h4⟩
  have calls : Calls (orc pr1) := {
    take := d1
    places := fun bag a b hb h1 h2 => places_ok (c := orc pr21) d21 hb h1 h2
    comps := fun bag p most hb h1 h2 h3 => comps_ok (c := orc pr17) comC hb h1 h2 h3
    init := fun p rs h1 h2 h3 h4 => init_ok (c := orc pr12) iniC h1 h2 h3 h4
    lay := fun m gs F n h1 h2 h3 h4 h5 => layers_ok (c := orc pr10) (fun F n g L h1 h2 h3 h4 => compared_ok (c := orc pr11) h1 h2 h3 h4) h1 h2 h3 h4 h5
    layP := fun F p rs h1 h2 h3 h4 h5 => by
      have e : ∀ as, orc pr1 "layers" as = dLayersP.run (orc pr4) as := fun as => by rfl
      rw [e]
      exact layersP_ok (c := orc pr4) schC h1 h2 h3 h4 h5
    alike := fun a b a' b' k k' xs ys h1 h2 h3 h4 h5 h6 h7 => alike_ok (c := orc pr3) h1 h2 h3 h4 h5 h6 h7
    own := fun F n L h1 h2 => own_ok (c := orc pr2) h1 h2
    schC := fun p rs => schC_ok (c := orc pr1) }
  exact law_ok (c := orc pr1) calls (bag_ok (c := orc pr23) h)
end WK34

set_option maxHeartbeats 0
namespace WK34
open PySem PySem.Spec PyProof.Rows L2 Bm
def top (i : Nat) : Stmt := PySem.Challenge.pw_bearsmisses_k34_layers_great.main.body.getD i (.Pass ⟨0, 0, 0, 0⟩)
def itm (i j : Nat) : Stmt := (C8.clsBody (top i)).getD j (.Pass ⟨0, 0, 0, 0⟩)
abbrev s_law : Stmt := top 34
def e_law : He.DefD := ⟨("law", none), "law", "law", defArgs s_law, defBody s_law, defScope s_law, [], []⟩
def n_law : List Str := ["_law_script", "_law_bag_here", "_law_way", "_law_places_here", "_law_rows", "_law_most", "_law_schedule", "_law_gates_here", "_law_fewer", "_law_due", "_law_less", "_law_again", "_law_found", "_law_other", "_law_row"]
abbrev s_Schedule_m_comparisons : Stmt := itm 22 3
def e_Schedule_m_comparisons : He.DefD := ⟨("Schedule", some "comparisons"), "comparisons", "Schedule.comparisons", defArgs s_Schedule_m_comparisons, defBody s_Schedule_m_comparisons, defScope s_Schedule_m_comparisons, [], []⟩
def n_Schedule_m_comparisons : List Str := ["self"]
abbrev s__law_each_own : Stmt := top 33
def e__law_each_own : He.DefD := ⟨("_law_each_own", none), "_law_each_own", "_law_each_own", defArgs s__law_each_own, defBody s__law_each_own, defScope s__law_each_own, [], []⟩
def n__law_each_own : List Str := ["_law_tables", "_law_lengths", "_law_sizes", "_law_table", "_law_row"]
abbrev s__law_alike : Stmt := top 26
def e__law_alike : He.DefD := ⟨("_law_alike", none), "_law_alike", "_law_alike", defArgs s__law_alike, defBody s__law_alike, defScope s__law_alike, [], []⟩
def n__law_alike : List Str := ["_law_found", "_law_due"]
abbrev s_layers : Stmt := top 14
def e_layers : He.DefD := ⟨("layers", none), "layers", "layers", defArgs s_layers, defBody s_layers, defScope s_layers, [], []⟩
def n_layers : List Str := ["schedule", "misses", "found", "gate", "layer"]
abbrev s_compare_layers : Stmt := top 13
def e_compare_layers : He.DefD := ⟨("compare_layers", none), "compare_layers", "compare_layers", defArgs s_compare_layers, defBody s_compare_layers, defScope s_compare_layers, [], []⟩
def n_compare_layers : List Str := ["tables", "gate", "misses", "k", "row", "done"]
abbrev s_passed : Stmt := top 11
def e_passed : He.DefD := ⟨("passed", none), "passed", "passed", defArgs s_passed, defBody s_passed, defScope s_passed, [], []⟩
def n_passed : List Str := ["row", "gate"]
abbrev s_Schedule_m_gates : Stmt := itm 22 4
def e_Schedule_m_gates : He.DefD := ⟨("Schedule", some "gates"), "gates", "Schedule.gates", defArgs s_Schedule_m_gates, defBody s_Schedule_m_gates, defScope s_Schedule_m_gates, [], []⟩
def n_Schedule_m_gates : List Str := ["self", "gate", "price"]
abbrev s_Schedule_m_places : Stmt := itm 22 2
def e_Schedule_m_places : He.DefD := ⟨("Schedule", some "places"), "places", "Schedule.places", defArgs s_Schedule_m_places, defBody s_Schedule_m_places, defScope s_Schedule_m_places, [], []⟩
def n_Schedule_m_places : List Str := ["self"]
abbrev s_free_table : Stmt := top 10
def e_free_table : He.DefD := ⟨("free_table", none), "free_table", "free_table", defArgs s_free_table, defBody s_free_table, defScope s_free_table, [], []⟩
def n_free_table : List Str := ["places", "k", "t"]
abbrev s__law_layers : Stmt := top 32
def e__law_layers : He.DefD := ⟨("_law_layers", none), "_law_layers", "_law_layers", defArgs s__law_layers, defBody s__law_layers, defScope s__law_layers, [], []⟩
def n__law_layers : List Str := ["_law_gates_here", "_law_places_here", "_law_most", "_law_size", "_law_found", "_law_gate", "_law_f", "_law_k", "_law_t"]
abbrev s__law_compared : Stmt := top 31
def e__law_compared : He.DefD := ⟨("_law_compared", none), "_law_compared", "_law_compared", defArgs s__law_compared, defBody s__law_compared, defScope s__law_compared, [], []⟩
def n__law_compared : List Str := ["_law_tables", "_law_gate", "_law_found", "_law_f", "_law_table", "_law_rows", "_law_k", "_law_row", "_law_entry"]
abbrev s_Schedule_m___init__ : Stmt := itm 22 0
def e_Schedule_m___init__ : He.DefD := ⟨("Schedule", some "__init__"), "__init__", "Schedule.__init__", defArgs s_Schedule_m___init__, defBody s_Schedule_m___init__, defScope s_Schedule_m___init__, [], []⟩
def n_Schedule_m___init__ : List Str := ["self", "places", "comparisons", "at", "comparison"]
abbrev s_is_comparison : Stmt := top 8
def e_is_comparison : He.DefD := ⟨("is_comparison", none), "is_comparison", "is_comparison", defArgs s_is_comparison, defBody s_is_comparison, defScope s_is_comparison, [], []⟩
def n_is_comparison : List Str := ["thing", "places"]
abbrev s_is_price : Stmt := top 7
def e_is_price : He.DefD := ⟨("is_price", none), "is_price", "is_price", defArgs s_is_price, defBody s_is_price, defScope s_is_price, [], []⟩
def n_is_price : List Str := ["thing"]
abbrev s_is_between : Stmt := top 6
def e_is_between : He.DefD := ⟨("is_between", none), "is_between", "is_between", defArgs s_is_between, defBody s_is_between, defScope s_is_between, [], []⟩
def n_is_between : List Str := ["thing", "low", "high"]
abbrev s_is_integer : Stmt := top 5
def e_is_integer : He.DefD := ⟨("is_integer", none), "is_integer", "is_integer", defArgs s_is_integer, defBody s_is_integer, defScope s_is_integer, [], []⟩
def n_is_integer : List Str := ["thing"]
abbrev s__law_comparisons : Stmt := top 30
def e__law_comparisons : He.DefD := ⟨("_law_comparisons", none), "_law_comparisons", "_law_comparisons", defArgs s__law_comparisons, defBody s__law_comparisons, defScope s__law_comparisons, [], []⟩
def n__law_comparisons : List Str := ["_law_bag_here", "_law_places_here", "_law_most", "_law_dear", "_law_gate"]
abbrev s__law_gates : Stmt := top 28
def e__law_gates : He.DefD := ⟨("_law_gates", none), "_law_gates", "_law_gates", defArgs s__law_gates, defBody s__law_gates, defScope s__law_gates, [], []⟩
def n__law_gates : List Str := ["_law_bag_here", "_law_places_here", "_law_most", "_law_way", "_law_at", "_law_found", "_law_k", "_law_gate"]
abbrev s__law_price : Stmt := top 29
def e__law_price : He.DefD := ⟨("_law_price", none), "_law_price", "_law_price", defArgs s__law_price, defBody s__law_price, defScope s__law_price, [], []⟩
def n__law_price : List Str := ["_law_bag_here"]
abbrev s__law_places : Stmt := top 27
def e__law_places : He.DefD := ⟨("_law_places", none), "_law_places", "_law_places", defArgs s__law_places, defBody s__law_places, defScope s__law_places, [], []⟩
def n__law_places : List Str := ["_law_bag_here", "_law_least", "_law_most"]
abbrev s__law_take : Stmt := top 25
def e__law_take : He.DefD := ⟨("_law_take", none), "_law_take", "_law_take", defArgs s__law_take, defBody s__law_take, defScope s__law_take, [], []⟩
def n__law_take : List Str := ["_law_bag_here", "_law_many", "_law_cell", "_law_value", "_law_first", "_law_second"]
abbrev s__law_bag : Stmt := top 24
def e__law_bag : He.DefD := ⟨("_law_bag", none), "_law_bag", "_law_bag", defArgs s__law_bag, defBody s__law_bag, defScope s__law_bag, [], []⟩
def n__law_bag : List Str := ["_law_script", "_law_cell"]
def fn0 : List He.DefD := [e_law, e_Schedule_m_comparisons, e__law_each_own, e__law_alike, e_layers, e_compare_layers, e_passed, e_Schedule_m_gates, e_free_table, e__law_layers, e__law_compared, e_Schedule_m___init__, e_is_comparison, e_is_price, e_is_between]
def fn1 : List He.DefD := [e_is_integer, e__law_comparisons, e__law_gates, e__law_price, e__law_places, e__law_take, e__law_bag]
def fn : List He.DefD := fn0 ++ fn1
def fa0 : List He.Fa := [.glo "law", .glo "_law_each_own", .glo "_law_alike", .glo "layers", .glo "compare_layers", .glo "passed", .glo "free_table", .glo "_law_layers", .glo "_law_compared", .glo "is_comparison", .glo "is_price", .glo "is_between", .glo "is_integer", .glo "_law_comparisons", .glo "_law_gates"]
def fa1 : List He.Fa := [.glo "_law_price", .glo "_law_places", .glo "_law_take", .glo "_law_bag", .free "abs", .free "bool", .free "enumerate", .free "int", .free "isinstance", .free "len", .free "list", .free "max", .free "min", .free "range", .free "repr"]
def fa2 : List He.Fa := [.free "tuple", .int "MAX_COMPARISONS" (400), .int "MAX_PLACES" (12), .int "MAX_PRICE" (1000000000000000000), .glo "Schedule", .cls "Schedule", .noat "Schedule" "place_count", .noat "Schedule" "rows", .meth "Schedule" "comparisons", .meth "Schedule" "gates", .mkr "Schedule"]
def fa : List He.Fa := fa0 ++ fa1 ++ fa2
def xs : List Xa := [.isi "Schedule", .prop "Schedule" "places"]
def gt : List Gt := [⟨"Schedule", "places", e_Schedule_m_places⟩]
def lo0 : List PySem.Str := ["_wall", "__name__", "MAX_PLACES", "MAX_COMPARISONS", "MAX_PRICE", "is_integer", "is_between", "is_price", "is_comparison", "free_table", "passed", "compare_layers", "layers", "LineError", "Wrong"]
def lo1 : List PySem.Str := ["BadComparison", "NoComparison", "TooMany", "Schedule", "_law_bag", "_law_take", "_law_alike", "_law_places", "_law_gates", "_law_price", "_law_comparisons", "_law_compared", "_law_layers", "_law_each_own"]
abbrev R : PySem.W.OpenRow := PySem.W.OpenLaw.row PySem.Challenge.rw_bearsmisses_k34_layers_great
abbrev hk : PySem.W.Hook := hookB 6 fa fn xs gt
def ob (s : PySem.W.SharedT) : AlB := obsBG 6 fa fn xs gt (HandSHeadRun.getT s)
theorem ob_eq (s : PySem.W.SharedT) : ob s = hk.obs s.abs := obsBG_eq (HandSHeadRun.getT_eq s)
theorem run (w : World) : HandSHeadRun.RunEq R (PySem.W.view R.prog [34]) hk ob 3000 (lo0 ++ lo1) w := by
  intro os
  kernel_rfl
def gs : Gs := ⟨[("MAX_COMPARISONS", .int (400)), ("MAX_PLACES", .int (12)), ("MAX_PRICE", .int (1000000000000000000))], ["abs", "bool", "enumerate", "int", "isinstance", "len", "list", "max", "min", "range", "repr", "tuple"], [("Schedule.comparisons", .meth "Schedule" "comparisons"), ("Schedule.gates", .meth "Schedule" "gates"), ("Schedule.places", .prop "Schedule" "places"), ("Schedule.__init__", .init "Schedule")], ["Schedule"], [("Schedule", "place_count"), ("Schedule", "rows")]⟩
section
variable {K : PySem.W.Frag} {h : Heap} {mg : Str → Option Value}
theorem globs (X : K.In h) (G : h.Ns mainGlobals mg) (c : SaysB fa fn xs gt K) : @Globs ⟨K⟩ mg gs := by
  refine @Globs.mk ⟨K⟩ _ _ (fun x a m => ?_) (fun x m => ?_) (fun x m => ?_) (fun x f m => ?_)
  · skip
    rcases List.mem_cons.mp m with e | m
    · cases e; obtain ⟨t, e⟩ := He.int_ok X G (c.old.fact 31 (f := .int "MAX_COMPARISONS" (400)) rfl); exact ⟨_, e, t, rfl⟩
    rcases List.mem_cons.mp m with e | m
    · cases e; obtain ⟨t, e⟩ := He.int_ok X G (c.old.fact 32 (f := .int "MAX_PLACES" (12)) rfl); exact ⟨_, e, t, rfl⟩
    rcases List.mem_cons.mp m with e | m
    · cases e; obtain ⟨t, e⟩ := He.int_ok X G (c.old.fact 33 (f := .int "MAX_PRICE" (1000000000000000000)) rfl); exact ⟨_, e, t, rfl⟩
    exact nomatch m
  · skip
    rcases List.mem_cons.mp m with e | m
    · cases e; exact He.free_ok X G (c.old.fact 19 (f := .free "abs") rfl)
    rcases List.mem_cons.mp m with e | m
    · cases e; exact He.free_ok X G (c.old.fact 20 (f := .free "bool") rfl)
    rcases List.mem_cons.mp m with e | m
    · cases e; exact He.free_ok X G (c.old.fact 21 (f := .free "enumerate") rfl)
    rcases List.mem_cons.mp m with e | m
    · cases e; exact He.free_ok X G (c.old.fact 22 (f := .free "int") rfl)
    rcases List.mem_cons.mp m with e | m
    · cases e; exact He.free_ok X G (c.old.fact 23 (f := .free "isinstance") rfl)
    rcases List.mem_cons.mp m with e | m
    · cases e; exact He.free_ok X G (c.old.fact 24 (f := .free "len") rfl)
    rcases List.mem_cons.mp m with e | m
    · cases e; exact He.free_ok X G (c.old.fact 25 (f := .free "list") rfl)
    rcases List.mem_cons.mp m with e | m
    · cases e; exact He.free_ok X G (c.old.fact 26 (f := .free "max") rfl)
    rcases List.mem_cons.mp m with e | m
    · cases e; exact He.free_ok X G (c.old.fact 27 (f := .free "min") rfl)
    rcases List.mem_cons.mp m with e | m
    · cases e; exact He.free_ok X G (c.old.fact 28 (f := .free "range") rfl)
    rcases List.mem_cons.mp m with e | m
    · cases e; exact He.free_ok X G (c.old.fact 29 (f := .free "repr") rfl)
    rcases List.mem_cons.mp m with e | m
    · cases e; exact He.free_ok X G (c.old.fact 30 (f := .free "tuple") rfl)
    exact nomatch m
  · skip
    rcases List.mem_cons.mp m with e | m
    · cases e; exact ⟨He.glo_ok X G (c.old.fact 34 (f := .glo "Schedule") rfl), He.cls_ok (c.old.fact 35 (f := .cls "Schedule") rfl), isiB_ok (c.x 0 (x := .isi "Schedule") rfl)⟩
    exact nomatch m
  · skip
    rcases List.mem_cons.mp m with e | m
    · cases e; exact He.noat_ok (c.old.fact 36 (f := .noat "Schedule" "place_count") rfl)
    rcases List.mem_cons.mp m with e | m
    · cases e; exact He.noat_ok (c.old.fact 37 (f := .noat "Schedule" "rows") rfl)
    exact nomatch m
theorem m_law : mB n_law (gs.glb (pr1.map (·.1))) d_law.body (defScope s_law) (defBody s_law) = true := by decide +kernel
theorem sc_law : FnScope n_law ["_law_script"] (defScope s_law) := C8.fnScope_by (by decide +kernel)
theorem k_law : (gs.glb (pr1.map (·.1))).kind "law" = .fn := by decide +kernel
theorem ok_law (X : K.In h) (G : h.Ns mainGlobals mg) (c : SaysB fa fn xs gt K) : @DefAt ⟨K⟩ mg gs (pr1.map (·.1)) "law" d_law := by
  obtain ⟨fd, F⟩ := c.old.def_ 0 (d := e_law) rfl
  exact ⟨_, fd, _, _, _, _, _, n_law, _, by rw [k_law]; exact ⟨He.glo_ok X G (c.old.fact 0 (f := .glo "law") rfl), F.kp⟩, F, sc_law, m_law, rfl, rfl, FunD.bindsN F fun _ _ _ _ _ _ us hl => match us, hl with | [_], _ => rfl⟩
theorem m_Schedule_m_comparisons : mB n_Schedule_m_comparisons (gs.glb (pr2.map (·.1))) d_Schedule_m_comparisons.body (defScope s_Schedule_m_comparisons) (defBody s_Schedule_m_comparisons) = true := by decide +kernel
theorem sc_Schedule_m_comparisons : FnScope n_Schedule_m_comparisons ["self"] (defScope s_Schedule_m_comparisons) := C8.fnScope_by (by decide +kernel)
theorem k_Schedule_m_comparisons : (gs.glb (pr2.map (·.1))).kind "Schedule.comparisons" = .meth "Schedule" "comparisons" := by decide +kernel
theorem ok_Schedule_m_comparisons (X : K.In h) (G : h.Ns mainGlobals mg) (c : SaysB fa fn xs gt K) : @DefAt ⟨K⟩ mg gs (pr2.map (·.1)) "Schedule.comparisons" d_Schedule_m_comparisons := by
  obtain ⟨fd, F⟩ := c.old.def_ 1 (d := e_Schedule_m_comparisons) rfl
  exact ⟨_, fd, _, _, _, _, _, n_Schedule_m_comparisons, _, by rw [k_Schedule_m_comparisons]; exact ⟨He.cls_ok (c.old.fact 35 (f := .cls "Schedule") rfl), He.meth_ok (c.old.fact 38 (f := .meth "Schedule" "comparisons") rfl)⟩, F, sc_Schedule_m_comparisons, m_Schedule_m_comparisons, rfl, rfl, FunD.bindsN F fun _ _ _ _ _ _ us hl => match us, hl with | [_], _ => rfl⟩
theorem m__law_each_own : mB n__law_each_own (gs.glb (pr3.map (·.1))) d__law_each_own.body (defScope s__law_each_own) (defBody s__law_each_own) = true := by decide +kernel
theorem sc__law_each_own : FnScope n__law_each_own ["_law_tables"] (defScope s__law_each_own) := C8.fnScope_by (by decide +kernel)
theorem k__law_each_own : (gs.glb (pr3.map (·.1))).kind "_law_each_own" = .fn := by decide +kernel
theorem ok__law_each_own (X : K.In h) (G : h.Ns mainGlobals mg) (c : SaysB fa fn xs gt K) : @DefAt ⟨K⟩ mg gs (pr3.map (·.1)) "_law_each_own" d__law_each_own := by
  obtain ⟨fd, F⟩ := c.old.def_ 2 (d := e__law_each_own) rfl
  exact ⟨_, fd, _, _, _, _, _, n__law_each_own, _, by rw [k__law_each_own]; exact ⟨He.glo_ok X G (c.old.fact 1 (f := .glo "_law_each_own") rfl), F.kp⟩, F, sc__law_each_own, m__law_each_own, rfl, rfl, FunD.bindsN F fun _ _ _ _ _ _ us hl => match us, hl with | [_], _ => rfl⟩
theorem m__law_alike : mB n__law_alike (gs.glb (pr4.map (·.1))) d__law_alike.body (defScope s__law_alike) (defBody s__law_alike) = true := by decide +kernel
theorem sc__law_alike : FnScope n__law_alike ["_law_found", "_law_due"] (defScope s__law_alike) := C8.fnScope_by (by decide +kernel)
theorem k__law_alike : (gs.glb (pr4.map (·.1))).kind "_law_alike" = .fn := by decide +kernel
theorem ok__law_alike (X : K.In h) (G : h.Ns mainGlobals mg) (c : SaysB fa fn xs gt K) : @DefAt ⟨K⟩ mg gs (pr4.map (·.1)) "_law_alike" d__law_alike := by
  obtain ⟨fd, F⟩ := c.old.def_ 3 (d := e__law_alike) rfl
  exact ⟨_, fd, _, _, _, _, _, n__law_alike, _, by rw [k__law_alike]; exact ⟨He.glo_ok X G (c.old.fact 2 (f := .glo "_law_alike") rfl), F.kp⟩, F, sc__law_alike, m__law_alike, rfl, rfl, FunD.bindsN F fun _ _ _ _ _ _ us hl => match us, hl with | [_, _], _ => rfl⟩
theorem m_layers : mB n_layers (gs.glb (pr5.map (·.1))) d_layers.body (defScope s_layers) (defBody s_layers) = true := by decide +kernel
theorem sc_layers : FnScope n_layers ["schedule", "misses"] (defScope s_layers) := C8.fnScope_by (by decide +kernel)
theorem k_layers : (gs.glb (pr5.map (·.1))).kind "layers" = .fn := by decide +kernel
theorem ok_layers (X : K.In h) (G : h.Ns mainGlobals mg) (c : SaysB fa fn xs gt K) : @DefAt ⟨K⟩ mg gs (pr5.map (·.1)) "layers" d_layers := by
  obtain ⟨fd, F⟩ := c.old.def_ 4 (d := e_layers) rfl
  exact ⟨_, fd, _, _, _, _, _, n_layers, _, by rw [k_layers]; exact ⟨He.glo_ok X G (c.old.fact 3 (f := .glo "layers") rfl), F.kp⟩, F, sc_layers, m_layers, rfl, rfl, FunD.bindsN F fun _ _ _ _ _ _ us hl => match us, hl with | [_, _], _ => rfl⟩
theorem m_compare_layers : mB n_compare_layers (gs.glb (pr6.map (·.1))) d_compare_layers.body (defScope s_compare_layers) (defBody s_compare_layers) = true := by decide +kernel
theorem sc_compare_layers : FnScope n_compare_layers ["tables", "gate"] (defScope s_compare_layers) := C8.fnScope_by (by decide +kernel)
theorem k_compare_layers : (gs.glb (pr6.map (·.1))).kind "compare_layers" = .fn := by decide +kernel
theorem ok_compare_layers (X : K.In h) (G : h.Ns mainGlobals mg) (c : SaysB fa fn xs gt K) : @DefAt ⟨K⟩ mg gs (pr6.map (·.1)) "compare_layers" d_compare_layers := by
  obtain ⟨fd, F⟩ := c.old.def_ 5 (d := e_compare_layers) rfl
  exact ⟨_, fd, _, _, _, _, _, n_compare_layers, _, by rw [k_compare_layers]; exact ⟨He.glo_ok X G (c.old.fact 4 (f := .glo "compare_layers") rfl), F.kp⟩, F, sc_compare_layers, m_compare_layers, rfl, rfl, FunD.bindsN F fun _ _ _ _ _ _ us hl => match us, hl with | [_, _], _ => rfl⟩
theorem m_passed : mB n_passed (gs.glb (pr7.map (·.1))) d_passed.body (defScope s_passed) (defBody s_passed) = true := by decide +kernel
theorem sc_passed : FnScope n_passed ["row", "gate"] (defScope s_passed) := C8.fnScope_by (by decide +kernel)
theorem k_passed : (gs.glb (pr7.map (·.1))).kind "passed" = .fn := by decide +kernel
theorem ok_passed (X : K.In h) (G : h.Ns mainGlobals mg) (c : SaysB fa fn xs gt K) : @DefAt ⟨K⟩ mg gs (pr7.map (·.1)) "passed" d_passed := by
  obtain ⟨fd, F⟩ := c.old.def_ 6 (d := e_passed) rfl
  exact ⟨_, fd, _, _, _, _, _, n_passed, _, by rw [k_passed]; exact ⟨He.glo_ok X G (c.old.fact 5 (f := .glo "passed") rfl), F.kp⟩, F, sc_passed, m_passed, rfl, rfl, FunD.bindsN F fun _ _ _ _ _ _ us hl => match us, hl with | [_, _], _ => rfl⟩
theorem m_Schedule_m_gates : mB n_Schedule_m_gates (gs.glb (pr8.map (·.1))) d_Schedule_m_gates.body (defScope s_Schedule_m_gates) (defBody s_Schedule_m_gates) = true := by decide +kernel
theorem sc_Schedule_m_gates : FnScope n_Schedule_m_gates ["self"] (defScope s_Schedule_m_gates) := C8.fnScope_by (by decide +kernel)
theorem k_Schedule_m_gates : (gs.glb (pr8.map (·.1))).kind "Schedule.gates" = .meth "Schedule" "gates" := by decide +kernel
theorem ok_Schedule_m_gates (X : K.In h) (G : h.Ns mainGlobals mg) (c : SaysB fa fn xs gt K) : @DefAt ⟨K⟩ mg gs (pr8.map (·.1)) "Schedule.gates" d_Schedule_m_gates := by
  obtain ⟨fd, F⟩ := c.old.def_ 7 (d := e_Schedule_m_gates) rfl
  exact ⟨_, fd, _, _, _, _, _, n_Schedule_m_gates, _, by rw [k_Schedule_m_gates]; exact ⟨He.cls_ok (c.old.fact 35 (f := .cls "Schedule") rfl), He.meth_ok (c.old.fact 39 (f := .meth "Schedule" "gates") rfl)⟩, F, sc_Schedule_m_gates, m_Schedule_m_gates, rfl, rfl, FunD.bindsN F fun _ _ _ _ _ _ us hl => match us, hl with | [_], _ => rfl⟩
theorem m_Schedule_m_places : mB n_Schedule_m_places (gs.glb (pr9.map (·.1))) d_Schedule_m_places.body (defScope s_Schedule_m_places) (defBody s_Schedule_m_places) = true := by decide +kernel
theorem sc_Schedule_m_places : FnScope n_Schedule_m_places ["self"] (defScope s_Schedule_m_places) := C8.fnScope_by (by decide +kernel)
theorem k_Schedule_m_places : (gs.glb (pr9.map (·.1))).kind "Schedule.places" = .prop "Schedule" "places" := by decide +kernel
theorem ok_Schedule_m_places (X : K.In h) (G : h.Ns mainGlobals mg) (c : SaysB fa fn xs gt K) : @DefAt ⟨K⟩ mg gs (pr9.map (·.1)) "Schedule.places" d_Schedule_m_places := by
  obtain ⟨fd, F⟩ := c.getter 0 (d := ⟨"Schedule", "places", e_Schedule_m_places⟩) rfl
  exact ⟨_, fd, _, _, _, _, _, n_Schedule_m_places, _, by rw [k_Schedule_m_places]; exact ⟨He.cls_ok (c.old.fact 35 (f := .cls "Schedule") rfl), _, propB_ok (c.x 1 (x := .prop "Schedule" "places") rfl)⟩, F, sc_Schedule_m_places, m_Schedule_m_places, rfl, rfl, FunD.bindsN F fun _ _ _ _ _ _ us hl => match us, hl with | [_], _ => rfl⟩
theorem m_free_table : mB n_free_table (gs.glb (pr10.map (·.1))) d_free_table.body (defScope s_free_table) (defBody s_free_table) = true := by decide +kernel
theorem sc_free_table : FnScope n_free_table ["places"] (defScope s_free_table) := C8.fnScope_by (by decide +kernel)
theorem k_free_table : (gs.glb (pr10.map (·.1))).kind "free_table" = .fn := by decide +kernel
theorem ok_free_table (X : K.In h) (G : h.Ns mainGlobals mg) (c : SaysB fa fn xs gt K) : @DefAt ⟨K⟩ mg gs (pr10.map (·.1)) "free_table" d_free_table := by
  obtain ⟨fd, F⟩ := c.old.def_ 8 (d := e_free_table) rfl
  exact ⟨_, fd, _, _, _, _, _, n_free_table, _, by rw [k_free_table]; exact ⟨He.glo_ok X G (c.old.fact 6 (f := .glo "free_table") rfl), F.kp⟩, F, sc_free_table, m_free_table, rfl, rfl, FunD.bindsN F fun _ _ _ _ _ _ us hl => match us, hl with | [_], _ => rfl⟩
theorem m__law_layers : mB n__law_layers (gs.glb (pr11.map (·.1))) d__law_layers.body (defScope s__law_layers) (defBody s__law_layers) = true := by decide +kernel
theorem sc__law_layers : FnScope n__law_layers ["_law_gates_here", "_law_places_here", "_law_most"] (defScope s__law_layers) := C8.fnScope_by (by decide +kernel)
theorem k__law_layers : (gs.glb (pr11.map (·.1))).kind "_law_layers" = .fn := by decide +kernel
theorem ok__law_layers (X : K.In h) (G : h.Ns mainGlobals mg) (c : SaysB fa fn xs gt K) : @DefAt ⟨K⟩ mg gs (pr11.map (·.1)) "_law_layers" d__law_layers := by
  obtain ⟨fd, F⟩ := c.old.def_ 9 (d := e__law_layers) rfl
  exact ⟨_, fd, _, _, _, _, _, n__law_layers, _, by rw [k__law_layers]; exact ⟨He.glo_ok X G (c.old.fact 7 (f := .glo "_law_layers") rfl), F.kp⟩, F, sc__law_layers, m__law_layers, rfl, rfl, FunD.bindsN F fun _ _ _ _ _ _ us hl => match us, hl with | [_, _, _], _ => rfl⟩
theorem m__law_compared : mB n__law_compared (gs.glb (pr12.map (·.1))) d__law_compared.body (defScope s__law_compared) (defBody s__law_compared) = true := by decide +kernel
theorem sc__law_compared : FnScope n__law_compared ["_law_tables", "_law_gate"] (defScope s__law_compared) := C8.fnScope_by (by decide +kernel)
theorem k__law_compared : (gs.glb (pr12.map (·.1))).kind "_law_compared" = .fn := by decide +kernel
theorem ok__law_compared (X : K.In h) (G : h.Ns mainGlobals mg) (c : SaysB fa fn xs gt K) : @DefAt ⟨K⟩ mg gs (pr12.map (·.1)) "_law_compared" d__law_compared := by
  obtain ⟨fd, F⟩ := c.old.def_ 10 (d := e__law_compared) rfl
  exact ⟨_, fd, _, _, _, _, _, n__law_compared, _, by rw [k__law_compared]; exact ⟨He.glo_ok X G (c.old.fact 8 (f := .glo "_law_compared") rfl), F.kp⟩, F, sc__law_compared, m__law_compared, rfl, rfl, FunD.bindsN F fun _ _ _ _ _ _ us hl => match us, hl with | [_, _], _ => rfl⟩
theorem m_Schedule_m___init__ : mB n_Schedule_m___init__ (gs.glb (pr13.map (·.1))) d_Schedule_m___init__.body (defScope s_Schedule_m___init__) (defBody s_Schedule_m___init__) = true := by decide +kernel
theorem sc_Schedule_m___init__ : FnScope n_Schedule_m___init__ ["self", "places", "comparisons"] (defScope s_Schedule_m___init__) := C8.fnScope_by (by decide +kernel)
theorem k_Schedule_m___init__ : (gs.glb (pr13.map (·.1))).kind "Schedule.__init__" = .init "Schedule" := by decide +kernel
theorem ok_Schedule_m___init__ (X : K.In h) (G : h.Ns mainGlobals mg) (c : SaysB fa fn xs gt K) : @DefAt ⟨K⟩ mg gs (pr13.map (·.1)) "Schedule.__init__" d_Schedule_m___init__ := by
  obtain ⟨fd, F⟩ := c.old.def_ 11 (d := e_Schedule_m___init__) rfl
  exact ⟨_, fd, _, _, _, _, _, n_Schedule_m___init__, _, by rw [k_Schedule_m___init__]; exact ⟨He.glo_ok X G (c.old.fact 34 (f := .glo "Schedule") rfl), He.mkr_ok (c.old.fact 40 (f := .mkr "Schedule") rfl)⟩, F, sc_Schedule_m___init__, m_Schedule_m___init__, rfl, rfl, FunD.bindsN F fun _ _ _ _ _ _ us hl => match us, hl with | [_, _, _], _ => rfl⟩
theorem m_is_comparison : mB n_is_comparison (gs.glb (pr14.map (·.1))) d_is_comparison.body (defScope s_is_comparison) (defBody s_is_comparison) = true := by decide +kernel
theorem sc_is_comparison : FnScope n_is_comparison ["thing", "places"] (defScope s_is_comparison) := C8.fnScope_by (by decide +kernel)
theorem k_is_comparison : (gs.glb (pr14.map (·.1))).kind "is_comparison" = .fn := by decide +kernel
theorem ok_is_comparison (X : K.In h) (G : h.Ns mainGlobals mg) (c : SaysB fa fn xs gt K) : @DefAt ⟨K⟩ mg gs (pr14.map (·.1)) "is_comparison" d_is_comparison := by
  obtain ⟨fd, F⟩ := c.old.def_ 12 (d := e_is_comparison) rfl
  exact ⟨_, fd, _, _, _, _, _, n_is_comparison, _, by rw [k_is_comparison]; exact ⟨He.glo_ok X G (c.old.fact 9 (f := .glo "is_comparison") rfl), F.kp⟩, F, sc_is_comparison, m_is_comparison, rfl, rfl, FunD.bindsN F fun _ _ _ _ _ _ us hl => match us, hl with | [_, _], _ => rfl⟩
theorem m_is_price : mB n_is_price (gs.glb (pr15.map (·.1))) d_is_price.body (defScope s_is_price) (defBody s_is_price) = true := by decide +kernel
theorem sc_is_price : FnScope n_is_price ["thing"] (defScope s_is_price) := C8.fnScope_by (by decide +kernel)
theorem k_is_price : (gs.glb (pr15.map (·.1))).kind "is_price" = .fn := by decide +kernel
theorem ok_is_price (X : K.In h) (G : h.Ns mainGlobals mg) (c : SaysB fa fn xs gt K) : @DefAt ⟨K⟩ mg gs (pr15.map (·.1)) "is_price" d_is_price := by
  obtain ⟨fd, F⟩ := c.old.def_ 13 (d := e_is_price) rfl
  exact ⟨_, fd, _, _, _, _, _, n_is_price, _, by rw [k_is_price]; exact ⟨He.glo_ok X G (c.old.fact 10 (f := .glo "is_price") rfl), F.kp⟩, F, sc_is_price, m_is_price, rfl, rfl, FunD.bindsN F fun _ _ _ _ _ _ us hl => match us, hl with | [_], _ => rfl⟩
theorem m_is_between : mB n_is_between (gs.glb (pr16.map (·.1))) d_is_between.body (defScope s_is_between) (defBody s_is_between) = true := by decide +kernel
theorem sc_is_between : FnScope n_is_between ["thing", "low", "high"] (defScope s_is_between) := C8.fnScope_by (by decide +kernel)
theorem k_is_between : (gs.glb (pr16.map (·.1))).kind "is_between" = .fn := by decide +kernel
theorem ok_is_between (X : K.In h) (G : h.Ns mainGlobals mg) (c : SaysB fa fn xs gt K) : @DefAt ⟨K⟩ mg gs (pr16.map (·.1)) "is_between" d_is_between := by
  obtain ⟨fd, F⟩ := c.old.def_ 14 (d := e_is_between) rfl
  exact ⟨_, fd, _, _, _, _, _, n_is_between, _, by rw [k_is_between]; exact ⟨He.glo_ok X G (c.old.fact 11 (f := .glo "is_between") rfl), F.kp⟩, F, sc_is_between, m_is_between, rfl, rfl, FunD.bindsN F fun _ _ _ _ _ _ us hl => match us, hl with | [_, _, _], _ => rfl⟩
theorem m_is_integer : mB n_is_integer (gs.glb (pr17.map (·.1))) d_is_integer.body (defScope s_is_integer) (defBody s_is_integer) = true := by decide +kernel
theorem sc_is_integer : FnScope n_is_integer ["thing"] (defScope s_is_integer) := C8.fnScope_by (by decide +kernel)
theorem k_is_integer : (gs.glb (pr17.map (·.1))).kind "is_integer" = .fn := by decide +kernel
theorem ok_is_integer (X : K.In h) (G : h.Ns mainGlobals mg) (c : SaysB fa fn xs gt K) : @DefAt ⟨K⟩ mg gs (pr17.map (·.1)) "is_integer" d_is_integer := by
  obtain ⟨fd, F⟩ := c.old.def_ 15 (d := e_is_integer) rfl
  exact ⟨_, fd, _, _, _, _, _, n_is_integer, _, by rw [k_is_integer]; exact ⟨He.glo_ok X G (c.old.fact 12 (f := .glo "is_integer") rfl), F.kp⟩, F, sc_is_integer, m_is_integer, rfl, rfl, FunD.bindsN F fun _ _ _ _ _ _ us hl => match us, hl with | [_], _ => rfl⟩
theorem m__law_comparisons : mB n__law_comparisons (gs.glb (pr18.map (·.1))) d__law_comparisons.body (defScope s__law_comparisons) (defBody s__law_comparisons) = true := by decide +kernel
theorem sc__law_comparisons : FnScope n__law_comparisons ["_law_bag_here", "_law_places_here", "_law_most"] (defScope s__law_comparisons) := C8.fnScope_by (by decide +kernel)
theorem k__law_comparisons : (gs.glb (pr18.map (·.1))).kind "_law_comparisons" = .fn := by decide +kernel
theorem ok__law_comparisons (X : K.In h) (G : h.Ns mainGlobals mg) (c : SaysB fa fn xs gt K) : @DefAt ⟨K⟩ mg gs (pr18.map (·.1)) "_law_comparisons" d__law_comparisons := by
  obtain ⟨fd, F⟩ := c.old.def_ 16 (d := e__law_comparisons) rfl
  exact ⟨_, fd, _, _, _, _, _, n__law_comparisons, _, by rw [k__law_comparisons]; exact ⟨He.glo_ok X G (c.old.fact 13 (f := .glo "_law_comparisons") rfl), F.kp⟩, F, sc__law_comparisons, m__law_comparisons, rfl, rfl, FunD.bindsN F fun _ _ _ _ _ _ us hl => match us, hl with | [_, _, _], _ => rfl⟩
theorem m__law_gates : mB n__law_gates (gs.glb (pr19.map (·.1))) d__law_gates.body (defScope s__law_gates) (defBody s__law_gates) = true := by decide +kernel
theorem sc__law_gates : FnScope n__law_gates ["_law_bag_here", "_law_places_here", "_law_most"] (defScope s__law_gates) := C8.fnScope_by (by decide +kernel)
theorem k__law_gates : (gs.glb (pr19.map (·.1))).kind "_law_gates" = .fn := by decide +kernel
theorem ok__law_gates (X : K.In h) (G : h.Ns mainGlobals mg) (c : SaysB fa fn xs gt K) : @DefAt ⟨K⟩ mg gs (pr19.map (·.1)) "_law_gates" d__law_gates := by
  obtain ⟨fd, F⟩ := c.old.def_ 17 (d := e__law_gates) rfl
  exact ⟨_, fd, _, _, _, _, _, n__law_gates, _, by rw [k__law_gates]; exact ⟨He.glo_ok X G (c.old.fact 14 (f := .glo "_law_gates") rfl), F.kp⟩, F, sc__law_gates, m__law_gates, rfl, rfl, FunD.bindsN F fun _ _ _ _ _ _ us hl => match us, hl with | [_, _, _], _ => rfl⟩
theorem m__law_price : mB n__law_price (gs.glb (pr20.map (·.1))) d__law_price.body (defScope s__law_price) (defBody s__law_price) = true := by decide +kernel
theorem sc__law_price : FnScope n__law_price ["_law_bag_here"] (defScope s__law_price) := C8.fnScope_by (by decide +kernel)
theorem k__law_price : (gs.glb (pr20.map (·.1))).kind "_law_price" = .fn := by decide +kernel
theorem ok__law_price (X : K.In h) (G : h.Ns mainGlobals mg) (c : SaysB fa fn xs gt K) : @DefAt ⟨K⟩ mg gs (pr20.map (·.1)) "_law_price" d__law_price := by
  obtain ⟨fd, F⟩ := c.old.def_ 18 (d := e__law_price) rfl
  exact ⟨_, fd, _, _, _, _, _, n__law_price, _, by rw [k__law_price]; exact ⟨He.glo_ok X G (c.old.fact 15 (f := .glo "_law_price") rfl), F.kp⟩, F, sc__law_price, m__law_price, rfl, rfl, FunD.bindsN F fun _ _ _ _ _ _ us hl => match us, hl with | [_], _ => rfl⟩
theorem m__law_places : mB n__law_places (gs.glb (pr21.map (·.1))) d__law_places.body (defScope s__law_places) (defBody s__law_places) = true := by decide +kernel
theorem sc__law_places : FnScope n__law_places ["_law_bag_here", "_law_least", "_law_most"] (defScope s__law_places) := C8.fnScope_by (by decide +kernel)
theorem k__law_places : (gs.glb (pr21.map (·.1))).kind "_law_places" = .fn := by decide +kernel
theorem ok__law_places (X : K.In h) (G : h.Ns mainGlobals mg) (c : SaysB fa fn xs gt K) : @DefAt ⟨K⟩ mg gs (pr21.map (·.1)) "_law_places" d__law_places := by
  obtain ⟨fd, F⟩ := c.old.def_ 19 (d := e__law_places) rfl
  exact ⟨_, fd, _, _, _, _, _, n__law_places, _, by rw [k__law_places]; exact ⟨He.glo_ok X G (c.old.fact 16 (f := .glo "_law_places") rfl), F.kp⟩, F, sc__law_places, m__law_places, rfl, rfl, FunD.bindsN F fun _ _ _ _ _ _ us hl => match us, hl with | [_, _, _], _ => rfl⟩
theorem m__law_take : mB n__law_take (gs.glb (pr22.map (·.1))) d__law_take.body (defScope s__law_take) (defBody s__law_take) = true := by decide +kernel
theorem sc__law_take : FnScope n__law_take ["_law_bag_here", "_law_many"] (defScope s__law_take) := C8.fnScope_by (by decide +kernel)
theorem k__law_take : (gs.glb (pr22.map (·.1))).kind "_law_take" = .fn := by decide +kernel
theorem ok__law_take (X : K.In h) (G : h.Ns mainGlobals mg) (c : SaysB fa fn xs gt K) : @DefAt ⟨K⟩ mg gs (pr22.map (·.1)) "_law_take" d__law_take := by
  obtain ⟨fd, F⟩ := c.old.def_ 20 (d := e__law_take) rfl
  exact ⟨_, fd, _, _, _, _, _, n__law_take, _, by rw [k__law_take]; exact ⟨He.glo_ok X G (c.old.fact 17 (f := .glo "_law_take") rfl), F.kp⟩, F, sc__law_take, m__law_take, rfl, rfl, FunD.bindsN F fun _ _ _ _ _ _ us hl => match us, hl with | [_, _], _ => rfl⟩
theorem m__law_bag : mB n__law_bag (gs.glb (pr23.map (·.1))) d__law_bag.body (defScope s__law_bag) (defBody s__law_bag) = true := by decide +kernel
theorem sc__law_bag : FnScope n__law_bag ["_law_script"] (defScope s__law_bag) := C8.fnScope_by (by decide +kernel)
theorem k__law_bag : (gs.glb (pr23.map (·.1))).kind "_law_bag" = .fn := by decide +kernel
theorem ok__law_bag (X : K.In h) (G : h.Ns mainGlobals mg) (c : SaysB fa fn xs gt K) : @DefAt ⟨K⟩ mg gs (pr23.map (·.1)) "_law_bag" d__law_bag := by
  obtain ⟨fd, F⟩ := c.old.def_ 21 (d := e__law_bag) rfl
  exact ⟨_, fd, _, _, _, _, _, n__law_bag, _, by rw [k__law_bag]; exact ⟨He.glo_ok X G (c.old.fact 18 (f := .glo "_law_bag") rfl), F.kp⟩, F, sc__law_bag, m__law_bag, rfl, rfl, FunD.bindsN F fun _ _ _ _ _ _ us hl => match us, hl with | [_], _ => rfl⟩
theorem po23 : @ProgOk ⟨K⟩ mg gs pr23 := trivial
theorem po22 (X : K.In h) (G : h.Ns mainGlobals mg) (c : SaysB fa fn xs gt K) : @ProgOk ⟨K⟩ mg gs pr22 := ⟨by decide +kernel, ok__law_bag X G c, po23⟩
theorem po21 (X : K.In h) (G : h.Ns mainGlobals mg) (c : SaysB fa fn xs gt K) : @ProgOk ⟨K⟩ mg gs pr21 := ⟨by decide +kernel, ok__law_take X G c, po22 X G c⟩
theorem po20 (X : K.In h) (G : h.Ns mainGlobals mg) (c : SaysB fa fn xs gt K) : @ProgOk ⟨K⟩ mg gs pr20 := ⟨by decide +kernel, ok__law_places X G c, po21 X G c⟩
theorem po19 (X : K.In h) (G : h.Ns mainGlobals mg) (c : SaysB fa fn xs gt K) : @ProgOk ⟨K⟩ mg gs pr19 := ⟨by decide +kernel, ok__law_price X G c, po20 X G c⟩
theorem po18 (X : K.In h) (G : h.Ns mainGlobals mg) (c : SaysB fa fn xs gt K) : @ProgOk ⟨K⟩ mg gs pr18 := ⟨by decide +kernel, ok__law_gates X G c, po19 X G c⟩
theorem po17 (X : K.In h) (G : h.Ns mainGlobals mg) (c : SaysB fa fn xs gt K) : @ProgOk ⟨K⟩ mg gs pr17 := ⟨by decide +kernel, ok__law_comparisons X G c, po18 X G c⟩
theorem po16 (X : K.In h) (G : h.Ns mainGlobals mg) (c : SaysB fa fn xs gt K) : @ProgOk ⟨K⟩ mg gs pr16 := ⟨by decide +kernel, ok_is_integer X G c, po17 X G c⟩
theorem po15 (X : K.In h) (G : h.Ns mainGlobals mg) (c : SaysB fa fn xs gt K) : @ProgOk ⟨K⟩ mg gs pr15 := ⟨by decide +kernel, ok_is_between X G c, po16 X G c⟩
theorem po14 (X : K.In h) (G : h.Ns mainGlobals mg) (c : SaysB fa fn xs gt K) : @ProgOk ⟨K⟩ mg gs pr14 := ⟨by decide +kernel, ok_is_price X G c, po15 X G c⟩
theorem po13 (X : K.In h) (G : h.Ns mainGlobals mg) (c : SaysB fa fn xs gt K) : @ProgOk ⟨K⟩ mg gs pr13 := ⟨by decide +kernel, ok_is_comparison X G c, po14 X G c⟩
theorem po12 (X : K.In h) (G : h.Ns mainGlobals mg) (c : SaysB fa fn xs gt K) : @ProgOk ⟨K⟩ mg gs pr12 := ⟨by decide +kernel, ok_Schedule_m___init__ X G c, po13 X G c⟩
theorem po11 (X : K.In h) (G : h.Ns mainGlobals mg) (c : SaysB fa fn xs gt K) : @ProgOk ⟨K⟩ mg gs pr11 := ⟨by decide +kernel, ok__law_compared X G c, po12 X G c⟩
theorem po10 (X : K.In h) (G : h.Ns mainGlobals mg) (c : SaysB fa fn xs gt K) : @ProgOk ⟨K⟩ mg gs pr10 := ⟨by decide +kernel, ok__law_layers X G c, po11 X G c⟩
theorem po9 (X : K.In h) (G : h.Ns mainGlobals mg) (c : SaysB fa fn xs gt K) : @ProgOk ⟨K⟩ mg gs pr9 := ⟨by decide +kernel, ok_free_table X G c, po10 X G c⟩
theorem po8 (X : K.In h) (G : h.Ns mainGlobals mg) (c : SaysB fa fn xs gt K) : @ProgOk ⟨K⟩ mg gs pr8 := ⟨by decide +kernel, ok_Schedule_m_places X G c, po9 X G c⟩
theorem po7 (X : K.In h) (G : h.Ns mainGlobals mg) (c : SaysB fa fn xs gt K) : @ProgOk ⟨K⟩ mg gs pr7 := ⟨by decide +kernel, ok_Schedule_m_gates X G c, po8 X G c⟩
theorem po6 (X : K.In h) (G : h.Ns mainGlobals mg) (c : SaysB fa fn xs gt K) : @ProgOk ⟨K⟩ mg gs pr6 := ⟨by decide +kernel, ok_passed X G c, po7 X G c⟩
theorem po5 (X : K.In h) (G : h.Ns mainGlobals mg) (c : SaysB fa fn xs gt K) : @ProgOk ⟨K⟩ mg gs pr5 := ⟨by decide +kernel, ok_compare_layers X G c, po6 X G c⟩
theorem po4 (X : K.In h) (G : h.Ns mainGlobals mg) (c : SaysB fa fn xs gt K) : @ProgOk ⟨K⟩ mg gs pr4 := ⟨by decide +kernel, ok_layers X G c, po5 X G c⟩
theorem po3 (X : K.In h) (G : h.Ns mainGlobals mg) (c : SaysB fa fn xs gt K) : @ProgOk ⟨K⟩ mg gs pr3 := ⟨by decide +kernel, ok__law_alike X G c, po4 X G c⟩
theorem po2 (X : K.In h) (G : h.Ns mainGlobals mg) (c : SaysB fa fn xs gt K) : @ProgOk ⟨K⟩ mg gs pr2 := ⟨by decide +kernel, ok__law_each_own X G c, po3 X G c⟩
theorem po1 (X : K.In h) (G : h.Ns mainGlobals mg) (c : SaysB fa fn xs gt K) : @ProgOk ⟨K⟩ mg gs pr1 := ⟨by decide +kernel, ok_Schedule_m_comparisons X G c, po2 X G c⟩
theorem po0 (X : K.In h) (G : h.Ns mainGlobals mg) (c : SaysB fa fn xs gt K) : @ProgOk ⟨K⟩ mg gs pr0 := ⟨by decide +kernel, ok_law X G c, po1 X G c⟩
end
end WK34
open PySem PySem.W PySem.Calls PyProof.Rows
theorem PySem.Challenge.cw_bearsmisses_k34_layers_great_holds : PySem.Challenge.rw_bearsmisses_k34_layers_great.Holds := by
  w_on; o_law
  refine HandSHeadRun.head_any (r := OpenLaw.row PySem.Challenge.rw_bearsmisses_k34_layers_great) (q := view (OpenLaw.row PySem.Challenge.rw_bearsmisses_k34_layers_great).prog [34]) (H := WK34.hk) (ob := WK34.ob) (M := 3000) (loose := WK34.lo0 ++ WK34.lo1) (d := HandSHeadRun.topDef (OpenLaw.row PySem.Challenge.rw_bearsmisses_k34_layers_great).prog 34) (kwd := []) WK34.ob_eq
    (by kernel_rfl) (fun s => by kernel_rfl) WK34.run (by kernel_rfl) (by kernel_rfl) (by kernel_rfl) (by rfl) (by first | assumption | decide +kernel) (by decide +kernel) ⟨rfl, rfl, rfl, rfl, rfl, by decide +kernel⟩ ?hw ?hc
  case hw => w_witness2
  case hc =>
    have nm : (HandSHeadRun.topDef (OpenLaw.row PySem.Challenge.rw_bearsmisses_k34_layers_great).prog 34).name = ("law" : PySem.Str) := by kernel_rfl
    refine Bm.walk_bm (l := PySem.Challenge.rw_bearsmisses_k34_layers_great) (n := 63) (pr := WK34.pr0) (gs := WK34.gs) rfl (by decide) (by kernel_rfl) ⟨rfl, by decide, by decide⟩ (by rw [nm]; decide +kernel) (by rw [nm]; decide +kernel) (fun w mg fa h Y G hm => ?_) (fun ns hl => ?_)
    · obtain ⟨K, KX, c⟩ := Y
      exact ⟨K, KX, WK34.globs KX G c, WK34.po0 KX G c⟩
    · rw [nm]
      exact WK34.main ns hl

