import PyProof.Rows.All
import Wide.All
import OpenK.AllK
import Wide.FinOn
import HandS.ForMost
import HandS.Flow
import HandS.Style
import HandS.Wide
import HandS.IsInst
import HandS.Deep
import HandS.Zip
import HandS.SortKw
import HandS.SortInts
import HandS.Strs
import HandS.SetKeys
import HandS.StrMore
import HandS.StrSplit
import HandS.TupAny
import HandS.TupLe
import HandS.NoneIn
import HandS.Rev
import PyProof.Rows.IntBool
import HandS.WordsExc
import HandS.ExcOwn
import HandS.TryMany
import HandS.ExcIs
import HandS.RaiseMore
import PyProof.ExcBaseAll.ValueError
import HandS.SetFor
import HandS.SortRule
import HandS.ListItems
import KE.SortData
import HandS.Conv
import KE.GoesEnum
import HandS.Codes
import PyProof.TableCode
import PySem.Challenge.RW_fewregisters_k16_main_places_of_shapes
/-! A small evaluator over plain data: the part of the language that the program and the laws use, lists as values, one owner for what is changed. -/
set_option linter.all false
namespace Mi

inductive D where
  | non | bl (b : Bool) | int (i : Int) | str (s : List Nat) | tup (xs : List D) | lst (xs : List D)
  | dct (t : Nat) (ks vs : List D) | fn (f : Nat) | cell | frl (xs : List D) | frt (xs : List D) | frd (ks vs : List D)
  deriving Inhabited, Repr

mutual
def eqD : D → D → Bool
  | .non, .non => true
  | .bl a, .bl b => a == b
  | .bl a, .int b => (if a then 1 else 0) == b
  | .int a, .bl b => a == (if b then 1 else 0)
  | .int a, .int b => a == b
  | .str a, .str b => a == b
  | .tup a, .tup b => eqDs a b
  | .lst a, .lst b => eqDs a b
  | _, _ => false
def eqDs : List D → List D → Bool
  | [], [] => true
  | a :: as, b :: bs => eqD a b && eqDs as bs
  | _, _ => false
end
mutual
/-- plain data, of which == is asked -/
def okD : D → Bool
  | .non => true | .bl _ => true | .int _ => true | .str _ => true
  | .tup xs => okDs xs | .lst xs => okDs xs
  | _ => false
def okDs : List D → Bool
  | [] => true
  | a :: as => okD a && okDs as
end
mutual
def dep : D → Nat
  | .tup xs => deps xs + 1 | .lst xs => deps xs + 1
  | _ => 0
def deps : List D → Nat
  | [] => 0
  | a :: as => max (dep a) (deps as)
end
mutual
def ltD : D → D → Option Bool
  | .int a, .int b => some (decide (a < b))
  | .str a, .str b => some (decide (a < b))
  | .tup a, .tup b => ltDs a b
  | _, _ => none
def ltDs : List D → List D → Option Bool
  | [], [] => some false
  | [], _ :: _ => some true
  | _ :: _, [] => some false
  | a :: as, b :: bs => if eqD a b then ltDs as bs else ltD a b
end
/-- stable sort by insertion; none if two are not comparable -/
def insD (x : D) : List D → Option (List D)
  | [] => some [x]
  | y :: ys => match ltD y x with
    | some true => (insD x ys).map (y :: ·)
    | some false => some (x :: y :: ys)
    | none => none
def sortD : List D → Option (List D)
  | [] => some []
  | x :: xs => (sortD xs).bind (insD x)
def dedup : List D → List D → List D
  | acc, [] => acc
  | acc, x :: xs => if acc.any (eqD x) then dedup acc xs else dedup (acc ++ [x]) xs

def insI (x : Int) : List Int → List Int
  | [] => [x]
  | y :: ys => if x ≤ y then x :: y :: ys else y :: insI x ys
def sortI : List Int → List Int
  | [] => []
  | x :: xs => insI x (sortI xs)
def dedupI : List Int → List Int
  | [] => []
  | x :: xs => if (dedupI xs).contains x then dedupI xs else x :: dedupI xs
def lexP (a b : Int × Int) : Bool := decide (a.1 < b.1) || (decide (a.1 = b.1) && decide (a.2 < b.2))
def insP (x : Int × Int) : List (Int × Int) → List (Int × Int)
  | [] => [x]
  | y :: ys => if lexP y x then y :: insP x ys else x :: y :: ys
def sortP : List (Int × Int) → List (Int × Int)
  | [] => []
  | x :: xs => insP x (sortP xs)

def sizeMost : Nat := 16777216

mutual
/-- comparable by <, place by place -/
def alikeD : D → D → Bool
  | .non, .non => true
  | .bl _, .bl _ => true
  | .int _, .int _ => true
  | .str _, .str _ => true
  | .tup a, .tup b => alikeDs a b
  | .lst a, .lst b => alikeDs a b
  | _, _ => false
def alikeDs : List D → List D → Bool
  | a :: as, b :: bs => alikeD a b && alikeDs as bs
  | [], _ => true
  | _ :: _, [] => true
end
mutual
def ltB : D → D → Bool
  | .bl a, .bl b => !a && b
  | .int a, .int b => decide (a < b)
  | .str a, .str b => decide (a < b)
  | .tup a, .tup b => ltBs a b
  | .lst a, .lst b => ltBs a b
  | _, _ => false
def ltBs : List D → List D → Bool
  | [], [] => false
  | [], _ :: _ => true
  | _ :: _, [] => false
  | a :: as, b :: bs => if eqD a b then ltBs as bs else ltB a b
end
def insG (lt : D → D → Bool) (x : D) : List D → List D
  | [] => [x]
  | y :: ys => if lt y x then y :: insG lt x ys else x :: y :: ys
def sortG (lt : D → D → Bool) : List D → List D
  | [] => []
  | x :: xs => insG lt x (sortG lt xs)
def sortB (xs : List D) : List D := sortG ltB xs
def isTupD : D → Bool
  | .tup _ => true
  | _ => false
def isNonD : D → Bool
  | .non => true
  | _ => false
/-- what can be sorted -/
def sortOk (xs : List D) : Bool := okDs xs && decide (deps xs ≤ 100) && (xs.all fun x => xs.all (alikeD x)) && (xs.all isTupD || xs.all fun d => !isTupD d && !isNonD d) && decide (xs.length ≤ sizeMost)

inductive BOp where | add | sub | mul | fdiv | mod | pow
  deriving DecidableEq, Repr
inductive COp where | eq | ne | lt | le | gt | ge | is | isnt | isin | notin
  deriving DecidableEq, Repr
inductive Ty where | int | bool | str | tuple | list
  deriving DecidableEq, Repr
inductive Bi where
  | len | abs | int | str | sum | max1 | min1 | max2 | min2 | all | any | tuple | list | dict (t : Nat) | sorted | sortedSet | lenSet | sortedItems
  | get | join | count | index | split | rangeL1 | rangeL2 | rangeT1 | rangeT2
  deriving DecidableEq, Repr

mutual
inductive Tg where
  | v (i : Nat) | tp (ts : Tgs)
inductive Tgs where
  | nil | cons (t : Tg) (ts : Tgs)
end

mutual
inductive E where
  | v (i : Nat) | b (i : Nat) | lit (d : D) | gc (d : D)
  | tup (es : Es) | lst (es : Es) | dsp (t : Nat) (kvs : Es)
  | bin (op : BOp) (a b : E) | neg (a : E) | not (a : E)
  | and (e : E) (es : Es) | or (e : E) (es : Es)
  | cmp (op : COp) (a b : E) | chain (op op' : COp) (a b c : E)
  | ite (c a b : E)
  | call (f : Nat) (es : Es)
  | callv (g : E) (es : Es)
  | isi (e : E) (tys : List Ty)
  | bi (f : Bi) (es : Es)
  | idx (a i : E) | sl (a : E) (lo hi : Oe) | rev (a : E)
  | comp (e : E) (g : G) | comp2 (e : E) (g g2 : G)
inductive Es where
  | nil | cons (e : E) (es : Es)
inductive Oe where
  | no | so (e : E)
inductive G where
  | mk (t : Tg) (it : It) (c : Oe)
inductive It where
  | e (e : E) | b (i : Nat) | range1 (a : E) | range2 (a b : E) | range3 (a b c : E) | enum (e : E) | zip (a b : E)
end

mutual
inductive S where
  | asg (t : Tg) (e : E) | asgO (i : Nat) (e : E)
  | par (is : List (Nat × Bool)) (es : Es)
  | setI (i : Nat) (k e : E)
  | aug (i : Nat) (op : BOp) (e : E)
  | app (i : Nat) (e : E) | ext (i : Nat) (e : E)
  | popTo (t : Tg) (i : Nat)
  | frz (i : Nat)
  | ret (e : E) | retO (i : Nat) | retN
  | ifs (c : E) (a b : Ss) | whl (c : E) (b : Ss) | for_ (t : Tg) (it : It) (b : Ss)
  | brk | cont | pass
  | raise (cls : Nat) (es : Es)
  | slip (f : Nat) (es : Es)
inductive Ss where
  | nil | cons (s : S) (r : Ss)
end

structure FDef where
  name : String
  params : Nat
  names : List String
  body : Ss
  fresh : Bool := false
  /-- nothing is said of what it raises -/
  mute : Bool := true

/-- what a call comes to: a value and the cells; an exception; or nothing is said -/
inductive R (α : Type) where
  | ok (a : α) (C : List Int) | ex (cls : Nat) (arg : Option D) (C : List Int) | bad
  deriving Repr, Inhabited
@[reducible] def R.bind {α β : Type} (x : R α) (f : α → List Int → R β) : R β := match x with
  | .ok a C => f a C
  | .ex c a C => .ex c a C
  | .bad => .bad
def R.of {α : Type} (o : Option α) (C : List Int) : R α := match o with
  | some a => .ok a C
  | none => .bad

inductive Sl where
  | emp | val (d : D) | ol (xs : List D) | od (t : Nat) (ks vs : List D)
  deriving Repr, Inhabited
/-- what the one box of draws holds -/
abbrev Cells := List Int
abbrev Call := Nat → List D → Cells → R D

mutual
def Tg.vars : Tg → List Nat
  | .v i => [i]
  | .tp ts => Tgs.vars ts
def Tgs.vars : Tgs → List Nat
  | .nil => []
  | .cons t ts => Tg.vars t ++ Tgs.vars ts
end

mutual
def bindT : Tg → D → List Sl → Option (List Sl)
  | .v i, d, σ => if i < σ.length then some (σ.set i (.val d)) else none
  | .tp ts, d, σ => match d with
    | .tup xs => bindTs ts xs σ
    | _ => none
def bindTs : Tgs → List D → List Sl → Option (List Sl)
  | .nil, xs, σ => if xs.isEmpty then some σ else none
  | .cons t ts, xs, σ => match xs with
    | x :: xs => (bindT t x σ).bind (bindTs ts xs)
    | [] => none
end

def truthD : D → Option Bool
  | .non => some false
  | .bl b => some b
  | .int i => some (i != 0)
  | .str s => some (!s.isEmpty)
  | .tup xs => some (!xs.isEmpty)
  | .lst xs => some (!xs.isEmpty)
  | _ => none

/-- products that the machine surely does: one factor short, or both together below a million bits -/
def mulOk (i j : Int) : Bool :=
  decide (i.natAbs < 2 ^ 64) || decide (j.natAbs < 2 ^ 64) || decide (i.natAbs.log2 + j.natAbs.log2 < 1000000)
def binD : BOp → D → D → Option D
  | .add, .int i, .int j => some (.int (i + j))
  | .add, .str s, .str t => if s.length + t.length ≤ sizeMost then some (.str (s ++ t)) else none
  | .add, .lst s, .lst t => if s.length + t.length ≤ sizeMost then some (.lst (s ++ t)) else none
  | .add, .tup s, .tup t => if s.length + t.length ≤ sizeMost then some (.tup (s ++ t)) else none
  | .sub, .int i, .int j => some (.int (i - j))
  | .sub, .bl i, .bl j => some (.int ((if i = true then 1 else 0) - (if j = true then 1 else 0)))
  | .mul, .int i, .int j => if mulOk i j then some (.int (i * j)) else none
  | .fdiv, .int i, .int j => if 0 < j ∧ j.natAbs.log2 < 9000 then some (.int (i / j)) else none
  | .mod, .int i, .int j => if 0 < j then some (.int (i % j)) else none
  | .pow, .int i, .int j => if 0 ≤ j ∧ j ≤ 1000000 ∧ i.natAbs < 2 ^ 64 then some (.int (i ^ j.toNat)) else none
  | _, _, _ => none

def lookD : List D → List D → D → Option D
  | k :: ks, v :: vs, x => if eqD k x then some v else lookD ks vs x
  | _, _, _ => none
def hasD (ks : List D) (x : D) : Bool := ks.any fun k => eqD k x
def putVs : List D → List D → D → D → List D
  | k :: ks, w :: ws, x, v => if eqD k x then v :: ws else w :: putVs ks ws x v
  | _, _, _, v => [v]
def putKs (ks : List D) (x : D) : List D := if hasD ks x then ks else ks ++ [x]

def flatB : D → Bool
  | .non => true | .bl _ => true | .int _ => true | .str _ => true | _ => false
/-- keys of a dict: ints, texts; tuples of them -/
def keyK : D → Bool
  | .int _ => true | .str _ => true | _ => false
def keyT : D → Bool
  | .tup xs => xs.all keyK | _ => false
def keyOk : Nat → D → Bool
  | 0, x => keyK x
  | 1, x => keyT x
  | _, _ => false
def inD : D → D → Option Bool
  | x, .tup ys => if okD x && okDs ys && (decide (dep x ≤ 200) || decide (deps ys ≤ 200)) then some (ys.any fun y => eqD y x) else none
  | x, .lst ys => if okD x && okDs ys && (decide (dep x ≤ 200) || decide (deps ys ≤ 200)) then some (ys.any fun y => eqD y x) else none
  | x, .frt ys => if okD x && okDs ys && (decide (dep x ≤ 200) || decide (deps ys ≤ 200)) then some (ys.any fun y => eqD y x) else none
  | .str [c], .str b => some (decide (c ∈ b))
  | x, .dct t ks _ => if keyOk t x then some (hasD ks x) else none
  | _, _ => none
def nonD : D → Bool
  | .non => true
  | _ => false
def cmpD : COp → D → D → Option D
  | .eq, a, b => if okD a && okD b && (decide (dep a ≤ 200) || decide (dep b ≤ 200)) then some (.bl (eqD a b)) else none
  | .ne, a, b => if okD a && okD b && (decide (dep a ≤ 200) || decide (dep b ≤ 200)) then some (.bl (!eqD a b)) else none
  | .lt, .int i, .int j => some (.bl (decide (i < j)))
  | .le, .int i, .int j => some (.bl (decide (i ≤ j)))
  | .gt, .int i, .int j => some (.bl (decide (j < i)))
  | .ge, .int i, .int j => some (.bl (decide (j ≤ i)))
  | .lt, .str i, .str j => some (.bl (decide (i < j)))
  | .le, .str i, .str j => some (.bl (!decide (j < i)))
  | .gt, .str i, .str j => some (.bl (decide (j < i)))
  | .ge, .str i, .str j => some (.bl (!decide (i < j)))
  | .is, a, .non => some (.bl (nonD a))
  | .isnt, a, .non => some (.bl (!nonD a))
  | .isin, a, b => (inD a b).map .bl
  | .notin, a, b => (inD a b).map fun k => .bl (!k)
  | _, _, _ => none

def tyD : Ty → D → Bool
  | .int, .int _ => true | .int, .bl _ => true
  | .bool, .bl _ => true
  | .str, .str _ => true
  | .tuple, .tup _ => true
  | .list, .lst _ => true
  | _, _ => false
def tyOk : D → Bool
  | .fn _ => false | .cell => false | .frl _ => false | .frt _ => false | .frd _ _ => false | .dct _ _ _ => false | _ => true

/-- an index as Python takes it -/
def ixD (n : Nat) (i : Int) : Option Nat :=
  if 0 ≤ i then (if i < n then some i.toNat else none) else if -(n : Int) ≤ i then some (i + n).toNat else none
def atD (xs : List D) (i : Int) : Option D := (ixD xs.length i).bind fun j => xs[j]?
def atN (xs : List Nat) (i : Int) : Option Nat := (ixD xs.length i).bind fun j => xs[j]?
def idxD (C : Cells) : D → D → Option D
  | .tup xs, .int i => atD xs i
  | .lst xs, .int i => atD xs i
  | .str s, .int i => (atN s i).map fun c => .str [c]
  | .dct t ks vs, x => if keyOk t x then lookD ks vs x else none
  | .cell, .int i => ((ixD C.length i).bind fun j => C[j]?).map .int
  | _, _ => none
def cutIx (n d : Nat) : Option Int → Nat
  | none => d
  | some v => if v < 0 then (v + (n : Int)).toNat else min v.toNat n
def cutL {α : Type} (xs : List α) (lo hi : Option Int) : List α :=
  (xs.drop (cutIx xs.length 0 lo)).take (cutIx xs.length xs.length hi - cutIx xs.length 0 lo)
def slD : D → Option Int → Option Int → Option D
  | .tup xs, lo, hi => some (.tup (cutL xs lo hi))
  | .lst xs, lo, hi => some (.lst (cutL xs lo hi))
  | .frl xs, lo, hi => some (.lst (cutL xs lo hi))
  | .str s, lo, hi => some (.str (cutL s lo hi))
  | _, _, _ => none
def intD : D → Option Int
  | .int i => some i
  | _ => none
def intsD : List D → Option (List Int)
  | [] => some []
  | .int i :: r => (intsD r).map (i :: ·)
  | _ => none
def boolsD : List D → Option (List Bool)
  | [] => some []
  | .bl i :: r => (boolsD r).map (i :: ·)
  | _ => none
def strsD : List D → Option (List (List Nat))
  | [] => some []
  | .str i :: r => (strsD r).map (i :: ·)
  | _ => none
def maxI : List Int → Option Int
  | [] => none
  | x :: xs => some (xs.foldl (fun a b => if b > a then b else a) x)
def minI : List Int → Option Int
  | [] => none
  | x :: xs => some (xs.foldl (fun a b => if b < a then b else a) x)
def decStr (i : Int) : List Nat := (toString i).toList.map Char.toNat
def countD (xs : List D) (x : D) : Nat := (xs.filter fun y => eqD y x).length
def indexD : List D → D → Option Nat
  | [], _ => none
  | y :: ys, x => if eqD y x then some 0 else (indexD ys x).map (· + 1)
def joinN (sep : List Nat) : List (List Nat) → List Nat
  | [] => []
  | [x] => x
  | x :: xs => x ++ sep ++ joinN sep xs
def pairsD : List D → Option (List D × List D)
  | [] => some ([], [])
  | .tup [k, v] :: r => (pairsD r).map fun p => (k :: p.1, v :: p.2)
  | _ => none
def mergeD : List D → List D → List D → List D → List D × List D
  | ks, vs, k :: r, v :: w => mergeD (putKs ks k) (putVs ks vs k v) r w
  | ks, vs, _, _ => (ks, vs)
def evensD : List D → Option (List D × List D)
  | [] => some ([], [])
  | k :: v :: r => (evensD r).map fun p => (k :: p.1, v :: p.2)
  | _ => none
def dictD (t : Nat) : Option (List D × List D) → Option D
  | some p => if p.1.all (keyOk t) then (let q := mergeD [] [] p.1 p.2; some (.dct t q.1 q.2)) else none
  | none => none
def rangeD (lo : Int) (n : Nat) : List D := (List.range n).map fun i => .int (lo + (i : Nat))
def lstD : D → Option (List D)
  | .lst xs => some xs
  | _ => none
def seqD : D → Option (List D)
  | .tup xs => some xs
  | .lst xs => some xs
  | _ => none

def rngOk (i j : Int) : Bool := decide (-(2 ^ 62) ≤ i) && decide (i < 2 ^ 62) && decide (-(2 ^ 62) ≤ j) && decide (j < 2 ^ 62)
def rgOk (i j : Int) : Bool := rngOk i j && decide ((j - i).toNat ≤ sizeMost)

def biD : Bi → List D → Option D
  | .len, [.tup xs] => some (.int xs.length)
  | .len, [.lst xs] => some (.int xs.length)
  | .len, [.str s] => some (.int s.length)
  | .len, [.dct 0 ks _] => some (.int ks.length)
  | .abs, [.int i] => some (.int (if i < 0 then -i else i))
  | .int, [.int i] => some (.int i)
  | .int, [.bl k] => some (.int (if k then 1 else 0))
  | .str, [.int i] => if i.natAbs.log2 < 1920 then some (.str (decStr i)) else none
  | .str, [.str s] => some (.str s)
  | .sum, [.lst xs] => (intsD xs).map fun ns => .int ns.sum
  | .max1, [.lst xs] => (intsD xs).bind fun ns => (maxI ns).map .int
  | .min1, [.lst xs] => (intsD xs).bind fun ns => (minI ns).map .int
  | .max2, [.int i, .int j] => some (.int (if j > i then j else i))
  | .min2, [.int i, .int j] => some (.int (if j < i then j else i))
  | .all, [.lst xs] => (boolsD xs).map fun bs => .bl (bs.all id)
  | .any, [.lst xs] => (boolsD xs).map fun bs => .bl (bs.any id)
  | .tuple, [.tup xs] => some (.tup xs)
  | .tuple, [.lst xs] => some (.tup xs)
  | .list, [.tup xs] => some (.lst xs)
  | .list, [.lst xs] => some (.lst xs)
  | .dict 0, [.lst xs] => dictD 0 (pairsD xs)
  | .dict 1, [.lst xs] => dictD 1 (pairsD xs)
  | .dict 0, [.dct 0 ks vs] => some (.dct 0 ks vs)
  | .sorted, [.lst xs] => match intsD xs with
    | some ns => some (.lst ((sortI ns).map .int))
    | none => if sortOk xs then some (.lst (sortB xs)) else none
  | .sorted, [.dct 0 ks _] => if ks.length < 64 then (intsD ks).map fun ns => .lst ((sortI ns).map .int) else none
  | .sorted, [.dct 1 ks _] => if sortOk ks then some (.lst (sortB ks)) else none
  | .sortedSet, [.lst xs] => (intsD xs).bind fun ns => if xs.length < 4000 ∧ (dedupI ns).length < 64 then some (.lst ((sortI (dedupI ns)).map .int)) else none
  | .sortedItems, [.dct 0 ks vs] => (intsD ks).bind fun ns => (intsD vs).bind fun ms => some (.lst ((sortP (List.zip ns ms)).map fun p => .tup [.int p.1, .int p.2]))
  | .lenSet, [.lst xs] => some (.int (dedup [] xs).length)
  | .lenSet, [.tup xs] => some (.int (dedup [] xs).length)
  | .get, [.dct t ks vs, k, x] => if keyOk t k then some ((lookD ks vs k).getD x) else none
  | .join, [.str s, .lst xs] => (strsD xs).bind fun ys => let z := joinN s ys; if z.length ≤ sizeMost then some (.str z) else none
  | .join, [.str s, .tup xs] => (strsD xs).bind fun ys => let z := joinN s ys; if z.length ≤ sizeMost then some (.str z) else none
  | .count, [.lst xs, .int k] => (intsD xs).map fun ns => .int (ns.count k : Nat)
  | .index, [.lst xs, x] => if okD x && okDs xs then (indexD xs x).map fun n => .int n else none
  | .rangeL1, [.int j] => if rgOk 0 j then some (.lst (rangeD 0 j.toNat)) else none
  | .rangeL2, [.int i, .int j] => if rgOk i j then some (.lst (rangeD i (j - i).toNat)) else none
  | .rangeT1, [.int j] => if rgOk 0 j then some (.tup (rangeD 0 j.toNat)) else none
  | .rangeT2, [.int i, .int j] => if rgOk i j then some (.tup (rangeD i (j - i).toNat)) else none
  | _, _ => none

def itemsD : D → Option (List D)
  | .tup xs => some xs
  | .lst xs => some xs
  | .str s => some (s.map fun c => .str [c])
  | .dct _ ks _ => some ks
  | _ => none

def slotD : Option Sl → Option D
  | some (.val d) => some d
  | _ => none
def slotB : Option Sl → Option D
  | some (.ol xs) => some (.lst xs)
  | some (.od t ks vs) => some (.dct t ks vs)
  | _ => none

def wipeS (σ : List Sl) : List Nat → List Sl
  | [] => σ
  | v :: vs => (wipeS σ vs).set v .emp

/-- the loop of a comprehension -/
def loopC (f : D → Cells → R (List D)) : List D → Cells → R (List D)
  | [], C => .ok [] C
  | x :: xs, C => (f x C).bind fun ys C1 => (loopC f xs C1).bind fun zs C2 => .ok (ys ++ zs) C2

variable (cl : Call)
mutual
def ev : E → List Sl → Cells → R D
  | .v i, σ, C => .of (slotD σ[i]?) C
  | .b i, σ, C => .of (slotB σ[i]?) C
  | .lit d, _, C => .ok d C
  | .gc d, _, C => .ok d C
  | .tup es, σ, C => (evs es σ C).bind fun xs C => .ok (.tup xs) C
  | .lst es, σ, C => (evs es σ C).bind fun xs C => .ok (.lst xs) C
  | .dsp t kvs, σ, C => (evs kvs σ C).bind fun xs C => .of (dictD t (evensD xs)) C
  | .bin op a b, σ, C => (ev a σ C).bind fun x C => (ev b σ C).bind fun y C => .of (binD op x y) C
  | .neg a, σ, C => (ev a σ C).bind fun x C => .of ((intD x).map fun i => .int (-i)) C
  | .not a, σ, C => (ev a σ C).bind fun x C => .of ((truthD x).map fun k => .bl (!k)) C
  | .and e es, σ, C => (ev e σ C).bind fun x C => evAnd es x σ C
  | .or e es, σ, C => (ev e σ C).bind fun x C => evOr es x σ C
  | .cmp op a b, σ, C => (ev a σ C).bind fun x C => (ev b σ C).bind fun y C => .of (cmpD op x y) C
  | .chain op op' a b c, σ, C => (ev a σ C).bind fun x C => (ev b σ C).bind fun y C => match cmpD op x y with
    | some (.bl true) => (ev c σ C).bind fun z C => .of (cmpD op' y z) C
    | some (.bl false) => .ok (.bl false) C
    | _ => .bad
  | .ite c a b, σ, C => (ev c σ C).bind fun x C => match truthD x with
    | some true => ev a σ C
    | some false => ev b σ C
    | none => .bad
  | .call f es, σ, C => (evs es σ C).bind fun xs C => cl f xs C
  | .callv g es, σ, C => (ev g σ C).bind fun x C => (evs es σ C).bind fun xs C => match x with
    | .fn f => cl f xs C
    | _ => .bad
  | .isi e tys, σ, C => (ev e σ C).bind fun x C => if tyOk x then .ok (.bl (tys.any fun t => tyD t x)) C else .bad
  | .bi f es, σ, C => (evs es σ C).bind fun xs C => .of (biD f xs) C
  | .idx a i, σ, C => (ev a σ C).bind fun x C => (ev i σ C).bind fun y C => .of (idxD C x y) C
  | .sl a lo hi, σ, C => (ev a σ C).bind fun x C => (evo lo σ C).bind fun l C => (evo hi σ C).bind fun h C => .of (slD x l h) C
  | .rev a, σ, C => (ev a σ C).bind fun x C => match x with
    | .lst xs => .ok (.lst xs.reverse) C
    | .tup xs => .ok (.tup xs.reverse) C
    | _ => .bad
  | .comp e (.mk t it c), σ, C => (evi it σ C).bind fun xs C => (loopC (fun x C => match bindT t x (wipeS σ t.vars) with
      | none => .bad
      | some σ' => (evc c σ' C).bind fun k C => if k then (ev e σ' C).bind fun y C => .ok [y] C else .ok [] C) xs C).bind fun ys C =>
        if ys.length ≤ sizeMost then .ok (.lst ys) C else .bad
  | .comp2 e (.mk t it c) (.mk t2 it2 c2), σ, C => (evi it σ C).bind fun xs C => (loopC (fun x C => match bindT t x (wipeS σ (t.vars ++ t2.vars)) with
      | none => .bad
      | some σ' => (evc c σ' C).bind fun k C => if k then (evi it2 σ' C).bind fun zs C => loopC (fun z C => match bindT t2 z (wipeS σ' t2.vars) with
          | none => .bad
          | some σ2 => (evc c2 σ2 C).bind fun k2 C => if k2 then (ev e σ2 C).bind fun y C => .ok [y] C else .ok [] C) zs C else .ok [] C) xs C).bind fun ys C =>
        if ys.length ≤ sizeMost then .ok (.lst ys) C else .bad
def evs : Es → List Sl → Cells → R (List D)
  | .nil, _, C => .ok [] C
  | .cons e es, σ, C => (ev e σ C).bind fun x C => (evs es σ C).bind fun xs C => .ok (x :: xs) C
def evAnd : Es → D → List Sl → Cells → R D
  | .nil, x, _, C => .ok x C
  | .cons e es, x, σ, C => match truthD x with
    | some true => (ev e σ C).bind fun y C => evAnd es y σ C
    | some false => .ok x C
    | none => .bad
def evOr : Es → D → List Sl → Cells → R D
  | .nil, x, _, C => .ok x C
  | .cons e es, x, σ, C => match truthD x with
    | some true => .ok x C
    | some false => (ev e σ C).bind fun y C => evOr es y σ C
    | none => .bad
def evo : Oe → List Sl → Cells → R (Option Int)
  | .no, _, C => .ok none C
  | .so e, σ, C => (ev e σ C).bind fun x C => match x with
    | .int i => .ok (some i) C
    | _ => .bad
def evc : Oe → List Sl → Cells → R Bool
  | .no, _, C => .ok true C
  | .so e, σ, C => (ev e σ C).bind fun x C => .of (truthD x) C
def evi : It → List Sl → Cells → R (List D)
  | .e e, σ, C => (ev e σ C).bind fun x C => .of (itemsD x) C
  | .b i, σ, C => match slotB σ[i]? with
    | some (.lst xs) => .ok xs C
    | _ => .bad
  | .range1 a, σ, C => (ev a σ C).bind fun x C => match x with
    | .int j => if rngOk 0 j then .ok (rangeD 0 j.toNat) C else .bad
    | _ => .bad
  | .range2 a b, σ, C => (ev a σ C).bind fun x C => (ev b σ C).bind fun y C => match x, y with
    | .int i, .int j => if rngOk i j then .ok (rangeD i (j - i).toNat) C else .bad
    | _, _ => .bad
  | .range3 a b c, σ, C => (ev a σ C).bind fun x C => (ev b σ C).bind fun y C => (ev c σ C).bind fun z C => match x, y, z with
    | .int i, .int j, .int k => if rngOk i j && k == -1 then .ok ((List.range (i - j).toNat).map fun n => .int (i - (n : Nat))) C
      else if rngOk i j && decide (0 < k) && decide (k < 1000) then .ok ((List.range ((j - i + k - 1) / k).toNat).map fun n => .int (i + (n : Nat) * k)) C else .bad
    | _, _, _ => .bad
  | .enum e, σ, C => (ev e σ C).bind fun x C => .of ((seqD x).map fun xs => List.zipWith (fun n y => .tup [.int (n : Nat), y]) (List.range xs.length) xs) C
  | .zip a b, σ, C => (ev a σ C).bind fun x C => (ev b σ C).bind fun y C => match x, y with
    | .lst xs, .lst ys => .ok (List.zipWith (fun x y => .tup [x, y]) xs ys) C
    | .tup xs, .tup ys => .ok (List.zipWith (fun x y => .tup [x, y]) xs ys) C
    | _, _ => .bad
end

inductive Fl where
  | nx (σ : List Sl) | rt (d : D) | bk (σ : List Sl) | ct (σ : List Sl)
  deriving Repr, Inhabited

/-- how often a while may turn at most -/
def mostTurns : Nat := 1000000000000

def loopS (f : D → List Sl → Cells → R Fl) : List D → List Sl → Cells → R Fl
  | [], σ, C => .ok (.nx σ) C
  | x :: xs, σ, C => (f x σ C).bind fun o C => match o with
    | .nx σ => loopS f xs σ C
    | .ct σ => loopS f xs σ C
    | .bk σ => .ok (.nx σ) C
    | .rt d => .ok (.rt d) C
def loopW (c : List Sl → Cells → R Bool) (f : List Sl → Cells → R Fl) : Nat → List Sl → Cells → R Fl
  | 0, _, _ => .bad
  | n + 1, σ, C => (c σ C).bind fun k C => if k then (f σ C).bind fun o C => match o with
    | .nx σ => loopW c f n σ C
    | .ct σ => loopW c f n σ C
    | .bk σ => .ok (.nx σ) C
    | .rt d => .ok (.rt d) C
    else .ok (.nx σ) C

def parS : List (Nat × Bool) → List D → List Sl → Option (List Sl)
  | [], [], σ => some σ
  | (i, own) :: is, x :: xs, σ => if i < σ.length then (match own, x with
      | true, .lst ys => parS is xs (σ.set i (.ol ys))
      | true, .dct t ks vs => parS is xs (σ.set i (.od t ks vs))
      | true, _ => none
      | false, x => parS is xs (σ.set i (.val x))) else none
  | _, _, _ => none

/-- what is told of an error that a call raises -/
def slipR (σ : List Sl) : R D → R Fl
  | .ok _ C => .ok (.nx σ) C
  | .ex 1 none C => .ok (.rt (.str [117, 110, 102, 105, 116])) C
  | .ex 2 none C => .ok (.rt (.str [99, 97, 110, 32, 110, 111, 116])) C
  | .ex 0 none C => .ok (.rt (.str [109, 97, 110, 121])) C
  | _ => .bad
mutual
def evS : S → List Sl → Cells → R Fl
  | .asg t e, σ, C => (ev cl e σ C).bind fun x C => .of ((bindT t x σ).map .nx) C
  | .asgO i e, σ, C => (ev cl e σ C).bind fun x C => if i < σ.length then (match x with
    | .lst xs => .ok (.nx (σ.set i (.ol xs))) C
    | .dct t ks vs => .ok (.nx (σ.set i (.od t ks vs))) C
    | _ => .bad) else .bad
  | .par is es, σ, C => (evs cl es σ C).bind fun xs C => .of ((parS is xs σ).map .nx) C
  | .setI i k e, σ, C => (ev cl e σ C).bind fun x C => match σ[i]? with
    | some (.ol xs) => (ev cl k σ C).bind fun y C => match y with
      | .int j => (match ixD xs.length j with
        | some m => .ok (.nx (σ.set i (.ol (xs.set m x)))) C
        | none => .bad)
      | _ => .bad
    | some (.od t ks vs) => (ev cl k σ C).bind fun y C =>
      if keyOk t y && decide (ks.length < sizeMost) then .ok (.nx (σ.set i (.od t (putKs ks y) (putVs ks vs y x)))) C else .bad
    | some (.val .cell) => (ev cl k σ C).bind fun y C => match y, x with
      | .int j, .int z => (match ixD C.length j with
        | some m => .ok (.nx σ) (C.set m z)
        | none => .bad)
      | _, _ => .bad
    | _ => .bad
  | .aug i op e, σ, C => match σ[i]? with
    | some (.val y) => (ev cl e σ C).bind fun x C => match y, x with
      | .int _, .int _ => .of ((binD op y x).map fun z => .nx (σ.set i (.val z))) C
      | _, _ => .bad
    | _ => .bad
  | .app i e, σ, C => match σ[i]? with
    | some (.ol xs) => (ev cl e σ C).bind fun x C => if xs.length < sizeMost then .ok (.nx (σ.set i (.ol (xs ++ [x])))) C else .bad
    | _ => .bad
  | .ext i e, σ, C => match σ[i]? with
    | some (.ol xs) => (ev cl e σ C).bind fun x C => match x with
      | .lst ys => if xs.length + ys.length ≤ sizeMost then .ok (.nx (σ.set i (.ol (xs ++ ys)))) C else .bad
      | _ => .bad
    | _ => .bad
  | .popTo t i, σ, C => match σ[i]? with
    | some (.ol xs) => (match xs.getLast? with
      | some x => .of ((bindT t x (σ.set i (.ol xs.dropLast))).map .nx) C
      | none => .bad)
    | _ => .bad
  | .frz i, σ, C => match slotB σ[i]? with
    | some d => .ok (.nx (σ.set i (.val d))) C
    | none => .bad
  | .ret e, σ, C => (ev cl e σ C).bind fun x C => .ok (.rt x) C
  | .retO i, σ, C => (R.of (slotB σ[i]?) C).bind fun x C => .ok (.rt x) C
  | .retN, _, C => .ok (.rt .non) C
  | .ifs c a b, σ, C => (ev cl c σ C).bind fun x C => match truthD x with
    | some true => evSs a σ C
    | some false => evSs b σ C
    | none => .bad
  | .whl c b, σ, C => loopW (fun σ C => (ev cl c σ C).bind fun x C => .of (truthD x) C) (fun σ C => evSs b σ C) mostTurns σ C
  | .for_ t it b, σ, C => (evi cl it σ C).bind fun xs C => loopS (fun x σ C => match bindT t x σ with
    | none => .bad
    | some σ => evSs b σ C) xs σ C
  | .brk, σ, C => .ok (.bk σ) C
  | .cont, σ, C => .ok (.ct σ) C
  | .pass, σ, C => .ok (.nx σ) C
  | .raise c es, σ, C => (evs cl es σ C).bind fun xs C => .ex c xs.head? C
  | .slip f es, σ, C => (evs cl es σ C).bind fun xs C => slipR σ (cl f xs C)
def evSs : Ss → List Sl → Cells → R Fl
  | .nil, σ, C => .ok (.nx σ) C
  | .cons s r, σ, C => (evS s σ C).bind fun o C => match o with
    | .nx σ => evSs r σ C
    | o => .ok o C
end

def startS (n : Nat) (xs : List D) : List Sl := xs.map .val ++ List.replicate (n - xs.length) .emp
def endF : Fl → R D → R D
  | .rt d, _ => .bad
  | _, r => r
def hush (m : Bool) : R D → R D
  | .ok d C => .ok d C
  | .ex c a C => if m then .bad else .ex c a C
  | .bad => .bad
def runF (cl : Call) (f : FDef) (xs : List D) (C : Cells) : R D := hush f.mute <|
  if xs.length = f.params then (evSs cl f.body (startS f.names.length xs) C).bind fun o C => match o with
    | .rt d => .ok d C
    | .nx _ => if f.fresh then .bad else .ok .non C
    | _ => .bad
  else .bad
def callD (T : Nat → Option FDef) : Nat → Call
  | 0, _, _, _ => .bad
  | n + 1, f, xs, C => match T f with
    | some fd => runF (callD T n) fd xs C
    | none => .bad
end Mi

set_option Elab.async false
set_option linter.all false
set_option maxRecDepth 100000
set_option maxHeartbeats 4000000
namespace Mi
/-! ## More calls known, no less told -/
def R.le {α : Type} (x y : R α) : Prop := x = .bad ∨ x = y
theorem R.le.rfl' {α : Type} (x : R α) : x.le x := .inr rfl
theorem R.le.trans {α : Type} {x y z : R α} (h : x.le y) (g : y.le z) : x.le z := by
  rcases h with h | h
  · exact .inl h
  · rw [h]; exact g
theorem R.le.ok {α : Type} {x y : R α} {a : α} {C : List Int} (h : x.le y) (e : x = .ok a C) : y = .ok a C := by
  rcases h with h | h
  · rw [h] at e; cases e
  · rw [← h, e]
theorem R.le.ex {α : Type} {x y : R α} {a : Nat} {d : Option D} {C : List Int} (h : x.le y) (e : x = .ex a d C) : y = .ex a d C := by
  rcases h with h | h
  · rw [h] at e; cases e
  · rw [← h, e]
theorem bind_le {α β : Type} {x x' : R α} {f f' : α → List Int → R β} (h : x.le x') (g : ∀ a C, (f a C).le (f' a C)) : (x.bind f).le (x'.bind f') := by
  rcases h with h | h
  · rw [h]; exact .inl rfl
  · rw [← h]
    cases x with
    | ok a C => exact g a C
    | ex c a C => exact .inr rfl
    | bad => exact .inl rfl
def CLe (cl cl' : Call) : Prop := ∀ f xs C, (cl f xs C).le (cl' f xs C)
theorem loopC_le {f f' : D → Cells → R (List D)} (h : ∀ x C, (f x C).le (f' x C)) : ∀ xs C, (loopC f xs C).le (loopC f' xs C)
  | [], C => .inr rfl
  | x :: xs, C => bind_le (h x C) fun ys C1 => bind_le (loopC_le h xs C1) fun zs C2 => .inr rfl
theorem ite_le {α : Type} {c : Prop} [Decidable c] {a b a' b' : R α} (h : a.le a') (g : b.le b') : (if c then a else b).le (if c then a' else b') := by
  split
  · exact h
  · exact g
variable {cl cl' : Call} (H : CLe cl cl')
include H
mutual
theorem ev_le : ∀ (e : E) (σ : List Sl) (C : Cells), (ev cl e σ C).le (ev cl' e σ C)
  | .v i, σ, C => .inr rfl
  | .b i, σ, C => .inr rfl
  | .lit d, _, C => .inr rfl
  | .gc d, _, C => .inr rfl
  | .tup es, σ, C => bind_le (evs_le es σ C) fun _ _ => .inr rfl
  | .lst es, σ, C => bind_le (evs_le es σ C) fun _ _ => .inr rfl
  | .dsp t kvs, σ, C => bind_le (evs_le kvs σ C) fun _ _ => .inr rfl
  | .bin op a b, σ, C => bind_le (ev_le a σ C) fun _ C => bind_le (ev_le b σ C) fun _ _ => .inr rfl
  | .neg a, σ, C => bind_le (ev_le a σ C) fun _ _ => .inr rfl
  | .not a, σ, C => bind_le (ev_le a σ C) fun _ _ => .inr rfl
  | .and e es, σ, C => bind_le (ev_le e σ C) fun x C => evAnd_le es x σ C
  | .or e es, σ, C => bind_le (ev_le e σ C) fun x C => evOr_le es x σ C
  | .cmp op a b, σ, C => bind_le (ev_le a σ C) fun _ C => bind_le (ev_le b σ C) fun _ _ => .inr rfl
  | .chain op op' a b c, σ, C => bind_le (ev_le a σ C) fun _ C => bind_le (ev_le b σ C) fun _ C => by
    split
    · exact bind_le (ev_le c σ C) fun _ _ => .inr rfl
    · exact .inr rfl
    · exact .inr rfl
  | .ite c a b, σ, C => bind_le (ev_le c σ C) fun x C => by
    split
    · exact ev_le a σ C
    · exact ev_le b σ C
    · exact .inr rfl
  | .call f es, σ, C => bind_le (evs_le es σ C) fun xs C => H f xs C
  | .callv g es, σ, C => bind_le (ev_le g σ C) fun x C => bind_le (evs_le es σ C) fun xs C => by
    split
    · exact H _ xs C
    · exact .inr rfl
  | .isi e tys, σ, C => bind_le (ev_le e σ C) fun _ _ => .inr rfl
  | .bi f es, σ, C => bind_le (evs_le es σ C) fun _ _ => .inr rfl
  | .idx a i, σ, C => bind_le (ev_le a σ C) fun _ C => bind_le (ev_le i σ C) fun _ _ => .inr rfl
  | .sl a lo hi, σ, C => bind_le (ev_le a σ C) fun _ C => bind_le (evo_le lo σ C) fun _ C => bind_le (evo_le hi σ C) fun _ _ => .inr rfl
  | .rev a, σ, C => bind_le (ev_le a σ C) fun _ _ => .inr rfl
  | .comp e (.mk t it c), σ, C => bind_le (evi_le it σ C) fun xs C => bind_le (loopC_le (fun x C => by
      split
      · exact .inr rfl
      · exact bind_le (evc_le c _ C) fun k C => ite_le (bind_le (ev_le e _ C) fun _ _ => .inr rfl) (.inr rfl)) xs C) fun _ _ => .inr rfl
  | .comp2 e (.mk t it c) (.mk t2 it2 c2), σ, C => bind_le (evi_le it σ C) fun xs C => bind_le (loopC_le (fun x C => by
      split
      · exact .inr rfl
      · exact bind_le (evc_le c _ C) fun k C => ite_le (bind_le (evi_le it2 _ C) fun zs C => loopC_le (fun z C => by
          split
          · exact .inr rfl
          · exact bind_le (evc_le c2 _ C) fun k C => ite_le (bind_le (ev_le e _ C) fun _ _ => .inr rfl) (.inr rfl)) zs C) (.inr rfl)) xs C) fun _ _ => .inr rfl
theorem evs_le : ∀ (e : Es) (σ : List Sl) (C : Cells), (evs cl e σ C).le (evs cl' e σ C)
  | .nil, _, C => .inr rfl
  | .cons e es, σ, C => bind_le (ev_le e σ C) fun _ C => bind_le (evs_le es σ C) fun _ _ => .inr rfl
theorem evAnd_le : ∀ (e : Es) (x : D) (σ : List Sl) (C : Cells), (evAnd cl e x σ C).le (evAnd cl' e x σ C)
  | .nil, x, _, C => .inr rfl
  | .cons e es, x, σ, C => by
    show R.le (match truthD x with | some true => (ev cl e σ C).bind fun y C => evAnd cl es y σ C | some false => .ok x C | none => .bad) (match truthD x with | some true => (ev cl' e σ C).bind fun y C => evAnd cl' es y σ C | some false => .ok x C | none => .bad)
    split
    · exact bind_le (ev_le e σ C) fun y C => evAnd_le es y σ C
    · exact .inr rfl
    · exact .inr rfl
theorem evOr_le : ∀ (e : Es) (x : D) (σ : List Sl) (C : Cells), (evOr cl e x σ C).le (evOr cl' e x σ C)
  | .nil, x, _, C => .inr rfl
  | .cons e es, x, σ, C => by
    show R.le (match truthD x with | some true => .ok x C | some false => (ev cl e σ C).bind fun y C => evOr cl es y σ C | none => .bad) (match truthD x with | some true => .ok x C | some false => (ev cl' e σ C).bind fun y C => evOr cl' es y σ C | none => .bad)
    split
    · exact .inr rfl
    · exact bind_le (ev_le e σ C) fun y C => evOr_le es y σ C
    · exact .inr rfl
theorem evo_le : ∀ (e : Oe) (σ : List Sl) (C : Cells), (evo cl e σ C).le (evo cl' e σ C)
  | .no, _, C => .inr rfl
  | .so e, σ, C => bind_le (ev_le e σ C) fun _ _ => .inr rfl
theorem evc_le : ∀ (e : Oe) (σ : List Sl) (C : Cells), (evc cl e σ C).le (evc cl' e σ C)
  | .no, _, C => .inr rfl
  | .so e, σ, C => bind_le (ev_le e σ C) fun _ _ => .inr rfl
theorem evi_le : ∀ (e : It) (σ : List Sl) (C : Cells), (evi cl e σ C).le (evi cl' e σ C)
  | .e e, σ, C => bind_le (ev_le e σ C) fun _ _ => .inr rfl
  | .b i, σ, C => .inr rfl
  | .range1 a, σ, C => bind_le (ev_le a σ C) fun _ _ => .inr rfl
  | .range2 a b, σ, C => bind_le (ev_le a σ C) fun _ C => bind_le (ev_le b σ C) fun _ _ => .inr rfl
  | .range3 a b c, σ, C => bind_le (ev_le a σ C) fun _ C => bind_le (ev_le b σ C) fun _ C => bind_le (ev_le c σ C) fun _ _ => .inr rfl
  | .enum e, σ, C => bind_le (ev_le e σ C) fun _ _ => .inr rfl
  | .zip a b, σ, C => bind_le (ev_le a σ C) fun _ C => bind_le (ev_le b σ C) fun _ _ => .inr rfl
end
omit H in
theorem loopS_le {f f' : D → List Sl → Cells → R Fl} (h : ∀ x σ C, (f x σ C).le (f' x σ C)) : ∀ xs σ C, (loopS f xs σ C).le (loopS f' xs σ C)
  | [], σ, C => .inr rfl
  | x :: xs, σ, C => bind_le (h x σ C) fun o C => by
    split
    · exact loopS_le h xs _ C
    · exact loopS_le h xs _ C
    · exact .inr rfl
    · exact .inr rfl
omit H in
theorem loopW_le {c c' : List Sl → Cells → R Bool} {f f' : List Sl → Cells → R Fl} (hc : ∀ σ C, (c σ C).le (c' σ C)) (h : ∀ σ C, (f σ C).le (f' σ C)) : ∀ n σ C, (loopW c f n σ C).le (loopW c' f' n σ C)
  | 0, σ, C => .inr rfl
  | n + 1, σ, C => bind_le (hc σ C) fun k C => by
    refine ite_le (bind_le (h σ C) fun o C => ?_) (.inr rfl)
    split
    · exact loopW_le hc h n _ C
    · exact loopW_le hc h n _ C
    · exact .inr rfl
    · exact .inr rfl
omit H in
theorem slip_le {σ : List Sl} {x y : R D} (h : x.le y) : (slipR σ x).le (slipR σ y) := by
  rcases h with h | h
  · rw [h]; exact .inl rfl
  · rw [h]; exact .inr rfl
omit H in
theorem hush_le {m : Bool} {x y : R D} (h : x.le y) : (hush m x).le (hush m y) := by
  rcases h with h | h
  · rw [h]; exact .inl rfl
  · rw [h]; exact .inr rfl
mutual
theorem evS_le : ∀ (s : S) (σ : List Sl) (C : Cells), (evS cl s σ C).le (evS cl' s σ C)
  | .asg t e, σ, C => bind_le (ev_le H e σ C) fun _ _ => .inr rfl
  | .asgO i e, σ, C => bind_le (ev_le H e σ C) fun _ _ => .inr rfl
  | .par is es, σ, C => bind_le (evs_le H es σ C) fun _ _ => .inr rfl
  | .setI i k e, σ, C => bind_le (ev_le H e σ C) fun x C => by
    split
    · exact bind_le (ev_le H k σ C) fun _ _ => .inr rfl
    · exact bind_le (ev_le H k σ C) fun _ _ => .inr rfl
    · exact bind_le (ev_le H k σ C) fun _ _ => .inr rfl
    · exact .inr rfl
  | .aug i op e, σ, C => by
    unfold evS
    split
    · exact bind_le (ev_le H e σ C) fun _ _ => .inr rfl
    · exact .inr rfl
  | .app i e, σ, C => by
    unfold evS
    split
    · exact bind_le (ev_le H e σ C) fun _ _ => .inr rfl
    · exact .inr rfl
  | .ext i e, σ, C => by
    unfold evS
    split
    · exact bind_le (ev_le H e σ C) fun _ _ => .inr rfl
    · exact .inr rfl
  | .popTo t i, σ, C => .inr rfl
  | .frz i, σ, C => .inr rfl
  | .ret e, σ, C => bind_le (ev_le H e σ C) fun _ _ => .inr rfl
  | .retO i, σ, C => .inr rfl
  | .retN, _, C => .inr rfl
  | .ifs c a b, σ, C => bind_le (ev_le H c σ C) fun x C => by
    split
    · exact evSs_le a σ C
    · exact evSs_le b σ C
    · exact .inr rfl
  | .whl c b, σ, C => loopW_le (fun σ C => bind_le (ev_le H c σ C) fun _ _ => .inr rfl) (fun σ C => evSs_le b σ C) _ σ C
  | .for_ t it b, σ, C => bind_le (evi_le H it σ C) fun xs C => loopS_le (fun x σ C => by
      split
      · exact .inr rfl
      · exact evSs_le b _ C) xs σ C
  | .brk, σ, C => .inr rfl
  | .cont, σ, C => .inr rfl
  | .pass, σ, C => .inr rfl
  | .raise c es, σ, C => bind_le (evs_le H es σ C) fun _ _ => .inr rfl
  | .slip f es, σ, C => bind_le (evs_le H es σ C) fun xs C => slip_le (H f xs C)
theorem evSs_le : ∀ (s : Ss) (σ : List Sl) (C : Cells), (evSs cl s σ C).le (evSs cl' s σ C)
  | .nil, σ, C => .inr rfl
  | .cons s r, σ, C => bind_le (evS_le s σ C) fun o C => by
    split
    · exact evSs_le r _ C
    · exact .inr rfl
end
theorem runF_le (f : FDef) (xs : List D) (C : Cells) : (runF cl f xs C).le (runF cl' f xs C) := hush_le (ite_le (bind_le (evSs_le H _ _ C) fun _ _ => .inr rfl) (.inr rfl))
omit H in
theorem callD_le (T : Nat → Option FDef) : ∀ {n m : Nat}, n ≤ m → CLe (callD T n) (callD T m)
  | 0, _, _ => fun f xs C => .inl rfl
  | n + 1, 0, h => absurd h (by omega)
  | n + 1, m + 1, h => fun f xs C => by
    show R.le (match T f with | some fd => runF (callD T n) fd xs C | none => .bad) (match T f with | some fd => runF (callD T m) fd xs C | none => .bad)
    split
    · exact runF_le (callD_le T (by omega)) _ xs C
    · exact .inr rfl
/-- calls with some answers known beforehand -/
def callM (T : Nat → Option FDef) (memo : Nat → List D → Option D) : Nat → Call
  | 0, _, _, _ => .bad
  | n + 1, f, xs, C => match memo f xs with
    | some d => .ok d C
    | none => match T f with
      | some fd => runF (callM T memo n) fd xs C
      | none => .bad
omit H in
theorem callM_le {T : Nat → Option FDef} {memo : Nat → List D → Option D} {N : Nat} (h : ∀ f xs d, memo f xs = some d → ∀ C, callD T N f xs C = .ok d C) : ∀ n, CLe (callM T memo n) (callD T (n + N))
  | 0 => fun f xs C => .inl rfl
  | n + 1 => fun f xs C => by
    show R.le (match memo f xs with | some d => .ok d C | none => match T f with | some fd => runF (callM T memo n) fd xs C | none => .bad) _
    split
    · rename_i d e
      exact .inr ((callD_le T (by omega : N ≤ n + 1 + N) f xs C).ok (h f xs d e C)).symm
    · have e : n + 1 + N = (n + N) + 1 := by omega
      rw [e]
      show R.le _ (match T f with | some fd => runF (callD T (n + N)) fd xs C | none => .bad)
      split
      · exact runF_le (callM_le h n) _ xs C
      · exact .inr rfl
end Mi

set_option Elab.async false
set_option linter.all false
set_option maxRecDepth 100000
set_option maxHeartbeats 4000000
namespace Mi
/-! ## What surely raises nothing -/
mutual
def nxE (N : Nat → Bool) : E → Bool
  | .v _ => true | .b _ => true | .lit _ => true | .gc _ => true
  | .tup es => nxEs N es | .lst es => nxEs N es | .dsp _ es => nxEs N es
  | .bin _ a b => nxE N a && nxE N b | .neg a => nxE N a | .not a => nxE N a
  | .and e es => nxE N e && nxEs N es | .or e es => nxE N e && nxEs N es
  | .cmp _ a b => nxE N a && nxE N b | .chain _ _ a b c => nxE N a && nxE N b && nxE N c
  | .ite c a b => nxE N c && nxE N a && nxE N b
  | .call f es => N f && nxEs N es
  | .callv _ _ => false
  | .isi e _ => nxE N e
  | .bi _ es => nxEs N es
  | .idx a i => nxE N a && nxE N i
  | .sl a lo hi => nxE N a && nxO N lo && nxO N hi
  | .rev a => nxE N a
  | .comp e (.mk _ it c) => nxE N e && nxI N it && nxO N c
  | .comp2 e (.mk _ it c) (.mk _ it2 c2) => nxE N e && nxI N it && nxO N c && nxI N it2 && nxO N c2
def nxEs (N : Nat → Bool) : Es → Bool
  | .nil => true | .cons e es => nxE N e && nxEs N es
def nxO (N : Nat → Bool) : Oe → Bool
  | .no => true | .so e => nxE N e
def nxI (N : Nat → Bool) : It → Bool
  | .e e => nxE N e | .b _ => true | .range1 a => nxE N a | .range2 a b => nxE N a && nxE N b
  | .range3 a b c => nxE N a && nxE N b && nxE N c | .enum e => nxE N e | .zip a b => nxE N a && nxE N b
end
mutual
def nxS (N : Nat → Bool) : S → Bool
  | .asg _ e => nxE N e | .asgO _ e => nxE N e | .par _ es => nxEs N es
  | .setI _ k e => nxE N k && nxE N e | .aug _ _ e => nxE N e | .app _ e => nxE N e | .ext _ e => nxE N e
  | .popTo _ _ => true | .frz _ => true | .ret e => nxE N e | .retO _ => true | .retN => true
  | .ifs c a b => nxE N c && nxSs N a && nxSs N b | .whl c b => nxE N c && nxSs N b | .for_ _ it b => nxI N it && nxSs N b
  | .brk => true | .cont => true | .pass => true | .raise _ _ => false | .slip _ es => nxEs N es
def nxSs (N : Nat → Bool) : Ss → Bool
  | .nil => true | .cons s r => nxS N s && nxSs N r
end
def NoX {α : Type} (x : R α) : Prop := ∀ c a C, x ≠ .ex c a C
theorem NoX.ok {α : Type} {a : α} {C : List Int} : NoX (R.ok a C) := fun _ _ _ h => by cases h
theorem NoX.bad {α : Type} : NoX (R.bad : R α) := fun _ _ _ h => by cases h
theorem NoX.of {α : Type} {o : Option α} {C : List Int} : NoX (R.of o C) := by
  cases o
  · exact NoX.bad
  · exact NoX.ok
theorem NoX.bind {α β : Type} {x : R α} {f : α → List Int → R β} (h : NoX x) (g : ∀ a C, NoX (f a C)) : NoX (x.bind f) := by
  cases x with
  | ok a C => exact g a C
  | ex c a C => exact absurd rfl (h c a C)
  | bad => exact NoX.bad
theorem NoX.ite {α : Type} {c : Prop} [Decidable c] {a b : R α} (h : NoX a) (g : NoX b) : NoX (if c then a else b) := by
  split
  · exact h
  · exact g
theorem loopC_nx {f : D → Cells → R (List D)} (h : ∀ x C, NoX (f x C)) : ∀ xs C, NoX (loopC f xs C)
  | [], C => NoX.ok
  | x :: xs, C => (h x C).bind fun ys C1 => (loopC_nx h xs C1).bind fun zs C2 => NoX.ok
theorem loopS_nx' {f : D → List Sl → Cells → R Fl} (h : ∀ x σ C, NoX (f x σ C)) : ∀ xs σ C, NoX (loopS f xs σ C)
  | [], σ, C => NoX.ok
  | x :: xs, σ, C => (h x σ C).bind fun o C => by
    split
    · exact loopS_nx' h xs _ C
    · exact loopS_nx' h xs _ C
    · exact NoX.ok
    · exact NoX.ok
theorem loopW_nx' {c : List Sl → Cells → R Bool} {f : List Sl → Cells → R Fl} (hc : ∀ σ C, NoX (c σ C)) (h : ∀ σ C, NoX (f σ C)) : ∀ n σ C, NoX (loopW c f n σ C)
  | 0, σ, C => NoX.bad
  | n + 1, σ, C => (hc σ C).bind fun k C => by
    refine NoX.ite ((h σ C).bind fun o C => ?_) NoX.ok
    split
    · exact loopW_nx' hc h n _ C
    · exact loopW_nx' hc h n _ C
    · exact NoX.ok
    · exact NoX.ok
variable {cl : Call} {N : Nat → Bool} (H : ∀ f xs C, N f = true → NoX (cl f xs C))
include H
mutual
theorem ev_nx : ∀ (e : E) (σ : List Sl) (C : Cells), nxE N e = true → NoX (ev cl e σ C)
  | .v i, σ, C, _ => NoX.of
  | .b i, σ, C, _ => NoX.of
  | .lit d, _, C, _ => NoX.ok
  | .gc d, _, C, _ => NoX.ok
  | .tup es, σ, C, h => (evs_nx es σ C h).bind fun _ _ => NoX.ok
  | .lst es, σ, C, h => (evs_nx es σ C h).bind fun _ _ => NoX.ok
  | .dsp t kvs, σ, C, h => (evs_nx kvs σ C h).bind fun _ _ => NoX.of
  | .bin op a b, σ, C, h => by
    simp only [nxE, Bool.and_eq_true] at h
    exact (ev_nx a σ C h.1).bind fun _ C => (ev_nx b σ C h.2).bind fun _ _ => NoX.of
  | .neg a, σ, C, h => (ev_nx a σ C h).bind fun _ _ => NoX.of
  | .not a, σ, C, h => (ev_nx a σ C h).bind fun _ _ => NoX.of
  | .and e es, σ, C, h => by
    simp only [nxE, Bool.and_eq_true] at h
    exact (ev_nx e σ C h.1).bind fun x C => evAnd_nx es x σ C h.2
  | .or e es, σ, C, h => by
    simp only [nxE, Bool.and_eq_true] at h
    exact (ev_nx e σ C h.1).bind fun x C => evOr_nx es x σ C h.2
  | .cmp op a b, σ, C, h => by
    simp only [nxE, Bool.and_eq_true] at h
    exact (ev_nx a σ C h.1).bind fun _ C => (ev_nx b σ C h.2).bind fun _ _ => NoX.of
  | .chain op op' a b c, σ, C, h => by
    simp only [nxE, Bool.and_eq_true] at h
    refine (ev_nx a σ C h.1.1).bind fun _ C => (ev_nx b σ C h.1.2).bind fun _ C => ?_
    split
    · exact (ev_nx c σ C h.2).bind fun _ _ => NoX.of
    · exact NoX.ok
    · exact NoX.bad
  | .ite c a b, σ, C, h => by
    simp only [nxE, Bool.and_eq_true] at h
    refine (ev_nx c σ C h.1.1).bind fun x C => ?_
    split
    · exact ev_nx a σ C h.1.2
    · exact ev_nx b σ C h.2
    · exact NoX.bad
  | .call f es, σ, C, h => by
    simp only [nxE, Bool.and_eq_true] at h
    exact (evs_nx es σ C h.2).bind fun xs C => H f xs C h.1
  | .callv g es, σ, C, h => by cases h
  | .isi e tys, σ, C, h => (ev_nx e σ C h).bind fun _ _ => NoX.ite NoX.ok NoX.bad
  | .bi f es, σ, C, h => (evs_nx es σ C h).bind fun _ _ => NoX.of
  | .idx a i, σ, C, h => by
    simp only [nxE, Bool.and_eq_true] at h
    exact (ev_nx a σ C h.1).bind fun _ C => (ev_nx i σ C h.2).bind fun _ _ => NoX.of
  | .sl a lo hi, σ, C, h => by
    simp only [nxE, Bool.and_eq_true] at h
    exact (ev_nx a σ C h.1.1).bind fun _ C => (evo_nx lo σ C h.1.2).bind fun _ C => (evo_nx hi σ C h.2).bind fun _ _ => NoX.of
  | .rev a, σ, C, h => (ev_nx a σ C h).bind fun x C => by
    split
    · exact NoX.ok
    · exact NoX.ok
    · exact NoX.bad
  | .comp e (.mk t it c), σ, C, h => by
    simp only [nxE, Bool.and_eq_true] at h
    refine (evi_nx it σ C h.1.2).bind fun xs C => (loopC_nx (fun x C => ?_) xs C).bind fun _ _ => NoX.ite NoX.ok NoX.bad
    split
    · exact NoX.bad
    · exact (evc_nx c _ C h.2).bind fun k C => NoX.ite ((ev_nx e _ C h.1.1).bind fun _ _ => NoX.ok) NoX.ok
  | .comp2 e (.mk t it c) (.mk t2 it2 c2), σ, C, h => by
    simp only [nxE, Bool.and_eq_true] at h
    refine (evi_nx it σ C h.1.1.1.2).bind fun xs C => (loopC_nx (fun x C => ?_) xs C).bind fun _ _ => NoX.ite NoX.ok NoX.bad
    split
    · exact NoX.bad
    · refine (evc_nx c _ C h.1.1.2).bind fun k C => NoX.ite ((evi_nx it2 _ C h.1.2).bind fun zs C => loopC_nx (fun z C => ?_) zs C) NoX.ok
      split
      · exact NoX.bad
      · exact (evc_nx c2 _ C h.2).bind fun k C => NoX.ite ((ev_nx e _ C h.1.1.1.1).bind fun _ _ => NoX.ok) NoX.ok
theorem evs_nx : ∀ (e : Es) (σ : List Sl) (C : Cells), nxEs N e = true → NoX (evs cl e σ C)
  | .nil, _, C, _ => NoX.ok
  | .cons e es, σ, C, h => by
    simp only [nxEs, Bool.and_eq_true] at h
    exact (ev_nx e σ C h.1).bind fun _ C => (evs_nx es σ C h.2).bind fun _ _ => NoX.ok
theorem evAnd_nx : ∀ (e : Es) (x : D) (σ : List Sl) (C : Cells), nxEs N e = true → NoX (evAnd cl e x σ C)
  | .nil, x, _, C, _ => NoX.ok
  | .cons e es, x, σ, C, h => by
    simp only [nxEs, Bool.and_eq_true] at h
    unfold evAnd
    split
    · exact (ev_nx e σ C h.1).bind fun y C => evAnd_nx es y σ C h.2
    · exact NoX.ok
    · exact NoX.bad
theorem evOr_nx : ∀ (e : Es) (x : D) (σ : List Sl) (C : Cells), nxEs N e = true → NoX (evOr cl e x σ C)
  | .nil, x, _, C, _ => NoX.ok
  | .cons e es, x, σ, C, h => by
    simp only [nxEs, Bool.and_eq_true] at h
    unfold evOr
    split
    · exact NoX.ok
    · exact (ev_nx e σ C h.1).bind fun y C => evOr_nx es y σ C h.2
    · exact NoX.bad
theorem evo_nx : ∀ (e : Oe) (σ : List Sl) (C : Cells), nxO N e = true → NoX (evo cl e σ C)
  | .no, _, C, _ => NoX.ok
  | .so e, σ, C, h => (ev_nx e σ C h).bind fun x C => by
    split
    · exact NoX.ok
    · exact NoX.bad
theorem evc_nx : ∀ (e : Oe) (σ : List Sl) (C : Cells), nxO N e = true → NoX (evc cl e σ C)
  | .no, _, C, _ => NoX.ok
  | .so e, σ, C, h => (ev_nx e σ C h).bind fun _ _ => NoX.of
theorem evi_nx : ∀ (e : It) (σ : List Sl) (C : Cells), nxI N e = true → NoX (evi cl e σ C)
  | .e e, σ, C, h => (ev_nx e σ C h).bind fun _ _ => NoX.of
  | .b i, σ, C, _ => by
    unfold evi
    split
    · exact NoX.ok
    · exact NoX.bad
  | .range1 a, σ, C, h => (ev_nx a σ C h).bind fun x C => by
    split
    · exact NoX.ite NoX.ok NoX.bad
    · exact NoX.bad
  | .range2 a b, σ, C, h => by
    simp only [nxI, Bool.and_eq_true] at h
    refine (ev_nx a σ C h.1).bind fun _ C => (ev_nx b σ C h.2).bind fun _ _ => ?_
    split
    · exact NoX.ite NoX.ok NoX.bad
    · exact NoX.bad
  | .range3 a b c, σ, C, h => by
    simp only [nxI, Bool.and_eq_true] at h
    refine (ev_nx a σ C h.1.1).bind fun _ C => (ev_nx b σ C h.1.2).bind fun _ C => (ev_nx c σ C h.2).bind fun _ _ => ?_
    split
    · exact NoX.ite NoX.ok (NoX.ite NoX.ok NoX.bad)
    · exact NoX.bad
  | .enum e, σ, C, h => (ev_nx e σ C h).bind fun _ _ => NoX.of
  | .zip a b, σ, C, h => by
    simp only [nxI, Bool.and_eq_true] at h
    refine (ev_nx a σ C h.1).bind fun _ C => (ev_nx b σ C h.2).bind fun _ _ => ?_
    split
    · exact NoX.ok
    · exact NoX.ok
    · exact NoX.bad
end
mutual
theorem evS_nx : ∀ (s : S) (σ : List Sl) (C : Cells), nxS N s = true → NoX (evS cl s σ C)
  | .asg t e, σ, C, h => (ev_nx H e σ C h).bind fun _ _ => NoX.of
  | .asgO i e, σ, C, h => (ev_nx H e σ C h).bind fun x _ => NoX.ite (by cases x <;> first | exact NoX.ok | exact NoX.bad) NoX.bad
  | .par is es, σ, C, h => (evs_nx H es σ C h).bind fun _ _ => NoX.of
  | .setI i k e, σ, C, h => by
    simp only [nxS, Bool.and_eq_true] at h
    refine (ev_nx H e σ C h.2).bind fun x C => ?_
    split
    · refine (ev_nx H k σ C h.1).bind fun y C => ?_
      split
      · split
        · exact NoX.ok
        · exact NoX.bad
      · exact NoX.bad
    · exact (ev_nx H k σ C h.1).bind fun y C => NoX.ite NoX.ok NoX.bad
    · refine (ev_nx H k σ C h.1).bind fun y C => ?_
      split
      · split
        · exact NoX.ok
        · exact NoX.bad
      · exact NoX.bad
    · exact NoX.bad
  | .aug i op e, σ, C, h => by
    unfold evS
    split
    · refine (ev_nx H e σ C h).bind fun x C => ?_
      split
      · exact NoX.of
      · exact NoX.bad
    · exact NoX.bad
  | .app i e, σ, C, h => by
    unfold evS
    split
    · exact (ev_nx H e σ C h).bind fun _ _ => NoX.ite NoX.ok NoX.bad
    · exact NoX.bad
  | .ext i e, σ, C, h => by
    unfold evS
    split
    · refine (ev_nx H e σ C h).bind fun x C => ?_
      split
      · exact NoX.ite NoX.ok NoX.bad
      · exact NoX.bad
    · exact NoX.bad
  | .popTo t i, σ, C, _ => by
    unfold evS
    split
    · split
      · exact NoX.of
      · exact NoX.bad
    · exact NoX.bad
  | .frz i, σ, C, _ => by
    unfold evS
    split
    · exact NoX.ok
    · exact NoX.bad
  | .ret e, σ, C, h => (ev_nx H e σ C h).bind fun _ _ => NoX.ok
  | .retO i, σ, C, _ => NoX.of.bind fun _ _ => NoX.ok
  | .retN, _, C, _ => NoX.ok
  | .ifs c a b, σ, C, h => by
    simp only [nxS, Bool.and_eq_true] at h
    refine (ev_nx H c σ C h.1.1).bind fun x C => ?_
    split
    · exact evSs_nx a σ C h.1.2
    · exact evSs_nx b σ C h.2
    · exact NoX.bad
  | .whl c b, σ, C, h => by
    simp only [nxS, Bool.and_eq_true] at h
    exact loopW_nx' (fun σ C => (ev_nx H c σ C h.1).bind fun _ _ => NoX.of) (fun σ C => evSs_nx b σ C h.2) _ σ C
  | .for_ t it b, σ, C, h => by
    simp only [nxS, Bool.and_eq_true] at h
    refine (evi_nx H it σ C h.1).bind fun xs C => loopS_nx' (fun x σ C => ?_) xs σ C
    split
    · exact NoX.bad
    · exact evSs_nx b _ C h.2
  | .brk, σ, C, _ => NoX.ok
  | .cont, σ, C, _ => NoX.ok
  | .pass, σ, C, _ => NoX.ok
  | .raise c es, σ, C, h => by cases h
  | .slip f es, σ, C, h => (evs_nx H es σ C h).bind fun xs C => by
    unfold slipR
    split <;> first | exact NoX.ok | exact NoX.bad
theorem evSs_nx : ∀ (s : Ss) (σ : List Sl) (C : Cells), nxSs N s = true → NoX (evSs cl s σ C)
  | .nil, σ, C, _ => NoX.ok
  | .cons s r, σ, C, h => by
    simp only [nxSs, Bool.and_eq_true] at h
    refine (evS_nx s σ C h.1).bind fun o C => ?_
    split
    · exact evSs_nx r _ C h.2
    · exact NoX.ok
end
omit H in
/-- a mute def raises nothing -/
theorem callD_nx {T : Nat → Option FDef} {N : Nat → Bool} (hT : ∀ f d, N f = true → T f = some d → d.mute = true) : ∀ n f xs C, N f = true → NoX (callD T n f xs C)
  | 0, f, xs, C, _ => NoX.bad
  | n + 1, f, xs, C, h => by
    unfold callD
    cases e : T f with
    | none => exact NoX.bad
    | some d =>
      show NoX (runF (callD T n) d xs C)
      unfold runF
      rw [hT f d h e]
      unfold hush
      split
      · exact NoX.ok
      · exact NoX.bad
      · exact NoX.bad
end Mi

set_option Elab.async false
set_option linter.all false
set_option maxRecDepth 100000
set_option maxHeartbeats 4000000
namespace Mi
open PySem L2

/-! ## What data a value stands for -/
def strV (s : List Nat) : Bool := (s.all fun c => decide (c < 0x110000)) && decide (s.length ≤ 16777216)
theorem strV_len {s : List Nat} (h : strV s = true) : s.length ≤ sizeLine := by
  unfold strV at h
  rw [Bool.and_eq_true, decide_eq_true_eq] at h
  exact h.2
theorem strV_of {s : List Nat} (h : ∀ c ∈ s, c < 0x110000) (l : s.length ≤ 16777216) : strV s = true := by
  unfold strV
  rw [Bool.and_eq_true, decide_eq_true_eq, List.all_eq_true]
  exact ⟨fun c hc => by simpa using h c hc, l⟩
theorem strV_lt {s : List Nat} (h : strV s = true) : ∀ c ∈ s, c < 0x110000 := by
  unfold strV at h
  rw [Bool.and_eq_true, List.all_eq_true] at h
  exact fun c hc => by simpa using h.1 c hc
def toS (s : List Nat) : Str := ⟨s.toArray⟩
theorem toS_inj {a b : List Nat} (h : toS a = toS b) : a = b := by
  have := congrArg (fun x : Str => x.cps.toList) h
  simpa [toS] using this
theorem toS_len (s : List Nat) : (toS s).length = s.length := by simp [toS, Str.length]
def keyD : Key → D
  | .inl i => .int i
  | .inr s => .str s.cps.toList
/-- what does not change between: the written part, where each def stands, the box of draws -/
structure Wd where
  K : PySem.W.Frag
  fa : Nat → Option Addr
  ca : Option Addr
  /-- the dicts of the module -/
  fd : Addr → List D → List D → Prop
  /-- the classes of errors -/
  xa : Nat → Option Addr := fun _ => none

mutual
inductive Rep (W : Wd) (F : Hp) : D → V → Prop
  | non : Rep W F .non .non
  | bl (b : Bool) : Rep W F (.bl b) (.bl b)
  | int (i : Int) : Rep W F (.int i) (.int i)
  | str (s : List Nat) : strV s = true → Rep W F (.str s) (.str (toS s))
  | tup {a : Addr} {xs : List D} {vs : List V} : F a = some (.tup vs) → Reps W F xs vs → Rep W F (.tup xs) (.ref a)
  | frt {a : Addr} {xs : List D} {vs : List V} : SqT W.K F a vs → Reps W F xs vs → Rep W F (.frt xs) (.ref a)
  | frd {a : Addr} {ks vs : List D} : W.fd a ks vs → Rep W F (.frd ks vs) (.ref a)
  | lst {a : Addr} {xs : List D} {vs : List V} : F a = some (.lst vs) → Reps W F xs vs → Rep W F (.lst xs) (.ref a)
  | dct {a : Addr} {od : Obj} {o : HO} {t : Nat} {ks vs : List D} : F a = some (.frz od o) → RepO W F (.dct t ks vs) o → Rep W F (.dct t ks vs) (.ref a)
  | frl {a : Addr} {xs : List D} {vs : List V} : SqL W.K F a vs → Reps W F xs vs → Rep W F (.frl xs) (.ref a)
  | fn {a : Addr} {f : Nat} : W.fa f = some a → Rep W F (.fn f) (.ref a)
  | cell {a : Addr} : W.ca = some a → Rep W F .cell (.ref a)
inductive RepO (W : Wd) (F : Hp) : D → HO → Prop
  | lst {xs : List D} {vs : List V} : Reps W F xs vs → RepO W F (.lst xs) (.lst vs)
  | dK {ks vs : List D} {kvs : List (Key × V)} : ks = kvs.map (fun p => keyD p.1) → (∀ p ∈ kvs, ∀ s, p.1 = .inr s → strV s.cps.toList = true) → Reps W F vs (kvs.map (·.2)) → RepO W F (.dct 0 ks vs) (.dK kvs)
  | dT {ks vs : List D} {kvs : List (List Key × V)} : ks = kvs.map (fun p => .tup (p.1.map keyD)) → (∀ p ∈ kvs, ∀ k ∈ p.1, ∀ s, k = .inr s → strV s.cps.toList = true) → Reps W F vs (kvs.map (·.2)) → RepO W F (.dct 1 ks vs) (.dT kvs)
inductive Reps (W : Wd) (F : Hp) : List D → List V → Prop
  | nil : Reps W F [] []
  | cons {d : D} {ds : List D} {v : V} {vs : List V} : Rep W F d v → Reps W F ds vs → Reps W F (d :: ds) (v :: vs)
end

abbrev Ext (F F' : Hp) : Prop := ∀ a o, F a = some o → F' a = some o
theorem Ext.refl (F : Hp) : Ext F F := fun _ _ h => h
theorem Ext.trans {F G H : Hp} (a : Ext F G) (b : Ext G H) : Ext F H := fun c o h => b c o (a c o h)
theorem Ext.upd {F : Hp} {a : Addr} {o : HO} (h : F a = none) : Ext F (upd F a o) := fun b u e => by
  by_cases hb : b = a
  · subst hb; rw [h] at e; cases e
  · rw [upd_ne hb]; exact e
def Sub (F H : Hp) : Prop := ∀ a o, F a = some o → H a = some o
theorem Sub.lst {F H : Hp} (s : Sub F H) {a : Addr} {vs : List V} (h : F a = some (.lst vs)) : H a = some (.lst vs) := s _ _ h
theorem Sub.tup {F H : Hp} (s : Sub F H) {a : Addr} {vs : List V} (h : F a = some (.tup vs)) : H a = some (.tup vs) := s _ _ h
theorem Sub.frz {F H : Hp} (s : Sub F H) {a : Addr} {o : Obj} {u : HO} (h : F a = some (.frz o u)) : H a = some (.frz o u) := s _ _ h
theorem Ext.sqT {K : PySem.W.Frag} {F F' : Hp} {a : Addr} {vs : List V} (e : Ext F F') (h : SqT K F a vs) : SqT K F' a vs := by
  rcases h with (h | ⟨o, h⟩) | h
  · exact .inl (.inl (e _ _ h))
  · exact .inl (.inr ⟨o, e _ _ h⟩)
  · exact .inr h
theorem Ext.sqL {K : PySem.W.Frag} {F F' : Hp} {a : Addr} {vs : List V} (e : Ext F F') (h : SqL K F a vs) : SqL K F' a vs := by
  rcases h with (h | ⟨o, h⟩) | h
  · exact .inl (.inl (e _ _ h))
  · exact .inl (.inr ⟨o, e _ _ h⟩)
  · exact .inr h
theorem Sub.sqT {K : PySem.W.Frag} {F H : Hp} {a : Addr} {vs : List V} (s : Sub F H) (h : SqT K F a vs) : SqT K H a vs := by
  rcases h with (h | ⟨o, h⟩) | h
  · exact .inl (.inl (s.tup h))
  · exact .inl (.inr ⟨o, s.frz h⟩)
  · exact .inr h
theorem Sub.sqL {K : PySem.W.Frag} {F H : Hp} {a : Addr} {vs : List V} (s : Sub F H) (h : SqL K F a vs) : SqL K H a vs := by
  rcases h with (h | ⟨o, h⟩) | h
  · exact .inl (.inl (s.lst h))
  · exact .inl (.inr ⟨o, s.frz h⟩)
  · exact .inr h

variable {W : Wd} {F F' H H' : Hp} {C : Cells}
mutual
theorem Rep.ext (e : Ext F F') : ∀ {d : D} {v : V}, Rep W F d v → Rep W F' d v
  | _, _, .non => .non
  | _, _, .bl b => .bl b
  | _, _, .int i => .int i
  | _, _, .str s h => .str s h
  | _, _, .tup h r => .tup (e _ _ h) (Reps.ext e r)
  | _, _, .frt h r => .frt (e.sqT h) (Reps.ext e r)
  | _, _, .frd h => .frd h
  | _, _, .lst h r => .lst (e _ _ h) (Reps.ext e r)
  | _, _, .dct h r => .dct (e _ _ h) (RepO.ext e r)
  | _, _, .frl h r => .frl (e.sqL h) (Reps.ext e r)
  | _, _, .fn h => .fn h
  | _, _, .cell h => .cell h
theorem RepO.ext (e : Ext F F') : ∀ {d : D} {o : HO}, RepO W F d o → RepO W F' d o
  | _, _, .lst r => .lst (Reps.ext e r)
  | _, _, .dK h1 h2 r => .dK h1 h2 (Reps.ext e r)
  | _, _, .dT h1 h2 r => .dT h1 h2 (Reps.ext e r)
theorem Reps.ext (e : Ext F F') : ∀ {ds : List D} {vs : List V}, Reps W F ds vs → Reps W F' ds vs
  | _, _, .nil => .nil
  | _, _, .cons h r => .cons (Rep.ext e h) (Reps.ext e r)
end
theorem Reps.len : ∀ {ds : List D} {vs : List V}, Reps W F ds vs → ds.length = vs.length
  | _, _, .nil => rfl
  | _, _, .cons _ r => congrArg (· + 1) r.len
theorem Reps.get : ∀ {ds : List D} {vs : List V} {i : Nat} {d : D}, Reps W F ds vs → ds[i]? = some d → ∃ v, vs[i]? = some v ∧ Rep W F d v
  | _, _, _, _, .nil, h => by simp at h
  | _, _, 0, _, .cons q _, h => by simp at h; subst h; exact ⟨_, rfl, q⟩
  | _, _, i + 1, _, .cons _ r, h => by
    obtain ⟨v, h1, h2⟩ := Reps.get (i := i) r (by simpa using h)
    exact ⟨v, by simpa using h1, h2⟩
theorem Reps.get' : ∀ {ds : List D} {vs : List V} {i : Nat} {v : V}, Reps W F ds vs → vs[i]? = some v → ∃ d, ds[i]? = some d ∧ Rep W F d v
  | _, _, _, _, .nil, h => by simp at h
  | _, _, 0, _, .cons q _, h => by simp at h; subst h; exact ⟨_, rfl, q⟩
  | _, _, i + 1, _, .cons _ r, h => by
    obtain ⟨v, h1, h2⟩ := Reps.get' (i := i) r (by simpa using h)
    exact ⟨v, by simpa using h1, h2⟩
theorem Reps.app : ∀ {ds es : List D} {vs us : List V}, Reps W F ds vs → Reps W F es us → Reps W F (ds ++ es) (vs ++ us)
  | _, _, _, _, .nil, s => s
  | _, _, _, _, .cons q r, s => .cons q (Reps.app r s)
theorem Reps.one {d : D} {v : V} (h : Rep W F d v) : Reps W F [d] [v] := .cons h .nil
theorem Reps.take : ∀ {ds : List D} {vs : List V} (n : Nat), Reps W F ds vs → Reps W F (ds.take n) (vs.take n)
  | _, _, 0, _ => by simp; exact .nil
  | _, _, _ + 1, .nil => .nil
  | _, _, n + 1, .cons q r => .cons q (Reps.take n r)
theorem Reps.drop : ∀ {ds : List D} {vs : List V} (n : Nat), Reps W F ds vs → Reps W F (ds.drop n) (vs.drop n)
  | _, _, 0, r => r
  | _, _, _ + 1, .nil => .nil
  | _, _, n + 1, .cons _ r => Reps.drop n r
theorem Reps.set {d : D} {v : V} (h : Rep W F d v) : ∀ {ds : List D} {vs : List V} (n : Nat), Reps W F ds vs → Reps W F (ds.set n d) (vs.set n v)
  | _, _, _, .nil => .nil
  | _, _, 0, .cons _ r => .cons h r
  | _, _, n + 1, .cons q r => .cons q (Reps.set h n r)
theorem Reps.dropLast : ∀ {ds : List D} {vs : List V}, Reps W F ds vs → Reps W F ds.dropLast vs.dropLast := fun {ds vs} r => by
  rw [List.dropLast_eq_take, List.dropLast_eq_take, ← r.len]
  exact r.take _
theorem Reps.reverse : ∀ {ds : List D} {vs : List V}, Reps W F ds vs → Reps W F ds.reverse vs.reverse
  | _, _, .nil => .nil
  | _, _, .cons q r => by rw [List.reverse_cons, List.reverse_cons]; exact (Reps.reverse r).app (.one q)
theorem Reps.ints : ∀ {ds : List D} {vs : List V} {ns : List Int}, Reps W F ds vs → intsD ds = some ns → vs = ns.map V.int
  | _, _, _, .nil, h => by simp [intsD] at h; subst h; rfl
  | _, _, _, .cons (d := d) q r, h => by
    cases d <;> simp only [intsD] at h <;> try cases h
    rename_i i
    cases q with
    | int => 
      cases e : intsD _ with
      | none => rw [e] at h; cases h
      | some ms => rw [e] at h; cases h; rw [Reps.ints r e]; rfl
theorem Reps.bools : ∀ {ds : List D} {vs : List V} {ns : List Bool}, Reps W F ds vs → boolsD ds = some ns → vs = ns.map V.bl
  | _, _, _, .nil, h => by simp [boolsD] at h; subst h; rfl
  | _, _, _, .cons (d := d) q r, h => by
    cases d <;> simp only [boolsD] at h <;> try cases h
    cases q with
    | bl => 
      cases e : boolsD _ with
      | none => rw [e] at h; cases h
      | some ms => rw [e] at h; cases h; rw [Reps.bools r e]; rfl
theorem Reps.strs : ∀ {ds : List D} {vs : List V} {ns : List (List Nat)}, Reps W F ds vs → strsD ds = some ns → vs = ns.map (fun s => V.str (toS s)) ∧ ∀ s ∈ ns, strV s = true
  | _, _, _, .nil, h => by simp [strsD] at h; subst h; exact ⟨rfl, fun _ h => by cases h⟩
  | _, _, _, .cons (d := d) q r, h => by
    cases d <;> simp only [strsD] at h <;> try cases h
    cases q with
    | str _ hv => 
      cases e : strsD _ with
      | none => rw [e] at h; cases h
      | some ms =>
        rw [e] at h; cases h
        obtain ⟨h1, h2⟩ := Reps.strs r e
        rw [h1]
        refine ⟨rfl, fun s hs => ?_⟩
        rcases List.mem_cons.mp hs with rfl | hs
        · exact hv
        · exact h2 s hs
theorem Reps.of_ints : ∀ ns : List Int, Reps W F (ns.map D.int) (ns.map V.int)
  | [] => .nil
  | n :: r => .cons (.int n) (Reps.of_ints r)

theorem Rep.int_inv {i : Int} {v : V} (h : Rep W F (.int i) v) : v = .int i := by
  cases h with
  | int => rfl
theorem Rep.bl_inv {i : Bool} {v : V} (h : Rep W F (.bl i) v) : v = .bl i := by
  cases h with
  | bl => rfl
theorem Rep.non_inv {v : V} (h : Rep W F .non v) : v = .non := by
  cases h with
  | non => rfl
theorem Rep.str_inv {s : List Nat} {v : V} (h : Rep W F (.str s) v) : v = .str (toS s) ∧ strV s = true := by
  cases h with
  | str _ h => exact ⟨rfl, h⟩
theorem Rep.tup_inv {xs : List D} {v : V} (h : Rep W F (.tup xs) v) : ∃ a vs, v = .ref a ∧ F a = some (.tup vs) ∧ Reps W F xs vs := by
  cases h with
  | tup h r => exact ⟨_, _, rfl, h, r⟩
theorem Rep.lst_inv {xs : List D} {v : V} (h : Rep W F (.lst xs) v) : ∃ a vs, v = .ref a ∧ F a = some (.lst vs) ∧ Reps W F xs vs := by
  cases h with
  | lst h r => exact ⟨_, _, rfl, h, r⟩
theorem Rep.frt_inv {xs : List D} {v : V} (h : Rep W F (.frt xs) v) : ∃ a vs, v = .ref a ∧ SqT W.K F a vs ∧ Reps W F xs vs := by
  cases h with
  | frt h r => exact ⟨_, _, rfl, h, r⟩
theorem Rep.frd_inv {ks vs : List D} {v : V} (h : Rep W F (.frd ks vs) v) : ∃ a, v = .ref a ∧ W.fd a ks vs := by
  cases h with
  | frd h => exact ⟨_, rfl, h⟩
theorem Rep.frl_inv {xs : List D} {v : V} (h : Rep W F (.frl xs) v) : ∃ a vs, v = .ref a ∧ SqL W.K F a vs ∧ Reps W F xs vs := by
  cases h with
  | frl h r => exact ⟨_, _, rfl, h, r⟩
theorem Rep.dct_inv {t : Nat} {ks vs : List D} {v : V} (h : Rep W F (.dct t ks vs) v) : ∃ a od o, v = .ref a ∧ F a = some (.frz od o) ∧ RepO W F (.dct t ks vs) o := by
  cases h with
  | dct h q => exact ⟨_, _, _, rfl, h, q⟩
theorem Rep.cell_inv {v : V} (h : Rep W F .cell v) : ∃ a, v = .ref a ∧ W.ca = some a := by
  cases h with
  | cell h => exact ⟨_, rfl, h⟩
theorem Rep.fn_inv {f : Nat} {v : V} (h : Rep W F (.fn f) v) : ∃ a, v = .ref a ∧ W.fa f = some a := by
  cases h with
  | fn h => exact ⟨_, rfl, h⟩

/-! ## The box of draws, a step on -/
structure CellOk (W : Wd) (F : Hp) (C : Cells) (H : Hp) : Prop where
  at_ : ∀ c, W.ca = some c → H c = some (.lst (C.map V.int)) ∧ F c = none
/-- from heap H with the frozen part F to heap H' with the frozen part F': all that was tracked but the box stands as before -/
structure Stp (W : Wd) (F : Hp) (H : Hp) (F' : Hp) (C' : Cells) (H' : Hp) : Prop where
  keep : ∀ a o, H a = some o → W.ca ≠ some a → H' a = some o
  ext : Ext F F'
  sub : Sub F' H'
  new : ∀ a o, F' a = some o → F a = some o ∨ H a = none ∨ ∃ xs, o = .tup xs
  cell : CellOk W F' C' H'
  box : ∀ c, W.ca = some c → ∃ vs, H c = some (.lst vs)
theorem Stp.refl (s : Sub F H) (c : CellOk W F C H) : Stp W F H F C H := ⟨fun _ _ h _ => h, Ext.refl F, s, fun _ _ h => .inl h, c, fun d e => ⟨_, (c.at_ d e).1⟩⟩
theorem Stp.trans {F2 H2 : Hp} {C2 : Cells} (a : Stp W F H F' C H') (b : Stp W F' H' F2 C2 H2) : Stp W F H F2 C2 H2 where
  keep := fun c o h n => b.keep c o (a.keep c o h n) n
  ext := a.ext.trans b.ext
  sub := b.sub
  new := fun c o h => by
    rcases b.new c o h with q | q | q
    · exact a.new c o q
    · cases e : H c with
      | none => exact .inr (.inl rfl)
      | some u =>
        by_cases hc : W.ca = some c
        · obtain ⟨vs, hb⟩ := b.box c hc
          rw [hb] at q; cases q
        · rw [a.keep c u e hc] at q; cases q
    · exact .inr (.inr q)
  cell := b.cell
  box := a.box
/-- a new object that is nowhere held yet -/
theorem Stp.tmp {p : Addr} {o : HO} (s : Sub F H) (c : CellOk W F C H) (hp : H p = none) : Stp W F H F C (upd H p o) where
  keep := fun a u h _ => by rw [upd_ne (ne_of_none h hp)]; exact h
  ext := Ext.refl F
  sub := fun a u h => by rw [upd_ne (ne_of_none (s a u h) hp)]; exact s a u h
  new := fun _ _ h => .inl h
  cell := ⟨fun d e => ⟨by rw [upd_ne (ne_of_none (c.at_ d e).1 hp)]; exact (c.at_ d e).1, (c.at_ d e).2⟩⟩
  box := fun d e => ⟨_, (c.at_ d e).1⟩
/-- what is nowhere held is frozen -/
theorem Stp.frz {p : Addr} {o : HO} (t : Stp W F H F' C H') (hp : H p = none) (h' : H' p = some o) (hf : F' p = none) (hc : W.ca ≠ some p) : Stp W F H (upd F' p o) C H' where
  keep := t.keep
  ext := t.ext.trans (Ext.upd hf)
  sub := fun a u h => by
    by_cases ha : a = p
    · subst ha; rw [upd_same] at h; cases h; exact h'
    · rw [upd_ne ha] at h; exact t.sub a u h
  new := fun a u h => by
    by_cases ha : a = p
    · subst ha; exact .inr (.inl hp)
    · rw [upd_ne ha] at h; exact t.new a u h
  cell := ⟨fun d e => ⟨(t.cell.at_ d e).1, by
    have hd : d ≠ p := by intro q; subst q; exact hc e
    rw [upd_ne hd]; exact (t.cell.at_ d e).2⟩⟩
  box := t.box
theorem Sub.none_of (s : Sub F H) {p : Addr} (h : H p = none) : F p = none := by
  cases e : F p with
  | none => rfl
  | some o => rw [s p o e] at h; cases h
theorem CellOk.ne (c : CellOk W F C H) {p : Addr} (h : H p = none) : W.ca ≠ some p := fun e => by
  have := (c.at_ p e).1
  rw [h] at this; cases this
/-- a new object, frozen at once -/
theorem Stp.new1 {p : Addr} {o : HO} (s : Sub F H) (c : CellOk W F C H) (hp : H p = none) : Stp W F H (upd F p o) C (upd H p o) :=
  (Stp.tmp s c hp).frz hp upd_same (s.none_of hp) (c.ne hp)

/-! ## What is only looked at: frozen, or an owner's -/
def RepR (W : Wd) (F H : Hp) (d : D) (v : V) : Prop := Rep W F d v ∨ ∃ a o, v = .ref a ∧ H a = some o ∧ W.ca ≠ some a ∧ RepO W F d o
theorem RepR.of (h : Rep W F d v) : RepR W F H d v := .inl h
theorem RepR.stp {d : D} {v : V} (t : Stp W F H F' C H') (h : RepR W F H d v) : RepR W F' H' d v := by
  rcases h with h | ⟨a, o, e, h1, h2, r⟩
  · exact .inl (h.ext t.ext)
  · exact .inr ⟨a, o, e, t.keep a o h1 h2, h2, r.ext t.ext⟩
theorem RepR.int_inv {i : Int} {v : V} (h : RepR W F H (.int i) v) : v = .int i := by
  rcases h with h | ⟨a, o, _, _, _, r⟩
  · exact h.int_inv
  · cases r
theorem RepR.bl_inv {i : Bool} {v : V} (h : RepR W F H (.bl i) v) : v = .bl i := by
  rcases h with h | ⟨a, o, _, _, _, r⟩
  · exact h.bl_inv
  · cases r
theorem RepR.non_inv {v : V} (h : RepR W F H .non v) : v = .non := by
  rcases h with h | ⟨a, o, _, _, _, r⟩
  · exact h.non_inv
  · cases r
theorem RepR.str_inv {s : List Nat} {v : V} (h : RepR W F H (.str s) v) : v = .str (toS s) ∧ strV s = true := by
  rcases h with h | ⟨a, o, _, _, _, r⟩
  · exact h.str_inv
  · cases r
theorem RepR.tup_inv {xs : List D} {v : V} (s : Sub F H) (h : RepR W F H (.tup xs) v) : ∃ a vs, v = .ref a ∧ H a = some (.tup vs) ∧ F a = some (.tup vs) ∧ Reps W F xs vs ∧ Rep W F (.tup xs) v := by
  rcases h with h | ⟨a, o, _, _, _, r⟩
  · obtain ⟨a, vs, e, q, r⟩ := h.tup_inv
    exact ⟨a, vs, e, s.tup q, q, r, h⟩
  · cases r
theorem RepR.lst_inv {xs : List D} {v : V} (s : Sub F H) (h : RepR W F H (.lst xs) v) : ∃ a vs, v = .ref a ∧ H a = some (.lst vs) ∧ Reps W F xs vs := by
  rcases h with h | ⟨a, o, e, q, _, r⟩
  · obtain ⟨a, vs, e, q, r⟩ := h.lst_inv
    exact ⟨a, vs, e, s.lst q, r⟩
  · cases r with
    | lst r => exact ⟨a, _, e, q, r⟩
theorem RepR.frl_inv {xs : List D} {v : V} (s : Sub F H) (h : RepR W F H (.frl xs) v) : ∃ a vs, v = .ref a ∧ SqL W.K H a vs ∧ Reps W F xs vs := by
  rcases h with h | ⟨a, o, _, _, _, r⟩
  · obtain ⟨a, vs, e, q, r⟩ := h.frl_inv
    exact ⟨a, vs, e, s.sqL q, r⟩
  · cases r
theorem RepR.dct_inv {t : Nat} {ks vs : List D} {v : V} (s : Sub F H) (h : RepR W F H (.dct t ks vs) v) : ∃ a o, v = .ref a ∧ Rd H a o ∧ RepO W F (.dct t ks vs) o := by
  rcases h with h | ⟨a, o, e, q, _, r⟩
  · obtain ⟨a, od, o, e, q, r⟩ := h.dct_inv
    exact ⟨a, o, e, .inr ⟨od, s _ _ q⟩, r⟩
  · exact ⟨a, o, e, .inl q, r⟩
theorem RepR.frt_inv {xs : List D} {v : V} (s : Sub F H) (h : RepR W F H (.frt xs) v) : ∃ a vs, v = .ref a ∧ SqT W.K H a vs ∧ Reps W F xs vs := by
  rcases h with h | ⟨a, o, _, _, _, r⟩
  · obtain ⟨a, vs, e, q, r⟩ := h.frt_inv
    exact ⟨a, vs, e, s.sqT q, r⟩
  · cases r
theorem RepR.frd_inv {ks vs : List D} {v : V} (h : RepR W F H (.frd ks vs) v) : ∃ a, v = .ref a ∧ W.fd a ks vs := by
  rcases h with h | ⟨a, o, _, _, _, r⟩
  · exact h.frd_inv
  · cases r
theorem RepR.cell_inv {v : V} (h : RepR W F H .cell v) : ∃ a, v = .ref a ∧ W.ca = some a := by
  rcases h with h | ⟨a, o, _, _, _, r⟩
  · exact h.cell_inv
  · cases r
theorem RepR.fn_inv {f : Nat} {v : V} (h : RepR W F H (.fn f) v) : ∃ a, v = .ref a ∧ W.fa f = some a := by
  rcases h with h | ⟨a, o, _, _, _, r⟩
  · exact h.fn_inv
  · cases r

/-! ## A body's state -/
structure Rel (W : Wd) (H0 F : Hp) (σd : List Sl) (C : Cells) (σ : St) (H : Hp) : Prop where
  sub : Sub F H
  cell : CellOk W F C H
  keep : ∀ a o, H0 a = some o → W.ca ≠ some a → H a = some o
  box : ∀ c, W.ca = some c → ∃ vs, H0 c = some (.lst vs)
  len : σd.length = σ.length
  val : ∀ (i : Nat) (d : D), σd[i]? = some (Sl.val d) → ∃ v, σ[i]? = some (some v) ∧ Rep W F d v
  own : ∀ (i : Nat) (d : D), slotB σd[i]? = some d → ∃ a o, σ[i]? = some (some (.ref a)) ∧ H a = some o ∧ RepO W F d o ∧ F a = none ∧ H0 a = none ∧ W.ca ≠ some a ∧
    ∀ (j : Nat) (d' : D), j ≠ i → slotB σd[j]? = some d' → σ[j]? ≠ some (some (.ref a))
theorem Rel.stp {H0 : Hp} {σd : List Sl} {C C' : Cells} {σ : St} (r : Rel W H0 F σd C σ H) (t : Stp W F H F' C' H') : Rel W H0 F' σd C' σ H' where
  sub := t.sub
  cell := t.cell
  keep := fun a o h n => t.keep a o (r.keep a o h n) n
  box := r.box
  len := r.len
  val := fun i d h => by
    obtain ⟨v, h1, h2⟩ := r.val i d h
    exact ⟨v, h1, h2.ext t.ext⟩
  own := fun i d h => by
    obtain ⟨a, o, h1, h2, h3, h4, h5, h6, h7⟩ := r.own i d h
    refine ⟨a, o, h1, t.keep a o h2 h6, h3.ext t.ext, ?_, h5, h6, h7⟩
    cases e : F' a with
    | none => rfl
    | some u =>
      rcases t.new a u e with q | q | ⟨xs, q⟩
      · rw [h4] at q; cases q
      · rw [h2] at q; cases q
      · subst q
        have := t.sub.tup e
        rw [t.keep a o h2 h6] at this
        cases this
        cases h3
end Mi

set_option Elab.async false
set_option linter.all false
set_option maxRecDepth 100000
set_option maxHeartbeats 4000000
namespace Mi
open PySem L2

/-! ## Readings by the evaluator -/
theorem R.bind_ok {α β : Type} {x : R α} {f : α → List Int → R β} {b : β} {C : List Int} (h : x.bind f = .ok b C) : ∃ a C1, x = .ok a C1 ∧ f a C1 = .ok b C := by
  cases x with
  | ok a C1 => exact ⟨a, C1, rfl, h⟩
  | ex c a C1 => cases h
  | bad => cases h
theorem R.of_ok {α : Type} {o : Option α} {a : α} {C C' : List Int} (h : R.of o C = .ok a C') : o = some a ∧ C' = C := by
  cases o with
  | none => cases h
  | some b => cases h; exact ⟨rfl, rfl⟩

/-- nowhere held yet -/
def FrR (W : Wd) (H F' H' : Hp) (d : D) (v : V) : Prop := ∃ p o, v = .ref p ∧ H p = none ∧ H' p = some o ∧ F' p = none ∧ W.ca ≠ some p ∧ RepO W F' d o

section
variable (W : Wd) (cl : Call)
/-- what is looked at -/
def tR (m : E) : TE := fun σ H Q => ∃ H0 F σd C d C', Rel W H0 F σd C σ H ∧ ev cl m σd C = .ok d C' ∧ ∀ F' H' v, Stp W F H F' C' H' → RepR W F' H' d v → Q v H'
/-- what is handed on: frozen -/
def tS (m : E) : TE := fun σ H Q => ∃ H0 F σd C d C', Rel W H0 F σd C σ H ∧ ev cl m σd C = .ok d C' ∧ ∀ F' H' v, Stp W F H F' C' H' → Rep W F' d v → Q v H'
/-- what is new -/
def tF (m : E) : TE := fun σ H Q => ∃ H0 F σd C d C', Rel W H0 F σd C σ H ∧ ev cl m σd C = .ok d C' ∧ ∀ F' H' v, Stp W F H F' C' H' → FrR W H F' H' d v → Q v H'
def tB (m : E) : TT := fun σ H Q => ∃ H0 F σd C d C' k, Rel W H0 F σd C σ H ∧ ev cl m σd C = .ok d C' ∧ truthD d = some k ∧ ∀ F' H', Stp W F H F' C' H' → Q k H'
def tSs (ms : Es) : TA := fun σ H Q => ∃ H0 F σd C ds C', Rel W H0 F σd C σ H ∧ evs cl ms σd C = .ok ds C' ∧ ∀ F' H' vs, Stp W F H F' C' H' → Reps W F' ds vs → Q vs H'
inductive RepsR (W : Wd) (F H : Hp) : List D → List V → Prop
  | nil : RepsR W F H [] []
  | cons {d : D} {ds : List D} {v : V} {vs : List V} : RepR W F H d v → RepsR W F H ds vs → RepsR W F H (d :: ds) (v :: vs)
def tRs (ms : Es) : TA := fun σ H Q => ∃ H0 F σd C ds C', Rel W H0 F σd C σ H ∧ evs cl ms σd C = .ok ds C' ∧ ∀ F' H' vs, Stp W F H F' C' H' → RepsR W F' H' ds vs → Q vs H'
end

theorem _root_.L2.PE.imp {X : Cx} {e : Expr} {t t' : TE} (h : PE X e t) (i : ∀ σ H Q, t' σ H Q → t σ H Q) : PE X e t' := ⟨fun pins s σ H Q I q => h.run pins s σ H Q I (i σ H Q q)⟩
theorem _root_.L2.PT.imp {X : Cx} {e : Expr} {t t' : TT} (h : PT X e t) (i : ∀ σ H Q, t' σ H Q → t σ H Q) : PT X e t' := ⟨fun pins s σ H Q I q => h.run pins s σ H Q I (i σ H Q q)⟩
theorem _root_.L2.PA.imp {X : Cx} {e : List Expr} {t t' : TA} (h : PA X e t) (i : ∀ σ H Q, t' σ H Q → t σ H Q) : PA X e t' := ⟨fun pos pins s σ H Q I q => h.run pos pins s σ H Q I (i σ H Q q)⟩

section
variable {W : Wd} {cl : Call} {X : Cx} {m : E} {e : Expr}
/-- a new dict is frozen, known to its object -/
theorem Stp.frzD {F H F' H' : Hp} {C' : Cells} {p : Addr} {o : HO} {od : Obj} (t : Stp W F H F' C' H') (hp : H p = none) (h' : H' p = some o) (hf : F' p = none) (hc : W.ca ≠ some p) : Stp W F H (upd F' p (.frz od o)) C' (upd H' p (.frz od o)) where
  keep := fun a u h n => by rw [upd_ne (ne_of_none h hp)]; exact t.keep a u h n
  ext := t.ext.trans (Ext.upd hf)
  sub := fun a u h => by
    by_cases ha : a = p
    · subst ha; rw [upd_same] at h ⊢; exact h
    · rw [upd_ne ha] at h ⊢; exact t.sub a u h
  new := fun a u h => by
    by_cases ha : a = p
    · subst ha; exact .inr (.inl hp)
    · rw [upd_ne ha] at h; exact t.new a u h
  cell := ⟨fun d e => by
    have hd : d ≠ p := by intro q; subst q; exact hc e
    rw [upd_ne hd, upd_ne hd]; exact t.cell.at_ d e⟩
  box := t.box
/-- a new thing is frozen -/
theorem _root_.L2.PE.froz (h : PE X e (tF W cl m)) : PE X e (tS W cl m) := ⟨fun pins s σ H Q I ⟨H0, F, σd, C, d, C', r, q, k⟩ => by
  refine thn (h.run pins s σ H (fun v H' => ∃ F', Stp W F H F' C' H' ∧ FrR W H F' H' d v) I ⟨H0, F, σd, C, d, C', r, q, fun F' H' v t fr => ⟨F', t, fr⟩⟩) fun u s1 ⟨v, H1, I1, r1, F', t, p, o, ev', h1, h2, h3, h4, h5⟩ => ?_
  subst ev'
  cases h5 with
  | lst h5 => exact ⟨_, H1, I1, r1, k _ _ _ (t.frz h1 h2 h3 h4) (.lst upd_same (h5.ext (Ext.upd h3)))⟩
  | dK a b c =>
    obtain ⟨od, I2⟩ := I1.lock h2 trivial
    exact ⟨_, _, I2, r1, k _ _ _ (t.frzD h1 h2 h3 h4) (.dct upd_same (.dK a b (c.ext (Ext.upd h3))))⟩
  | dT a b c =>
    obtain ⟨od, I2⟩ := I1.lock h2 trivial
    exact ⟨_, _, I2, r1, k _ _ _ (t.frzD h1 h2 h3 h4) (.dct upd_same (.dT a b (c.ext (Ext.upd h3))))⟩⟩
theorem _root_.L2.PE.look (h : PE X e (tS W cl m)) : PE X e (tR W cl m) := h.imp fun σ H Q ⟨H0, F, σd, C, d, C', r, q, k⟩ =>
  ⟨H0, F, σd, C, d, C', r, q, fun F' H' v t x => k F' H' v t (.inl x)⟩
theorem RepsR.stp {F H F' H' : Hp} {C : Cells} (t : Stp W F H F' C H') : ∀ {ds : List D} {vs : List V}, RepsR W F H ds vs → RepsR W F' H' ds vs
  | _, _, .nil => .nil
  | _, _, .cons h r => .cons (h.stp t) (RepsR.stp t r)
theorem Reps.look {F H : Hp} : ∀ {ds : List D} {vs : List V}, Reps W F ds vs → RepsR W F H ds vs
  | _, _, .nil => .nil
  | _, _, .cons h r => .cons (.inl h) (Reps.look r)

/-! ### names, constants -/
theorem s_v {i : Nat} (h : PE X e (L2.tVar i)) : PE X e (tS W cl (.v i)) := h.imp fun σ H Q ⟨H0, F, σd, C, d, C', r, q, k⟩ => by
  simp only [ev] at q
  obtain ⟨q, rfl⟩ := R.of_ok q
  have q' : σd[i]? = some (Sl.val d) := by
    unfold slotD at q
    split at q
    · rename_i d' e; cases q; exact e
    · cases q
  obtain ⟨v, h1, h2⟩ := r.val i d q'
  exact ⟨v, h1, k F H v (Stp.refl r.sub r.cell) h2⟩
theorem r_b {i : Nat} (h : PE X e (L2.tVar i)) : PE X e (tR W cl (.b i)) := h.imp fun σ H Q ⟨H0, F, σd, C, d, C', r, q, k⟩ => by
  simp only [ev] at q
  obtain ⟨q', rfl⟩ := R.of_ok q
  obtain ⟨a, o, h1, h2, h3, h4, h5, h6, h7⟩ := r.own i d q'
  exact ⟨_, h1, k F H _ (Stp.refl r.sub r.cell) (.inr ⟨a, o, rfl, h2, h6, h3⟩)⟩
theorem s_lit {d : D} {v : V} (h : PE X e (L2.tC v)) (hd : ∀ F, Rep W F d v) : PE X e (tS W cl (.lit d)) := h.imp fun σ H Q ⟨H0, F, σd, C, d', C', r, q, k⟩ => by
  simp only [ev] at q
  cases q
  exact k F H v (Stp.refl r.sub r.cell) (hd F)
theorem s_gc {d : D} {v : V} (h : PE X e (L2.tC v)) (hd : ∀ F, Rep W F d v) : PE X e (tS W cl (.gc d)) := h.imp fun σ H Q ⟨H0, F, σd, C, d', C', r, q, k⟩ => by
  simp only [ev] at q
  cases q
  exact k F H v (Stp.refl r.sub r.cell) (hd F)

/-! ### two, one -/
/-- by values: what the operator asks, from what the evaluator says -/
def OpV (W : Wd) (f : D → D → Option D) (r : R2) : Prop := ∀ (F H : Hp) (C : Cells) (x y : V) (a b d : D) (Q : VK), Sub F H → CellOk W F C H → RepR W F H a x → RepR W F H b y → f a b = some d →
  (∀ F' H' v, Stp W F H F' C H' → Rep W F' d v → Q v H') → r x y H Q
theorem two {a b : E} {r : R2} {σ : St} {H : Hp} {Q : VK} {H0 F : Hp} {σd : List Sl} {C C' : Cells} {f : D → D → Option D} {d : D} {da db : D} {C1 : Cells} (hv : OpV W f r) (rl : Rel W H0 F σd C σ H) (e1 : ev cl a σd C = .ok da C1) (e2 : ev cl b σd C1 = .ok db C') (ef : f da db = some d)
    (k : ∀ F' H' v, Stp W F H F' C' H' → Rep W F' d v → Q v H') : tOp r (tR W cl a) (tR W cl b) σ H Q := by
  refine ⟨H0, F, σd, C, da, C1, rl, e1, fun F1 H1 x t1 r1 => ?_⟩
  refine ⟨H0, F1, σd, C1, db, C', rl.stp t1, e2, fun F2 H2 y t2 r2 => ?_⟩
  exact hv F2 H2 C' x y da db d Q t2.sub t2.cell (r1.stp t2) r2 ef fun F' H' v t r => k F' H' v ((t1.trans t2).trans t) r
theorem s_bin {op : BOp} {a b : E} {x y : Expr} {o : Operator} {pos : Pos} {r : R2} (ho : OpR X (binaryOp o) r) (hv : OpV W (binD op) r) (ha : PE X x (tR W cl a)) (hb : PE X y (tR W cl b)) : PE X (.BinOp x o y pos) (tS W cl (.bin op a b)) :=
  (pe_op ho ha hb).imp fun σ H Q ⟨H0, F, σd, C, d, C', rl, q, k⟩ => by
    simp only [ev] at q
    obtain ⟨da, C1, e1, q⟩ := R.bind_ok q
    obtain ⟨db, C2, e2, q⟩ := R.bind_ok q
    obtain ⟨ef, rfl⟩ := R.of_ok q
    exact two hv rl e1 e2 ef k
theorem s_cmp {op : COp} {a b : E} {x y : Expr} {o : CmpOp} {pos : Pos} {r : R2} (ho : OpR X (compareOp o) r) (hv : OpV W (cmpD op) r) (ha : PE X x (tR W cl a)) (hb : PE X y (tR W cl b)) (hm : behindInMarks o y = false) : PE X (.Compare x [o] [y] pos) (tS W cl (.cmp op a b)) :=
  (pe_cmpR ho ha hb hm).imp fun σ H Q ⟨H0, F, σd, C, d, C', rl, q, k⟩ => by
    simp only [ev] at q
    obtain ⟨da, C1, e1, q⟩ := R.bind_ok q
    obtain ⟨db, C2, e2, q⟩ := R.bind_ok q
    obtain ⟨ef, rfl⟩ := R.of_ok q
    exact two hv rl e1 e2 ef k
/-- a comparison hands back a truth value -/
theorem cmpD_bl {op : COp} {a b d : D} (h : cmpD op a b = some d) : ∃ k, d = .bl k := by
  unfold cmpD at h
  split at h
  all_goals first
    | (cases h; done)
    | (cases h; exact ⟨_, rfl⟩)
    | (split at h <;> first | (cases h; done) | (cases h; exact ⟨_, rfl⟩))
    | (cases e : inD a b <;> rw [e] at h <;> first | (cases h; done) | (cases h; exact ⟨_, rfl⟩))
theorem b_cmp {op : COp} {a b : E} {x y : Expr} {o : CmpOp} {pos : Pos} {r : R2} (ho : OpR X (compareOp o) r) (hv : OpV W (cmpD op) r) (ha : PE X x (tR W cl a)) (hb : PE X y (tR W cl b)) (hm : behindInMarks o y = false) : PT X (.Compare x [o] [y] pos) (tB W cl (.cmp op a b)) :=
  (pt_cmpR ho ha hb hm).imp fun σ H Q ⟨H0, F, σd, C, d, C', k, rl, q, ht, kk⟩ => by
    simp only [ev] at q
    obtain ⟨da, C1, e1, q⟩ := R.bind_ok q
    obtain ⟨db, C2, e2, q⟩ := R.bind_ok q
    obtain ⟨ef, rfl⟩ := R.of_ok q
    obtain ⟨k', rfl⟩ := cmpD_bl ef
    simp only [truthD, Option.some.injEq] at ht
    subst ht
    exact two hv rl e1 e2 ef fun F' H' v t r => ⟨k', r.bl_inv, kk F' H' t⟩
theorem s_chain {op op' : COp} {a b c : E} {x y z : Expr} {o o' : CmpOp} {pos : Pos} {r r' : R2} (ho : OpR X (compareOp o) r) (ho' : OpR X (compareOp o') r') (hv : OpV W (cmpD op) r) (hv' : OpV W (cmpD op') r')
    (ha : PE X x (tR W cl a)) (hb : PE X y (tR W cl b)) (hc : PE X z (tR W cl c)) (hm : lastMarks [o, o'] [y, z] = false) : PE X (.Compare x [o, o'] [y, z] pos) (tS W cl (.chain op op' a b c)) :=
  (pe_chain ho ho' ha hb hc hm).imp fun σ H Q ⟨H0, F, σd, C, d, C', rl, q, k⟩ => by
    simp only [ev] at q
    obtain ⟨da, C1, e1, q⟩ := R.bind_ok q
    obtain ⟨db, C2, e2, q⟩ := R.bind_ok q
    refine ⟨H0, F, σd, C, da, C1, rl, e1, fun F1 H1 vx t1 r1 => ?_⟩
    refine ⟨H0, F1, σd, C1, db, C2, rl.stp t1, e2, fun F2 H2 vy t2 r2 => ?_⟩
    cases ef : cmpD op da db with
    | none => rw [ef] at q; cases q
    | some d1 =>
      obtain ⟨k1, rfl⟩ := cmpD_bl ef
      refine hv F2 H2 C2 vx vy da db _ _ t2.sub t2.cell (r1.stp t2) r2 ef fun F3 H3 v3 t3 r3 => ⟨k1, r3.bl_inv, ?_⟩
      rw [ef] at q
      cases k1 with
      | true =>
        rw [if_pos rfl]
        obtain ⟨dc, C3, e3, q⟩ := R.bind_ok (show (ev cl c σd C2).bind _ = _ from q)
        obtain ⟨ef', rfl⟩ := R.of_ok q
        refine ⟨H0, F3, σd, C2, dc, C', (rl.stp (t1.trans t2)).stp t3, e3, fun F4 H4 vz t4 r4 => ?_⟩
        exact hv' F4 H4 C' vy vz db dc d Q t4.sub t4.cell ((r2.stp t3).stp t4) r4 ef' fun F' H' v t rr => k F' H' v ((((t1.trans t2).trans t3).trans t4).trans t) rr
      | false =>
        rw [if_neg (by simp)]
        cases q
        exact k F3 H3 _ ((t1.trans t2).trans t3) (.bl false)

/-! ### truth -/
theorem tru {F H : Hp} {d : D} {v : V} {k : Bool} (s : Sub F H) (h : RepR W F H d v) (hk : truthD d = some k) (hK : X.K = W.K) : TruV X.K v H k := by
  cases d with
  | non => rw [h.non_inv]; simp only [truthD, Option.some.injEq] at hk; exact hk.symm
  | bl b => rw [h.bl_inv]; simp only [truthD, Option.some.injEq] at hk; exact hk.symm
  | int i => rw [h.int_inv]; simp only [truthD, Option.some.injEq] at hk; exact hk.symm
  | str z =>
    rw [h.str_inv.1]; simp only [truthD, Option.some.injEq] at hk
    refine ⟨by rw [toS_len]; exact strV_len h.str_inv.2, ?_⟩
    rw [toS_len, ← hk]
    cases z <;> simp
    omega
  | tup xs =>
    obtain ⟨a, vs, rfl, q, _, r, _⟩ := h.tup_inv s
    simp only [truthD, Option.some.injEq] at hk
    refine .inr (.inl ⟨vs, SqT.of q, ?_⟩)
    rw [← hk]
    cases r <;> rfl
  | lst xs =>
    obtain ⟨a, vs, rfl, q, r⟩ := h.lst_inv s
    simp only [truthD, Option.some.injEq] at hk
    refine .inl ⟨vs, .inl (.inl q), ?_⟩
    rw [← hk]
    cases r <;> rfl
  | dct t ks vs => cases hk
  | fn _ => cases hk
  | cell => cases hk
  | frl _ => cases hk
  | frt _ => cases hk
  | frd _ _ => cases hk
end
end Mi

set_option Elab.async false
set_option linter.all false
set_option maxRecDepth 100000
set_option maxHeartbeats 4000000
namespace Mi
open PySem L2

section
variable {W : Wd} {X : Cx}
theorem line_eq : sizeMost = sizeLine := rfl

/-! ### numbers -/
theorem opv_int {op : BOp} {g : Int → Int → Int} (hg : ∀ a b d, binD op a b = some d → ∃ i j, a = .int i ∧ b = .int j ∧ d = .int (g i j)) : OpV W (binD op) (rI0 fun i j => .int (g i j)) := by
  intro F H C x y a b d Q s c ra rb e k
  obtain ⟨i, j, rfl, rfl, rfl⟩ := hg a b d e
  exact ⟨i, j, ra.int_inv, rb.int_inv, k F H _ (Stp.refl s c) (.int _)⟩
theorem opv_intC {op : BOp} {Cd : Int → Int → Prop} {g : Int → Int → Int} (hg : ∀ a b d, binD op a b = some d → ∃ i j, a = .int i ∧ b = .int j ∧ Cd i j ∧ d = .int (g i j)) : OpV W (binD op) (rI Cd fun i j => .int (g i j)) := by
  intro F H C x y a b d Q s c ra rb e k
  obtain ⟨i, j, rfl, rfl, hc, rfl⟩ := hg a b d e
  exact ⟨i, j, ra.int_inv, rb.int_inv, hc, k F H _ (Stp.refl s c) (.int _)⟩
theorem int_sub_bb (a b : Bool) : Gives (Builtin.«int.__sub__» ⟨[.bool a, .bool b], []⟩) (.int ((if a = true then (1 : Int) else 0) - (if b = true then (1 : Int) else 0))) :=
  .of_wp fun M A E s Q h => by obtain ⟨hp, g, d, tk, os⟩ := s; wp_walk; exact ⟨_, rfl, h⟩
theorem sub_bool_bool {prog : Program} {w : World} {A : Around} {E : Value → Shared → Prop} {s : Shared} {a b : Bool} {Q : Value → Shared → Prop} (h : Q (.int ((if a = true then (1 : Int) else 0) - (if b = true then (1 : Int) else 0)) s.toks) { s with toks := s.toks + 1 }) : wpAny (model prog w) A (binaryOp .Sub (.bool a) (.bool b)) Q E s :=
  binaryOp_gives (op := .Sub) (T := "bool") rfl rfl F.fills_bool_sub F.slot_bool_sub F.entry_int_sub (F.args_int_sub_2 _ _) (int_sub_bb a b) trivial h
abbrev rSubB : R2 := fun x y H Q => ∃ a b : Bool, x = .bl a ∧ y = .bl b ∧ Q (.int ((if a = true then (1 : Int) else 0) - (if b = true then (1 : Int) else 0))) H
theorem op_subB : OpR X (binaryOp .Sub) rSubB := by
  intro pins s σ H x y v u Q I rx ry h
  obtain ⟨i, j, rfl, rfl, q⟩ := h
  cases rx
  cases ry
  exact sub_bool_bool ⟨.int _, H, I.tok _, ⟨_, rfl⟩, q⟩
abbrev rSubAll : R2 := fun x y H Q => (rI0 fun i j => .int (i - j)) x y H Q ∨ rSubB x y H Q
theorem op_subAll : OpR X (binaryOp .Sub) rSubAll := op_sub.or op_subB
theorem opv_sub : OpV W (binD .sub) rSubAll := by
  intro F H C x y a b d Q s c ra rb e k
  cases a <;> cases b <;> simp only [binD] at e <;> cases e
  · exact .inr ⟨_, _, ra.bl_inv, rb.bl_inv, k F H _ (Stp.refl s c) (.int _)⟩
  · exact .inl ⟨_, _, ra.int_inv, rb.int_inv, k F H _ (Stp.refl s c) (.int _)⟩
def CMulA (i j : Int) : Prop := IntMulOk i j
theorem op_mulA : OpR X (binaryOp .Mult) (rI CMulA fun i j => .int (i * j)) := opI fun _ _ _ _ _ _ _ hc q => PyProof.Rows.mul_int q hc
theorem mulOk_ok {i j : Int} (h : mulOk i j = true) : CMulA i j := by
  unfold mulOk at h
  simp only [Bool.or_eq_true, decide_eq_true_eq] at h
  rcases h with (h | h) | h
  · exact IntMulOk.of_left (intBits_le_64 (by omega) (by omega))
  · exact IntMulOk.of_right (intBits_le_64 (by omega) (by omega))
  · exact CMulW.ok h
theorem opv_mul : OpV W (binD .mul) (rI CMulA fun i j => .int (i * j)) := opv_intC fun a b d e => by
  cases a <;> cases b <;> simp only [binD] at e <;> try cases e
  split at e
  · rename_i h; cases e; exact ⟨_, _, rfl, rfl, mulOk_ok h, rfl⟩
  · cases e
theorem opv_fdiv : OpV W (binD .fdiv) (rI CDivW fun i j => .int (i / j)) := opv_intC fun a b d e => by
  cases a <;> cases b <;> simp only [binD] at e <;> try cases e
  split at e
  · rename_i h; cases e; exact ⟨_, _, rfl, rfl, h, rfl⟩
  · cases e
theorem opv_mod : OpV W (binD .mod) (rI (fun _ j => 0 < j) fun i j => .int (i % j)) := opv_intC fun a b d e => by
  cases a <;> cases b <;> simp only [binD] at e <;> try cases e
  split at e
  · rename_i h; cases e; exact ⟨_, _, rfl, rfl, h, rfl⟩
  · cases e
theorem opv_pow : OpV W (binD .pow) (rI CPow fun i j => .int (i ^ j.toNat)) := opv_intC fun a b d e => by
  cases a <;> cases b <;> simp only [binD] at e <;> try cases e
  split at e
  · rename_i h; cases e; exact ⟨_, _, rfl, rfl, h, rfl⟩
  · cases e

/-! ### + -/
theorem toS_app (a b : List Nat) : toS a ++ toS b = toS (a ++ b) := by
  show Str.mk (a.toArray ++ b.toArray) = Str.mk (a ++ b).toArray
  simp
abbrev rAddAll (K : PySem.W.Frag) : R2 := fun x y H Q => (((rI0 fun i j => .int (i + j)) x y H Q ∨ (∃ i j, x = .str i ∧ y = .str j ∧ i.length + j.length ≤ sizeLine ∧ Q (.str (i ++ j)) H)) ∨ rCat x y H Q) ∨ rCatA K x y H Q
theorem op_addAll : OpR X (binaryOp .Add) (rAddAll X.K) := ((op_add.or op_add_str).or op_cat).or op_catA
theorem opv_add (hK : X.K = W.K) : OpV W (binD .add) (rAddAll X.K) := by
  intro F H C x y a b d Q s c ra rb e k
  cases a <;> cases b <;> simp only [binD] at e <;> try cases e
  · exact .inl (.inl (.inl ⟨_, _, ra.int_inv, rb.int_inv, k F H _ (Stp.refl s c) (.int _)⟩))
  · rename_i u v
    split at e
    · rename_i h
      cases e
      obtain ⟨ex, vx⟩ := ra.str_inv
      obtain ⟨ey, vy⟩ := rb.str_inv
      refine .inl (.inl (.inr ⟨_, _, ex, ey, by rw [toS_len, toS_len]; exact h, ?_⟩))
      rw [toS_app]
      refine k F H _ (Stp.refl s c) (.str _ (strV_of (fun c hc => ?_) (by rw [List.length_append]; exact h)))
      rcases List.mem_append.mp hc with hc | hc
      · exact strV_lt vx c hc
      · exact strV_lt vy c hc
    · cases e
  · rename_i u v
    split at e
    · rename_i h
      cases e
      obtain ⟨a, vs, rfl, qa, _, rr, ra'⟩ := ra.tup_inv s
      obtain ⟨b, ws, rfl, qb, _, rs, rb'⟩ := rb.tup_inv s
      refine .inr ⟨a, b, vs, ws, rfl, rfl, SqT.of qa, SqT.of qb, by rw [← rr.len, ← rs.len]; exact h, fun z => ?_, fun _ z => ?_, fun _ _ p hp => ?_⟩
      · subst z
        cases rr
        exact k F H _ (Stp.refl s c) rb'
      · subst z
        cases rs
        rw [List.append_nil] at k
        exact k F H _ (Stp.refl s c) ra'
      · exact k _ _ _ (Stp.new1 s c hp) (.tup upd_same ((rr.app rs).ext (Ext.upd (s.none_of hp))))
    · cases e
  · rename_i u v
    split at e
    · rename_i h
      cases e
      obtain ⟨a, vs, rfl, qa, rr⟩ := ra.lst_inv s
      obtain ⟨b, ws, rfl, qb, rs⟩ := rb.lst_inv s
      have l1 := rr.len
      have l2 := rs.len
      refine .inl (.inr ⟨a, b, vs, ws, rfl, rfl, qa, qb, by rw [← l1, ← l2]; exact h, fun p hp => ?_⟩)
      exact k _ _ _ (Stp.new1 s c hp) (.lst upd_same ((rr.app rs).ext (Ext.upd (s.none_of hp))))
    · cases e

/-! ### == -/
mutual
def toPy : D → PyData
  | .non => .none
  | .bl b => .bool b
  | .int i => .int i
  | .str s => .str (toS s)
  | .tup xs => .tuple (toPys xs)
  | .lst xs => .list (toPys xs)
  | _ => .none
def toPys : List D → List PyData
  | [] => []
  | x :: xs => toPy x :: toPys xs
end
theorem toPys_map : ∀ xs : List D, toPys xs = xs.map toPy
  | [] => rfl
  | x :: xs => by rw [toPys, toPys_map xs]; rfl
mutual
theorem py_dep : ∀ d : D, okD d = true → (toPy d).depth = dep d
  | .non, _ => rfl
  | .bl _, _ => rfl
  | .int _, _ => rfl
  | .str _, _ => rfl
  | .tup xs, h => by rw [toPy, dep, PyData.depth, py_deps xs (by simpa [okD] using h)]
  | .lst xs, h => by rw [toPy, dep, PyData.depth, py_deps xs (by simpa [okD] using h)]
  | .dct _ _ _, h => by cases h
  | .fn _, h => by cases h
  | .cell, h => by cases h
  | .frl _, h => by cases h
  | .frt _, h => by cases h
  | .frd _ _, h => by cases h
theorem py_deps : ∀ ds : List D, okDs ds = true → PyData.depthAll (toPys ds) = deps ds
  | [], _ => rfl
  | d :: ds, h => by
    rw [okDs, Bool.and_eq_true] at h
    rw [toPys, deps, PyData.depthAll, py_dep d h.1, py_deps ds h.2]
end
mutual
theorem py_eqv : ∀ a b : D, okD a = true → okD b = true → PyData.eqv (toPy a) (toPy b) = eqD a b
  | .non, b, _, hb => by cases b <;> first | rfl | (cases hb)
  | .bl _, b, _, hb => by cases b <;> first | rfl | (cases hb)
  | .int _, b, _, hb => by cases b <;> first | rfl | (cases hb)
  | .str x, b, _, hb => by
    cases b <;> first | rfl | (cases hb; done) | skip
    rename_i y
    show (toS x == toS y) = (x == y)
    by_cases h : x = y
    · subst h; simp
    · have : ¬ toS x = toS y := fun e => h (toS_inj e)
      rw [beq_eq_false_iff_ne.mpr this, beq_eq_false_iff_ne.mpr h]
  | .tup xs, b, ha, hb => by
    cases b <;> first | rfl | (cases hb; done) | skip
    rename_i ys
    exact py_eqvs xs ys (by simpa [okD] using ha) (by simpa [okD] using hb)
  | .lst xs, b, ha, hb => by
    cases b <;> first | rfl | (cases hb; done) | skip
    rename_i ys
    exact py_eqvs xs ys (by simpa [okD] using ha) (by simpa [okD] using hb)
  | .dct _ _ _, _, h, _ => by cases h
  | .fn _, _, h, _ => by cases h
  | .cell, _, h, _ => by cases h
  | .frl _, _, h, _ => by cases h
  | .frt _, _, h, _ => by cases h
  | .frd _ _, _, h, _ => by cases h
theorem py_eqvs : ∀ as bs : List D, okDs as = true → okDs bs = true → PyData.eqvAll (toPys as) (toPys bs) = eqDs as bs
  | [], [], _, _ => rfl
  | [], _ :: _, _, _ => rfl
  | _ :: _, [], _, _ => rfl
  | a :: as, b :: bs, ha, hb => by
    rw [okDs, Bool.and_eq_true] at ha hb
    rw [toPys, toPys, PyData.eqvAll, eqDs, py_eqv a b ha.1 hb.1, py_eqvs as bs ha.2 hb.2]
end
mutual
theorem dp_of {F H : Hp} (s : Sub F H) : ∀ {d : D} {v : V}, okD d = true → Rep W F d v → Dp W.K H v (toPy d)
  | _, _, _, .non => .non
  | _, _, _, .bl b => .bl b
  | _, _, _, .int i => .int i
  | _, _, _, .str z _ => .str _
  | _, _, h, .tup q r => .tup (SqT.of (s.tup q)) (dps_of s (by simpa [okD] using h) r)
  | _, _, h, .lst q r => .lst (.inl (.inl (s.lst q))) (dps_of s (by simpa [okD] using h) r)
  | _, _, h, .dct _ _ => by cases h
  | _, _, h, .frl _ _ => by cases h
  | _, _, h, .frt _ _ => by cases h
  | _, _, h, .frd _ => by cases h
  | _, _, h, .fn _ => by cases h
  | _, _, h, .cell _ => by cases h
theorem dps_of {F H : Hp} (s : Sub F H) : ∀ {ds : List D} {vs : List V}, okDs ds = true → Reps W F ds vs → DpAll W.K H vs (toPys ds)
  | _, _, _, .nil => .nil
  | _, _, h, .cons q r => by
    rw [okDs, Bool.and_eq_true] at h
    exact .cons (dp_of s h.1 q) (dps_of s h.2 r)
end
mutual
theorem can_of {F : Hp} : ∀ {d : D} {v : V}, Rep W F d v → okD d = true → (toPy d).canLay0 = true
  | _, _, .non, _ => rfl
  | _, _, .bl b, _ => rfl
  | _, _, .int i, _ => rfl
  | _, _, .str z h, _ => by
    show PyData.strOk (toS z) = true
    unfold PyData.strOk toS
    rw [Array.all_eq_true]
    intro i hi
    have := strV_lt h (z.toArray[i]) (by simp)
    simpa using this
  | _, _, .tup q r, h => by rw [toPy, PyData.canLay0]; exact cans_of r (by simpa [okD] using h)
  | _, _, .lst q r, h => by rw [toPy, PyData.canLay0]; exact cans_of r (by simpa [okD] using h)
  | _, _, .dct _ _, h => by cases h
  | _, _, .frl _ _, h => by cases h
  | _, _, .frt _ _, h => by cases h
  | _, _, .frd _, h => by cases h
  | _, _, .fn _, h => by cases h
  | _, _, .cell _, h => by cases h
theorem cans_of {F : Hp} : ∀ {ds : List D} {vs : List V}, Reps W F ds vs → okDs ds = true → PyData.canLayAll0 (toPys ds) = true
  | _, _, .nil, _ => rfl
  | _, _, .cons q r, h => by
    rw [okDs, Bool.and_eq_true] at h
    rw [toPys, PyData.canLayAll0, can_of q h.1, cans_of r h.2]
    rfl
end
theorem RepR.dp {F H : Hp} (s : Sub F H) {d : D} {v : V} (h : okD d = true) (r : RepR W F H d v) : Dp W.K H v (toPy d) ∧ (toPy d).canLay0 = true := by
  rcases r with r | ⟨a, o, rfl, q, _, r⟩
  · exact ⟨dp_of s h r, can_of r h⟩
  · cases r with
    | lst r => exact ⟨.lst (.inl (.inl q)) (dps_of s (by simpa [okD] using h) r), by rw [toPy, PyData.canLay0]; exact cans_of r (by simpa [okD] using h)⟩
    | dK => cases h
    | dT => cases h
def rEqM (K : PySem.W.Frag) (neg : Bool) : R2 := fun x y H Q => ∃ d e, Dp K H x d ∧ Dp K H y e ∧ d.canLay0 = true ∧ e.canLay0 = true ∧ min d.depth e.depth ≤ 200 ∧ Q (.bl (if neg then !PyData.eqv d e else PyData.eqv d e)) H
theorem op_eqM (hu : X.A.units + 200 < cLine) : OpR X (compareOp .Eq) (rEqM X.K false) := by
  intro pins s σ H x y v u Q I rx ry h
  obtain ⟨d, e, hd, he, sd, se, hm, q⟩ := h
  obtain ⟨as, r1⟩ := Dp.reads I d x v hd rx
  obtain ⟨bs, r2⟩ := Dp.reads I e y u he ry
  exact SeqAt.compareEq_reads r1 r2 sd se (by omega) ⟨.bl _, H, I, rfl, q⟩
theorem op_neM (hu : X.A.units + 200 < cLine) : OpR X (compareOp .NotEq) (rEqM X.K true) := by
  intro pins s σ H x y v u Q I rx ry h
  obtain ⟨d, e, hd, he, sd, se, hm, q⟩ := h
  obtain ⟨as, r1⟩ := Dp.reads I d x v hd rx
  obtain ⟨bs, r2⟩ := Dp.reads I e y u he ry
  exact SeqAt.compareNe_reads r1 r2 sd se (by omega) ⟨.bl _, H, I, rfl, q⟩
theorem opv_eq (hK : X.K = W.K) : OpV W (cmpD .eq) (rEqM X.K false) := by
  intro F H C x y a b d Q s c ra rb e k
  simp only [cmpD] at e
  split at e
  · rename_i h
    cases e
    simp only [Bool.and_eq_true, Bool.or_eq_true, decide_eq_true_eq] at h
    obtain ⟨⟨h1, h2⟩, h3⟩ := h
    obtain ⟨p1, p2⟩ := ra.dp s h1
    obtain ⟨q1, q2⟩ := rb.dp s h2
    refine ⟨_, _, hK ▸ p1, hK ▸ q1, p2, q2, ?_, ?_⟩
    · rw [py_dep a h1, py_dep b h2]; omega
    · rw [if_neg (by simp), py_eqv a b h1 h2]
      exact k F H _ (Stp.refl s c) (.bl _)
  · cases e
theorem opv_ne (hK : X.K = W.K) : OpV W (cmpD .ne) (rEqM X.K true) := by
  intro F H C x y a b d Q s c ra rb e k
  simp only [cmpD] at e
  split at e
  · rename_i h
    cases e
    simp only [Bool.and_eq_true, Bool.or_eq_true, decide_eq_true_eq] at h
    obtain ⟨⟨h1, h2⟩, h3⟩ := h
    obtain ⟨p1, p2⟩ := ra.dp s h1
    obtain ⟨q1, q2⟩ := rb.dp s h2
    refine ⟨_, _, hK ▸ p1, hK ▸ q1, p2, q2, ?_, ?_⟩
    · rw [py_dep a h1, py_dep b h2]; omega
    · rw [if_pos rfl, py_eqv a b h1 h2]
      exact k F H _ (Stp.refl s c) (.bl _)
  · cases e

/-! ### order of numbers and texts -/
abbrev rOrd (f : Int → Int → Bool) (g : Str → Str → Bool) : R2 := fun x y H Q => (rI0 fun i j => .bl (f i j)) x y H Q ∨ ∃ i j, x = .str i ∧ y = .str j ∧ Q (.bl (g i j)) H
theorem opv_ord {op : COp} {f : Int → Int → Bool} {g : Str → Str → Bool} {g' : List Nat → List Nat → Bool} (hg : ∀ i j, g (toS i) (toS j) = g' i j)
    (he : ∀ a b d, cmpD op a b = some d → (∃ i j, a = .int i ∧ b = .int j ∧ d = .bl (f i j)) ∨ ∃ i j, a = .str i ∧ b = .str j ∧ d = .bl (g' i j)) : OpV W (cmpD op) (rOrd f g) := by
  intro F H C x y a b d Q s c ra rb e k
  rcases he a b d e with ⟨i, j, rfl, rfl, rfl⟩ | ⟨i, j, rfl, rfl, rfl⟩
  · exact .inl ⟨_, _, ra.int_inv, rb.int_inv, k F H _ (Stp.refl s c) (.bl _)⟩
  · refine .inr ⟨_, _, ra.str_inv.1, rb.str_inv.1, ?_⟩
    rw [hg]
    exact k F H _ (Stp.refl s c) (.bl _)
theorem op_ltO : OpR X (compareOp .Lt) (rOrd (fun i j => decide (i < j)) (fun i j => decide (i.cps.toList < j.cps.toList))) := op_lt.or op_lt_str
theorem op_leO : OpR X (compareOp .LtE) (rOrd (fun i j => decide (i ≤ j)) (fun i j => !decide (j.cps.toList < i.cps.toList))) := op_le.or op_le_str
theorem op_gtO : OpR X (compareOp .Gt) (rOrd (fun i j => decide (j < i)) (fun i j => decide (j.cps.toList < i.cps.toList))) := op_gt.or op_gt_str
theorem op_geO : OpR X (compareOp .GtE) (rOrd (fun i j => decide (j ≤ i)) (fun i j => !decide (i.cps.toList < j.cps.toList))) := op_ge.or op_ge_str
theorem opv_lt : OpV W (cmpD .lt) (rOrd (fun i j => decide (i < j)) (fun i j => decide (i.cps.toList < j.cps.toList))) :=
  opv_ord (g' := fun i j => decide (i < j)) (fun i j => by simp [toS]; exact decide_eq_decide.mpr Iff.rfl) fun a b d e => by
    cases a <;> cases b <;> simp only [cmpD] at e <;> cases e
    · exact .inl ⟨_, _, rfl, rfl, rfl⟩
    · exact .inr ⟨_, _, rfl, rfl, rfl⟩
theorem opv_le : OpV W (cmpD .le) (rOrd (fun i j => decide (i ≤ j)) (fun i j => !decide (j.cps.toList < i.cps.toList))) :=
  opv_ord (g' := fun i j => !decide (j < i)) (fun i j => by simp [toS]; exact decide_eq_decide.mpr Iff.rfl) fun a b d e => by
    cases a <;> cases b <;> simp only [cmpD] at e <;> cases e
    · exact .inl ⟨_, _, rfl, rfl, rfl⟩
    · exact .inr ⟨_, _, rfl, rfl, rfl⟩
theorem opv_gt : OpV W (cmpD .gt) (rOrd (fun i j => decide (j < i)) (fun i j => decide (j.cps.toList < i.cps.toList))) :=
  opv_ord (g' := fun i j => decide (j < i)) (fun i j => by simp [toS]; exact decide_eq_decide.mpr Iff.rfl) fun a b d e => by
    cases a <;> cases b <;> simp only [cmpD] at e <;> cases e
    · exact .inl ⟨_, _, rfl, rfl, rfl⟩
    · exact .inr ⟨_, _, rfl, rfl, rfl⟩
theorem opv_ge : OpV W (cmpD .ge) (rOrd (fun i j => decide (j ≤ i)) (fun i j => !decide (i.cps.toList < j.cps.toList))) :=
  opv_ord (g' := fun i j => !decide (i < j)) (fun i j => by simp [toS]; exact decide_eq_decide.mpr Iff.rfl) fun a b d e => by
    cases a <;> cases b <;> simp only [cmpD] at e <;> cases e
    · exact .inl ⟨_, _, rfl, rfl, rfl⟩
    · exact .inr ⟨_, _, rfl, rfl, rfl⟩

/-! ### is None -/
theorem RepR.isNon {F H : Hp} {d : D} {v : V} (h : RepR W F H d v) : decide (v = V.non) = nonD d := by
  rcases h with h | ⟨a, o, rfl, _, _, r⟩
  · cases h <;> rfl
  · cases r <;> rfl
theorem opv_is : OpV W (cmpD .is) (fun x y H Q => y = .non ∧ Q (.bl (decide (x = .non))) H) := by
  intro F H C x y a b d Q s c ra rb e k
  cases b <;> simp only [cmpD] at e <;> cases e
  refine ⟨rb.non_inv, ?_⟩
  rw [ra.isNon]
  exact k F H _ (Stp.refl s c) (.bl _)
theorem opv_isnt : OpV W (cmpD .isnt) (fun x y H Q => y = .non ∧ Q (.bl (!decide (x = .non))) H) := by
  intro F H C x y a b d Q s c ra rb e k
  cases b <;> simp only [cmpD] at e <;> cases e
  refine ⟨rb.non_inv, ?_⟩
  rw [ra.isNon]
  exact k F H _ (Stp.refl s c) (.bl _)
end
end Mi

set_option Elab.async false
set_option linter.all false
set_option maxRecDepth 100000
set_option maxHeartbeats 4000000
namespace Mi
open PySem L2

section
variable {W : Wd} {X : Cx}
/-! ### keys -/
theorem key_inv {F H : Hp} {d : D} {v : V} (hk : keyK d = true) (h : RepR W F H d v) : ∃ k : Key, d = keyD k ∧ v = kV k := by
  cases d <;> try cases hk
  · exact ⟨.inl _, rfl, h.int_inv⟩
  · rename_i s
    exact ⟨.inr (toS s), by simp [keyD, toS], h.str_inv.1⟩
theorem keyD_eqD (a b : Key) : eqD (keyD a) (keyD b) = decide (a = b) := by
  cases a <;> cases b
  · rename_i i j
    show (i == j) = _
    by_cases h : i = j
    · subst h; simp
    · rw [beq_eq_false_iff_ne.mpr h, decide_eq_false (fun e => h (Sum.inl.inj e))]
  · exact (decide_eq_false (fun e => nomatch e)).symm
  · exact (decide_eq_false (fun e => nomatch e)).symm
  · rename_i i j
    show (i.cps.toList == j.cps.toList) = _
    by_cases h : i = j
    · subst h; simp
    · have h2 : ¬ i.cps.toList = j.cps.toList := fun e => h (by cases i; cases j; simp at e; simp [e])
      rw [beq_eq_false_iff_ne.mpr h2, decide_eq_false (fun e => h (Sum.inr.inj e))]
theorem keyD_inj {a b : Key} (h : keyD a = keyD b) : a = b := by
  have := keyD_eqD a b
  rw [h, keyD_eqD b b] at this
  simpa using this.symm
theorem keysD_eqD : ∀ (a b : List Key), eqDs (a.map keyD) (b.map keyD) = decide (a = b)
  | [], [] => rfl
  | [], _ :: _ => (decide_eq_false (fun e => nomatch e)).symm
  | _ :: _, [] => (decide_eq_false (fun e => nomatch e)).symm
  | x :: xs, y :: ys => by
    rw [List.map_cons, List.map_cons, eqDs, keyD_eqD, keysD_eqD xs ys]
    by_cases h1 : x = y
    · subst h1
      by_cases h2 : xs = ys
      · subst h2; simp
      · simp [h2]
    · simp [h1]
/-- a list of keys, as it stands -/
theorem keys_inv {F H : Hp} : ∀ {ds : List D} {vs : List V}, ds.all keyK = true → Reps W F ds vs → ∃ k : List Key, ds = k.map keyD ∧ vs = k.map kV ∧ ∀ x ∈ k, ∀ s, x = .inr s → strV s.cps.toList = true
  | _, _, _, .nil => ⟨[], rfl, rfl, fun _ h => by cases h⟩
  | d :: ds, v :: vs, h, .cons q r => by
    rw [List.all_cons, Bool.and_eq_true] at h
    obtain ⟨k, e1, e2, e3⟩ := keys_inv (H := H) h.2 r
    obtain ⟨x, f1, f2⟩ := key_inv h.1 (RepR.of (H := H) q)
    refine ⟨x :: k, by rw [f1, e1]; rfl, by rw [f2, e2]; rfl, fun y hy s hs => ?_⟩
    rcases List.mem_cons.mp hy with rfl | hy
    · subst hs
      rw [f1] at q
      exact q.str_inv.2
    · exact e3 y hy s hs
section
variable {κ : Type} [DecidableEq κ] (g : κ → D) (hg : ∀ a b, eqD (g a) (g b) = decide (a = b))
include hg
theorem hasD_val (k : κ) : ∀ kvs : List (κ × V), hasD (kvs.map fun p => g p.1) (g k) = (valV kvs k).isSome
  | [] => rfl
  | p :: r => by
    have ih := hasD_val k r
    unfold hasD at ih ⊢
    rw [List.map_cons, List.any_cons, hg]
    by_cases h : p.1 = k
    · rw [valV_pos h, decide_eq_true h]; rfl
    · rw [valV_neg h, decide_eq_false h, Bool.false_or]; exact ih
theorem lookD_val {F : Hp} (k : κ) : ∀ (kvs : List (κ × V)) {vs : List D}, Reps W F vs (kvs.map (·.2)) → (lookD (kvs.map fun p => g p.1) vs (g k) = none ∧ valV kvs k = none) ∨
    ∃ d v, lookD (kvs.map fun p => g p.1) vs (g k) = some d ∧ valV kvs k = some v ∧ Rep W F d v
  | [], _, r => by cases r; exact .inl ⟨rfl, rfl⟩
  | p :: q, _, r => by
    rw [List.map_cons] at r
    cases r with
    | cons h r =>
      have ih := lookD_val k q r
      rw [List.map_cons, lookD, hg]
      by_cases e : p.1 = k
      · rw [valV_pos e, decide_eq_true e, if_pos rfl]
        exact .inr ⟨_, _, rfl, rfl, h⟩
      · rw [valV_neg e, decide_eq_false e, if_neg (by simp)]
        exact ih
theorem putKs_val (k : κ) (v : V) (kvs : List (κ × V)) : putKs (kvs.map fun p => g p.1) (g k) = (L2.putK kvs k v).map fun p => g p.1 := by
  have hh := hasD_val g hg k kvs
  unfold putKs L2.putK
  rw [valV_any k kvs, hh]
  cases valV kvs k with
  | none => simp
  | some x =>
    simp only [Option.isSome_some, if_true, List.map_map]
    refine List.map_congr_left fun p _ => ?_
    show g p.1 = g (if p.1 = k then (p.1, v) else p).1
    split <;> rfl
theorem putVs_val {F : Hp} {d : D} {v : V} (k : κ) (hd : Rep W F d v) : ∀ (kvs : List (κ × V)) {vs : List D}, (kvs.map (·.1)).Nodup → Reps W F vs (kvs.map (·.2)) → Reps W F (putVs (kvs.map fun p => g p.1) vs (g k) d) ((L2.putK kvs k v).map (·.2))
  | [], _, _, r => by cases r; exact .cons hd .nil
  | p :: q, _, n, r => by
    rw [List.map_cons] at r
    rw [List.map_cons, List.nodup_cons] at n
    cases r with
    | cons h r =>
      rw [List.map_cons, putVs, hg]
      by_cases e : p.1 = k
      · rw [decide_eq_true e, if_pos rfl]
        have hk : k ∉ q.map (·.1) := by rw [← e]; exact n.1
        have hp : L2.putK (p :: q) k v = (p.1, v) :: q := by
          unfold L2.putK
          rw [if_pos (by simp [e]), List.map_cons, if_pos e]
          congr 1
          conv => rhs; rw [← List.map_id q]
          refine List.map_congr_left fun x hx => ?_
          rw [if_neg (fun z => hk (by rw [← z]; exact List.mem_map_of_mem hx))]
          rfl
        rw [hp, List.map_cons]
        exact .cons hd r
      · rw [decide_eq_false e, if_neg (by simp)]
        have ih := putVs_val k hd q n.2 r
        have hp : L2.putK (p :: q) k v = p :: L2.putK q k v := by
          unfold L2.putK
          rw [List.any_cons, decide_eq_false e, Bool.false_or]
          split
          · rw [List.map_cons, if_neg e]
          · rfl
        rw [hp, List.map_cons]
        exact .cons h ih
end
theorem tupD_eqD (a b : List Key) : eqD (.tup (a.map keyD)) (.tup (b.map keyD)) = decide (a = b) := by rw [eqD]; exact keysD_eqD a b

theorem tup_key {F H : Hp} {x : D} {y : V} (s : Sub F H) (hk : keyT x = true) (r : RepR W F H x y) : ∃ (k : List Key) (b : Addr), x = .tup (k.map keyD) ∧ y = .ref b ∧ H b = some (.tup (k.map kV)) ∧ ∀ z ∈ k, ∀ s, z = .inr s → strV s.cps.toList = true := by
  cases x <;> try cases hk
  rename_i xs
  obtain ⟨b, vs, rfl, h1, _, h2, _⟩ := r.tup_inv s
  obtain ⟨k, rfl, rfl, h3⟩ := keys_inv (H := H) (by simpa [keyT] using hk) h2
  exact ⟨k, b, rfl, rfl, h1, h3⟩
/-- a dict read at a key -/
theorem dget_of {F H : Hp} {t : Nat} {ks vs : List D} {o : HO} {a : Addr} {x : D} {y : V} (s : Sub F H) (ro : RepO W F (.dct t ks vs) o) (rd : Rd H a o) (hx : keyOk t x = true) (r : RepR W F H x y) :
    (lookD ks vs x = none ∧ hasD ks x = false ∧ DGet H a y none) ∨ ∃ d v, lookD ks vs x = some d ∧ hasD ks x = true ∧ DGet H a y (some v) ∧ Rep W F d v := by
  cases ro with
  | @dK _ _ kvs hk _ hr =>
    obtain ⟨k, rfl, rfl⟩ := key_inv hx r
    subst hk
    have h1 := hasD_val keyD keyD_eqD k kvs
    rcases lookD_val keyD keyD_eqD k kvs hr with ⟨h2, h3⟩ | ⟨d, v, h2, h3, h4⟩
    · exact .inl ⟨h2, by rw [h1, h3]; rfl, .inl ⟨kvs, k, rd, rfl, h3.symm⟩⟩
    · exact .inr ⟨d, v, h2, by rw [h1, h3]; rfl, .inl ⟨kvs, k, rd, rfl, h3.symm⟩, h4⟩
  | @dT _ _ kvs hk _ hr =>
    obtain ⟨k, b, rfl, rfl, hb, _⟩ := tup_key s hx r
    subst hk
    have h1 := hasD_val (fun k : List Key => D.tup (k.map keyD)) tupD_eqD k kvs
    rcases lookD_val (fun k : List Key => D.tup (k.map keyD)) tupD_eqD k kvs hr with ⟨h2, h3⟩ | ⟨d, v, h2, h3, h4⟩
    · exact .inl ⟨h2, by rw [h1, h3]; rfl, .inr ⟨kvs, k, b, rd, rfl, hb, h3.symm⟩⟩
    · exact .inr ⟨d, v, h2, by rw [h1, h3]; rfl, .inr ⟨kvs, k, b, rd, rfl, hb, h3.symm⟩, h4⟩

/-! ### in -/
def rInM (K : PySem.W.Frag) (neg : Bool) : R2 := fun x y H Q => ∃ d ds, Dp K H x d ∧ (Dp K H y (.list ds) ∨ Dp K H y (.tuple ds)) ∧ d.canLay0 = true ∧ PyData.canLayAll0 ds = true ∧ min (PyData.depthAll ds) d.depth ≤ 200 ∧
  Q (.bl (if neg then !(ds.any fun z => PyData.eqv z d) else ds.any fun z => PyData.eqv z d)) H
theorem op_inM (hu : X.A.units + 201 < cLine) : OpR X (compareOp .In) (rInM X.K false) := by
  intro pins s σ H x y v u Q I rx ry h
  obtain ⟨d, ds, hd, he, sd, se, hm, q⟩ := h
  obtain ⟨as, r1⟩ := Dp.reads I d x v hd rx
  rcases he with he | he
  · obtain ⟨bs, r2⟩ := Dp.reads I (.list ds) y u he ry
    exact SeqAt.in_list_reads r2 r1 se sd (by omega) ⟨.bl _, H, I, rfl, q⟩
  · obtain ⟨bs, r2⟩ := Dp.reads I (.tuple ds) y u he ry
    exact SeqAt.in_tuple_reads r2 r1 se sd (by omega) ⟨.bl _, H, I, rfl, q⟩
theorem op_ninM (hu : X.A.units + 201 < cLine) : OpR X (compareOp .NotIn) (rInM X.K true) := by
  intro pins s σ H x y v u Q I rx ry h
  obtain ⟨d, ds, hd, he, sd, se, hm, q⟩ := h
  obtain ⟨as, r1⟩ := Dp.reads I d x v hd rx
  rcases he with he | he
  · obtain ⟨bs, r2⟩ := Dp.reads I (.list ds) y u he ry
    exact SeqAt.notIn_list_reads r2 r1 se sd (by omega) ⟨.bl _, H, I, rfl, q⟩
  · obtain ⟨bs, r2⟩ := Dp.reads I (.tuple ds) y u he ry
    exact SeqAt.notIn_tuple_reads r2 r1 se sd (by omega) ⟨.bl _, H, I, rfl, q⟩
theorem any_eqv : ∀ (xs : List D) (d : D), okDs xs = true → okD d = true → (toPys xs).any (fun z => PyData.eqv z (toPy d)) = xs.any fun y => eqD y d
  | [], _, _, _ => rfl
  | x :: xs, d, h, hd => by
    rw [okDs, Bool.and_eq_true] at h
    rw [toPys, List.any_cons, List.any_cons, py_eqv x d h.1 hd, any_eqv xs d h.2 hd]
def rDIn (neg : Bool) : R2 := fun y x H Q => ∃ a o, x = .ref a ∧ DGet H a y o ∧ Q (.bl (if neg then !o.isSome else o.isSome)) H
theorem op_din (hu : X.A.units + 1 < cLine) : OpR X (compareOp .In) (rDIn false) := by
  intro pins s σ H x y v u Q I rx ry h
  obtain ⟨a, o, rfl, g, q⟩ := h
  obtain rfl : u = Value.ref a := ry
  exact d_in hu I g rx fun s3 I3 => ⟨.bl o.isSome, H, I3, rfl, q⟩
theorem op_dnin (hu : X.A.units + 1 < cLine) : OpR X (compareOp .NotIn) (rDIn true) := by
  intro pins s σ H x y v u Q I rx ry h
  obtain ⟨a, o, rfl, g, q⟩ := h
  obtain rfl : u = Value.ref a := ry
  exact d_notIn hu I g rx fun s3 I3 => ⟨.bl (!o.isSome), H, I3, rfl, q⟩
end
end Mi

set_option Elab.async false
set_option linter.all false
set_option maxRecDepth 100000
set_option maxHeartbeats 4000000
namespace Mi
open PySem PySem.Spec PyProof.Rows L2

/-- where the machine's bound of the C stack is far -/
structure Hu (X : Cx) : Prop where
  h : X.A.units + 201 < cLine
section
variable {W : Wd} {X : Cx}
abbrev rInAll (K : PySem.W.Frag) (neg : Bool) : R2 := fun x y H Q => (rInM K neg x y H Q ∨ (∃ (c : Nat) (z : Str), x = .str ⟨#[c]⟩ ∧ y = .str z ∧ Q (.bl (if neg then !decide (c ∈ z.cps.toList) else decide (c ∈ z.cps.toList))) H)) ∨ rDIn neg x y H Q
theorem op_inAll (hu : Hu X) : OpR X (compareOp .In) (rInAll X.K false) := ((op_inM hu.h).or op_in_sign).or (op_din (by have := hu.h; omega))
theorem op_ninAll (hu : Hu X) : OpR X (compareOp .NotIn) (rInAll X.K true) := ((op_ninM hu.h).or op_notIn_sign).or (op_dnin (by have := hu.h; omega))
theorem DpAll.of_tup {F H : Hp} (s : Sub F H) {ys : List D} {vs : List V} {a : Addr} (hs : SqT W.K H a vs) (h : okDs ys = true) (r : Reps W F ys vs) : Dp W.K H (.ref a) (.tuple (toPys ys)) := .tup hs (dps_of s h r)
theorem opv_inX (neg : Bool) {F H : Hp} {C : Cells} {x y : V} {a b : D} {k : Bool} {Q : VK} (hK : X.K = W.K) (s : Sub F H) (c : CellOk W F C H) (ra : RepR W F H a x) (rb : RepR W F H b y) (e : inD a b = some k)
    (q : ∀ F' H' v, Stp W F H F' C H' → Rep W F' (.bl (if neg then !k else k)) v → Q v H') : rInAll X.K neg x y H Q := by
  have q0 : Q (.bl (if neg then !k else k)) H := q F H _ (Stp.refl s c) (.bl _)
  have seq : ∀ ys vs p, (SqT W.K H p vs ∨ SqL W.K H p vs) → Reps W F ys vs → y = .ref p → (if okD a && okDs ys && (decide (dep a ≤ 200) || decide (deps ys ≤ 200)) then some (ys.any fun y => eqD y a) else none) = some k → rInAll X.K neg x y H Q := by
    intro ys vs p hs r ey e
    split at e
    · rename_i h
      simp only [Bool.and_eq_true, Bool.or_eq_true, decide_eq_true_eq] at h
      obtain ⟨⟨h1, h2⟩, h3⟩ := h
      obtain ⟨p1, p2⟩ := ra.dp s h1
      subst ey
      refine .inl (.inl ⟨toPy a, toPys ys, hK ▸ p1, ?_, p2, cans_of r h2, ?_, ?_⟩)
      · rcases hs with hs | hs
        · exact .inr (hK ▸ .tup hs (dps_of s h2 r))
        · exact .inl (hK ▸ .lst hs (dps_of s h2 r))
      · rw [py_deps ys h2, py_dep a h1]; omega
      · rw [any_eqv ys a h2 h1]
        cases e
        exact q0
    · cases e
  cases b with
  | tup ys =>
    obtain ⟨p, vs, ey, h1, _, h2, _⟩ := rb.tup_inv s
    exact seq ys vs p (.inl (SqT.of h1)) h2 ey (by cases a <;> exact e)
  | lst ys =>
    obtain ⟨p, vs, ey, h1, h2⟩ := rb.lst_inv s
    exact seq ys vs p (.inr (SqL.of h1)) h2 ey (by cases a <;> exact e)
  | frt ys =>
    obtain ⟨p, vs, ey, h1, h2⟩ := rb.frt_inv s
    exact seq ys vs p (.inl h1) h2 ey (by cases a <;> exact e)
  | str z =>
    cases a <;> try (cases e; done)
    rename_i w
    match w, e, ra with
    | [ch], e, ra =>
      have e' : some (decide (ch ∈ z)) = some k := e
      cases e'
      refine .inl (.inr ⟨ch, toS z, ra.str_inv.1, rb.str_inv.1, ?_⟩)
      have : (toS z).cps.toList = z := by simp [toS]
      rw [this]
      exact q0
    | [], e, _ => cases e
    | _ :: _ :: _, e, _ => cases e
  | dct t ks vs =>
    have e' : (if keyOk t a then some (hasD ks a) else none) = some k := by cases a <;> exact e
    split at e'
    · rename_i hx
      cases e'
      obtain ⟨p, o, rfl, rd, ro⟩ := rb.dct_inv s
      rcases dget_of s ro rd hx ra with ⟨_, h2, h3⟩ | ⟨d, v, _, h2, h3, _⟩
      · refine .inr ⟨p, _, rfl, h3, ?_⟩
        rw [h2] at q0; exact q0
      · refine .inr ⟨p, _, rfl, h3, ?_⟩
        rw [h2] at q0; exact q0
    · cases e'
  | frd ks vs => cases a <;> cases e
  | non => cases a <;> cases e
  | bl _ => cases a <;> cases e
  | int _ => cases a <;> cases e
  | fn _ => cases a <;> cases e
  | cell => cases a <;> cases e
  | frl _ => cases a <;> cases e
theorem opv_in (hK : X.K = W.K) : OpV W (cmpD .isin) (rInAll X.K false) := by
  intro F H C x y a b d Q s c ra rb e q
  simp only [cmpD] at e
  cases e1 : inD a b with
  | none => rw [e1] at e; cases e
  | some k =>
    rw [e1] at e; cases e
    exact opv_inX false hK s c ra rb e1 q
theorem opv_nin (hK : X.K = W.K) : OpV W (cmpD .notin) (rInAll X.K true) := by
  intro F H C x y a b d Q s c ra rb e q
  simp only [cmpD] at e
  cases e1 : inD a b with
  | none => rw [e1] at e; cases e
  | some k =>
    rw [e1] at e; cases e
    exact opv_inX true hK s c ra rb e1 q

/-! ### a negative, an item -/
theorem s_neg {a : E} {x : Expr} {pos : Pos} {cl : Call} (ha : PE X x (tR W cl a)) : PE X (.UnaryOp .USub x pos) (tS W cl (.neg a)) := (pe_un un_neg ha).imp fun σ H Q ⟨H0, F, σd, C, d, C', rl, q, k⟩ => by
  simp only [ev] at q
  obtain ⟨da, C1, e1, q⟩ := R.bind_ok q
  obtain ⟨ef, rfl⟩ := R.of_ok q
  refine ⟨H0, F, σd, C, da, C', rl, e1, fun F1 H1 v t r => ?_⟩
  cases da <;> try cases ef
  exact ⟨_, r.int_inv, k F1 H1 _ t (.int _)⟩
theorem ixD_eq (n : Nat) (i : Int) : ixD n i = ixN n i := rfl
theorem ix_dict (hu : X.A.units + 1 < cLine) : IxR X (fun x y H Q => ∃ a v, x = .ref a ∧ DGet H a y (some v) ∧ Q v H) := by
  intro value slice pins s σ H x y v u Q I rx ry h hs
  obtain ⟨a, z, rfl, g, q⟩ := h
  obtain rfl : v = Value.ref a := rx
  have hT := dict_typeIs I g
  have h2 := d_getItem (A := X.A) (E := X.xe) (Q := EP X pins σ Q) hu I g ry fun w' s3 I3 rw' => ⟨z, H, I3, rw', q⟩
  unfold subscriptTail
  refine wpAny_bind ?_
  rw [getitemInPython_of_ne hT.not_modules]
  refine wpAny_bind (wpAny_specialOf hT PySem.F.slot_dict_getitem.lookup ?_)
  have fin : wpAny (model X.prog X.w) X.A (subscripted slice false (.ref a) u) (fun r s₃ => wpAny (model X.prog X.w) X.A (letTemporaryGo value (.ref a) r >>= fun _ => pure r) (EP X pins σ Q) X.xe s₃) X.xe s := by
    rw [hs]
    exact wpAny_operating (wpAny_mono h2 (fun r s₃ h₃ => wpAny_bind (wpAny_letTemporaryGo (wpAny_pure h₃))) fun _ _ x => x)
  first
    | exact wpAny_pure (wpAny_bind fin)
    | exact wpAny_bind (wpAny_pure (wpAny_bind fin))
    | exact wpAny_bind fin
abbrev rIxAll (K : PySem.W.Frag) : R2 := fun x y H Q => rIx K x y H Q ∨ ∃ a v, x = .ref a ∧ DGet H a y (some v) ∧ Q v H
theorem ix_all (hu : Hu X) : IxR X (rIxAll X.K) := ix_seq.or (ix_dict (by have := hu.h; omega))
theorem atD_rep {F : Hp} {xs : List D} {vs : List V} {i : Int} {d : D} (r : Reps W F xs vs) (h : atD xs i = some d) : ∃ v, atI vs i = some v ∧ Rep W F d v := by
  unfold atD at h
  cases e : ixD xs.length i with
  | none => rw [e] at h; cases h
  | some j =>
    rw [e] at h
    obtain ⟨v, h1, h2⟩ := r.get (show xs[j]? = some d from h)
    refine ⟨v, ?_, h2⟩
    unfold atI
    rw [← r.len, ← ixD_eq, e]
    exact h1
theorem cell_at {C : Cells} {i : Int} {z : Int} (h : ((ixD C.length i).bind fun j => C[j]?) = some z) : atI (C.map V.int) i = some (.int z) := by
  unfold atI
  rw [List.length_map, ← ixD_eq]
  cases e : ixD C.length i with
  | none => rw [e] at h; cases h
  | some j =>
    rw [e] at h
    show (C.map V.int)[j]? = _
    rw [List.getElem?_map, show C[j]? = some z from h]
    rfl
theorem s_idx {a i : E} {x y : Expr} {pos : Pos} {cl : Call} (hu : Hu X) (hK : X.K = W.K) (ha : PE X x (tR W cl a)) (hi : PE X y (tR W cl i)) (hs : PlainIx y) : PE X (.Subscript x y pos) (tS W cl (.idx a i)) :=
  (pe_ix (ix_all hu) ha hi hs).imp fun σ H Q ⟨H0, F, σd, C, d, C', rl, q, k⟩ => by
    simp only [ev] at q
    obtain ⟨da, C1, e1, q⟩ := R.bind_ok q
    obtain ⟨db, C2, e2, q⟩ := R.bind_ok q
    obtain ⟨ef, rfl⟩ := R.of_ok q
    refine ⟨H0, F, σd, C, da, C1, rl, e1, fun F1 H1 vx t1 r1 => ⟨H0, F1, σd, C1, db, C', rl.stp t1, e2, fun F2 H2 vy t2 r2 => ?_⟩⟩
    have r1 := r1.stp t2
    have s := t2.sub
    have fin : ∀ v, Rep W F2 d v → Q v H2 := fun v r => k F2 H2 v (t1.trans t2) r
    have fin : ∀ v, Rep W F2 d v → Q v H2 := fin
    cases da with
    | tup xs =>
      cases db <;> try (cases ef; done)
      obtain ⟨p, vs, rfl, h1, _, h2, _⟩ := r1.tup_inv s
      obtain ⟨v, h3, h4⟩ := atD_rep h2 ef
      exact .inl (.inr (.inl ⟨p, vs, _, v, rfl, r2.int_inv, SqT.of h1, h3, fin v h4⟩))
    | lst xs =>
      cases db <;> try (cases ef; done)
      obtain ⟨p, vs, rfl, h1, h2⟩ := r1.lst_inv s
      obtain ⟨v, h3, h4⟩ := atD_rep h2 ef
      exact .inl (.inl ⟨p, vs, _, v, rfl, r2.int_inv, SqL.of h1, h3, fin v h4⟩)
    | str z =>
      cases db <;> try (cases ef; done)
      rename_i i
      have ef' : (atN z i).map (fun c => D.str [c]) = some d := ef
      cases e3 : atN z i with
      | none => rw [e3] at ef'; cases ef'
      | some c =>
        rw [e3] at ef'
        cases ef'
        obtain ⟨h1, h2⟩ := r1.str_inv
        have hz : (toS z).cps.toList = z := by simp [toS]
        refine .inl (.inr (.inr ⟨toS z, i, c, h1, r2.int_inv, by rw [toS_len]; exact strV_len h2, by rw [hz]; exact e3, fin _ (.str [c] ?_)⟩))
        have hm : c ∈ z := by
          unfold atN at e3
          cases e4 : ixD z.length i with
          | none => rw [e4] at e3; cases e3
          | some j => rw [e4] at e3; exact List.mem_of_getElem? e3
        exact strV_of (fun c' hc => by rw [List.mem_singleton.mp hc]; exact strV_lt h2 c hm) (by simp)
    | dct t ks vs =>
      have ef' : (if keyOk t db then lookD ks vs db else none) = some d := by cases db <;> exact ef
      split at ef'
      · rename_i hx
        obtain ⟨p, o, rfl, rd, ro⟩ := r1.dct_inv s
        rcases dget_of s ro rd hx r2 with ⟨h1, _, _⟩ | ⟨d', v, h1, _, h3, h4⟩
        · rw [h1] at ef'; cases ef'
        · rw [h1] at ef'; cases ef'
          exact .inr ⟨p, v, rfl, h3, fin v h4⟩
      · cases ef'
    | cell =>
      cases db <;> try (cases ef; done)
      rename_i i
      have ef' : ((ixD C'.length i).bind fun j => C'[j]?).map D.int = some d := ef
      cases e3 : (ixD C'.length i).bind fun j => C'[j]? with
      | none => rw [e3] at ef'; cases ef'
      | some z =>
        rw [e3] at ef'
        cases ef'
        obtain ⟨p, rfl, hc⟩ := r1.cell_inv
        exact .inl (.inl ⟨p, _, i, .int z, rfl, r2.int_inv, SqL.of (t2.cell.at_ p hc).1, cell_at e3, fin _ (.int z)⟩)
    | frd ks vs => cases db <;> cases ef
    | non => cases db <;> cases ef
    | bl _ => cases db <;> cases ef
    | int _ => cases db <;> cases ef
    | fn _ => cases db <;> cases ef
    | frl _ => cases db <;> cases ef
    | frt _ => cases db <;> cases ef
end
end Mi

set_option Elab.async false
set_option linter.all false
set_option maxRecDepth 100000
set_option maxHeartbeats 4000000
namespace Mi
open PySem PySem.Spec PyProof.Rows L2

def notStar : Expr → Bool
  | .Starred .. => false
  | _ => true
theorem star_cons {e : Expr} {es : List Expr} {env : Env} (h : notStar e = true) : starEach (e :: es) env = (false, eval e env) :: starEach es env := by
  cases e <;> first | rfl | cases h
theorem star_all : ∀ {es : List Expr} {env : Env}, es.all notStar = true → starEach es env = es.map fun e => (false, eval e env)
  | [], _, _ => rfl
  | e :: es, env, h => by
    rw [List.all_cons, Bool.and_eq_true] at h
    rw [star_cons h.1, star_all h.2]
    rfl
theorem back_plain {pos : Pos} {es : List Expr} {env : Env} (h : es.all notStar = true) : (backTo pos (starEach es env)).any (·.1) = false := by
  rw [star_all h]
  unfold backTo
  induction es with
  | nil => rfl
  | cons e es ih =>
    rw [List.all_cons, Bool.and_eq_true] at h
    rw [List.map_cons, List.map_cons, List.any_cons, ih h.2]
    rfl
theorem back_map {pos : Pos} {es : List Expr} {env : Env} (h : es.all notStar = true) : backTo pos (starEach es env) = es.map fun e => (false, eval e env) := by
  rw [star_all h]
  unfold backTo
  rw [List.map_map]
  rfl

section
variable {W : Wd} {X : Cx} {cl : Call}
/-! ### argument lists -/
theorem as_nil : PA X [] (tSs W cl .nil) := pa_nil.imp fun σ H Q ⟨H0, F, σd, C, ds, C', rl, q, k⟩ => by
  simp only [evs] at q
  cases q
  exact k F H [] (Stp.refl rl.sub rl.cell) .nil
theorem as_cons {m : E} {ms : Es} {e : Expr} {es : List Expr} (ha : PE X e (tS W cl m)) (hr : PA X es (tSs W cl ms)) (hs : notStar e = true) : PA X (e :: es) (tSs W cl (.cons m ms)) :=
  (pa_cons ha hr (star_cons hs)).imp fun σ H Q ⟨H0, F, σd, C, ds, C', rl, q, k⟩ => by
    simp only [evs] at q
    obtain ⟨d, C1, e1, q⟩ := R.bind_ok q
    obtain ⟨ds', C2, e2, q⟩ := R.bind_ok q
    cases q
    refine ⟨H0, F, σd, C, d, C1, rl, e1, fun F1 H1 v t1 r1 => ⟨H0, F1, σd, C1, ds', C', rl.stp t1, e2, fun F2 H2 vs t2 r2 => ?_⟩⟩
    exact k F2 H2 (v :: vs) (t1.trans t2) (.cons (r1.ext t2.ext) r2)
theorem ar_nil : PA X [] (tRs W cl .nil) := pa_nil.imp fun σ H Q ⟨H0, F, σd, C, ds, C', rl, q, k⟩ => by
  simp only [evs] at q
  cases q
  exact k F H [] (Stp.refl rl.sub rl.cell) .nil
theorem ar_cons {m : E} {ms : Es} {e : Expr} {es : List Expr} (ha : PE X e (tR W cl m)) (hr : PA X es (tRs W cl ms)) (hs : notStar e = true) : PA X (e :: es) (tRs W cl (.cons m ms)) :=
  (pa_cons ha hr (star_cons hs)).imp fun σ H Q ⟨H0, F, σd, C, ds, C', rl, q, k⟩ => by
    simp only [evs] at q
    obtain ⟨d, C1, e1, q⟩ := R.bind_ok q
    obtain ⟨ds', C2, e2, q⟩ := R.bind_ok q
    cases q
    refine ⟨H0, F, σd, C, d, C1, rl, e1, fun F1 H1 v t1 r1 => ⟨H0, F1, σd, C1, ds', C', rl.stp t1, e2, fun F2 H2 vs t2 r2 => ?_⟩⟩
    exact k F2 H2 (v :: vs) (t1.trans t2) (.cons (r1.stp t2) r2)

/-! ### displays -/
def Es.len : Es → Nat
  | .nil => 0
  | .cons _ r => r.len + 1
theorem evs_len : ∀ {ms : Es} {σd : List Sl} {C C' : Cells} {ds : List D}, evs cl ms σd C = .ok ds C' → ds.length = ms.len
  | .nil, _, _, _, _, q => by simp only [evs] at q; cases q; rfl
  | .cons m ms, _, _, _, _, q => by
    simp only [evs] at q
    obtain ⟨d, C1, e1, q⟩ := R.bind_ok q
    obtain ⟨ds', C2, e2, q⟩ := R.bind_ok q
    cases q
    rw [List.length_cons, evs_len e2]
    rfl
theorem s_tup {ms : Es} {es : List Expr} {k : Nat} {pos : Pos} (h : PA X es (tSs W cl ms)) (hl : ms.len ≤ 1000) : PE X (.Tuple es k pos) (tS W cl (.tup ms)) := (pe_tup h).imp fun σ H Q ⟨H0, F, σd, C, d, C', rl, q, kk⟩ => by
  simp only [ev] at q
  obtain ⟨ds, C1, e1, q⟩ := R.bind_ok q
  cases q
  refine ⟨H0, F, σd, C, ds, C', rl, e1, fun F1 H1 vs t r => ⟨?_, fun p hp => ?_⟩⟩
  · rw [← r.len, evs_len e1]; exact Nat.le_of_lt (small1000 hl)
  · exact kk _ _ _ (t.trans (Stp.new1 t.sub t.cell hp)) (.tup upd_same (r.ext (Ext.upd (t.sub.none_of hp))))
theorem f_lst {ms : Es} {es : List Expr} {pos : Pos} (h : PA X es (tSs W cl ms)) (hl : ms.len ≤ 1000) : PE X (.List es pos) (tF W cl (.lst ms)) := (pe_lst h).imp fun σ H Q ⟨H0, F, σd, C, d, C', rl, q, kk⟩ => by
  simp only [ev] at q
  obtain ⟨ds, C1, e1, q⟩ := R.bind_ok q
  cases q
  refine ⟨H0, F, σd, C, ds, C', rl, e1, fun F1 H1 vs t r => ⟨?_, fun p hp => ?_⟩⟩
  · rw [← r.len, evs_len e1]; exact Nat.le_of_lt (small1000 hl)
  · have hn : H p = none := by
      cases e : H p with
      | none => rfl
      | some o =>
        by_cases hc : W.ca = some p
        · have := (t.cell.at_ p hc).1
          rw [hp] at this; cases this
        · have := t.keep p o e hc
          rw [hp] at this; cases this
    exact kk _ _ _ (t.trans (Stp.tmp t.sub t.cell hp)) ⟨p, _, rfl, hn, upd_same, t.sub.none_of hp, t.cell.ne hp, .lst r⟩
/-- what is new behind a step was nowhere ahead of it -/
theorem Stp.none_back {F H F' H' : Hp} {C' : Cells} (t : Stp W F H F' C' H') {p : Addr} (hp : H' p = none) : H p = none := by
  cases e : H p with
  | none => rfl
  | some o =>
    by_cases hc : W.ca = some p
    · have := (t.cell.at_ p hc).1
      rw [hp] at this; cases this
    · have := t.keep p o e hc
      rw [hp] at this; cases this
theorem fr_new {F H F1 H1 : Hp} {C : Cells} {p : Addr} {o : HO} {d : D} {Q : VK} (t : Stp W F H F1 C H1) (hp : H1 p = none) (r : RepO W F1 d o)
    (kk : ∀ F' H' v, Stp W F H F' C H' → FrR W H F' H' d v → Q v H') : Q (.ref p) (upd H1 p o) :=
  kk _ _ _ (t.trans (Stp.tmp t.sub t.cell hp)) ⟨p, o, rfl, t.none_back hp, upd_same, t.sub.none_of hp, t.cell.ne hp, r⟩

/-! ### slices -/
def tO (W : Wd) (cl : Call) (m : Oe) : TO := fun σ H Q => ∃ H0 F σd C o C', Rel W H0 F σd C σ H ∧ evo cl m σd C = .ok o C' ∧ ∀ F' H', Stp W F H F' C' H' → Q o H'
theorem PO.imp {X : Cx} {e : Option Expr} {t t' : TO} (h : PO X e t) (i : ∀ σ H Q, t' σ H Q → t σ H Q) : PO X e t' := ⟨fun pins s σ H Q I q => h.run pins s σ H Q I (i σ H Q q)⟩
theorem o_no : PO X none (tO W cl .no) := PO.imp po_none fun σ H Q ⟨H0, F, σd, C, o, C', rl, q, k⟩ => by
  simp only [evo] at q
  cases q
  exact k F H (Stp.refl rl.sub rl.cell)
theorem o_so {m : E} {e : Expr} (h : PE X e (tR W cl m)) : PO X (some e) (tO W cl (.so m)) := PO.imp (po_some h) fun σ H Q ⟨H0, F, σd, C, o, C', rl, q, k⟩ => by
  simp only [evo] at q
  obtain ⟨d, C1, e1, q⟩ := R.bind_ok q
  cases d <;> try (cases q; done)
  cases q
  exact ⟨H0, F, σd, C, _, C', rl, e1, fun F1 H1 v t r => ⟨_, r.int_inv, k F1 H1 t⟩⟩
theorem cutIx_eq (n d : Nat) (o : Option Int) : cutIx n d o = HT.sIx n d o := by cases o <;> rfl
theorem cutL_rep {F : Hp} {xs : List D} {vs : List V} (r : Reps W F xs vs) (lo hi : Option Int) : Reps W F (cutL xs lo hi) (cutV vs lo hi) := by
  unfold cutL cutV
  rw [cutIx_eq, cutIx_eq, r.len]
  exact (r.drop _).take _
theorem cutL_whole {α : Type} (xs : List α) (lo hi : Option Int) (h : HT.sIx xs.length 0 lo = 0 ∧ HT.sIx xs.length xs.length hi = xs.length) : cutL xs lo hi = xs := by
  unfold cutL
  rw [cutIx_eq, cutIx_eq, h.1, h.2]
  simp
theorem slD_str (X : Cx) : SlR X (fun x lo hi H Q => ∃ z, x = .str z ∧ z.length ≤ sizeLine ∧ Q (.str (cutS z lo hi)) H) := by
  intro pins s σ H x v vl vu lo hi sl Q I r hs pl ph h
  exact sl_str pins s σ H x v vl vu lo hi sl Q I r hs pl ph h
end
end Mi

set_option Elab.async false
set_option linter.all false
set_option maxRecDepth 100000
set_option maxHeartbeats 4000000
namespace Mi
open PySem PySem.Spec PyProof.Rows L2

section
variable {W : Wd} {X : Cx} {cl : Call}
abbrev rSlAll (K : PySem.W.Frag) : V → Option Int → Option Int → Hp → VK → Prop := fun x lo hi H Q => (rSlA K x lo hi H Q ∨ rSlL K x lo hi H Q) ∨ rSlS x lo hi H Q
theorem sl_all : SlR X (rSlAll X.K) := (sl_tupA.or sl_list).or sl_str
theorem s_sl {a : E} {lo hi : Oe} {x : Expr} {l h : Option Expr} {p2 pos : Pos} (hK : X.K = W.K) (ha : PE X x (tR W cl a)) (hl : PO X l (tO W cl lo)) (hh : PO X h (tO W cl hi)) : PE X (.Subscript x (.Slice l h none p2) pos) (tS W cl (.sl a lo hi)) :=
  (pe_slice sl_all ha hl hh).imp fun σ H Q ⟨H0, F, σd, C, d, C', rl, q, k⟩ => by
    simp only [ev] at q
    obtain ⟨da, C1, e1, q⟩ := R.bind_ok q
    obtain ⟨ol, C2, e2, q⟩ := R.bind_ok q
    obtain ⟨oh, C3, e3, q⟩ := R.bind_ok q
    obtain ⟨ef, rfl⟩ := R.of_ok q
    refine ⟨H0, F, σd, C, da, C1, rl, e1, fun F1 H1 vx t1 r1 => ⟨H0, F1, σd, C1, ol, C2, rl.stp t1, e2, fun F2 H2 t2 => ⟨H0, F2, σd, C2, oh, C', (rl.stp t1).stp t2, e3, fun F3 H3 t3 => ?_⟩⟩⟩
    have r := (r1.stp t2).stp t3
    have t := (t1.trans t2).trans t3
    have s := t3.sub
    cases da with
    | tup xs =>
      cases ef
      obtain ⟨p, vs, rfl, h1, _, h2, h3⟩ := r.tup_inv s
      refine .inl (.inl ⟨p, vs, rfl, SqT.of h1, fun w => ?_, fun _ q hq => ?_⟩)
      · have e : cutL xs ol oh = xs := cutL_whole xs ol oh (by rw [h2.len]; exact w)
        rw [e] at k
        exact k F3 H3 _ t h3
      · exact k _ _ _ (t.trans (Stp.new1 s t3.cell hq)) (.tup upd_same ((cutL_rep h2 ol oh).ext (Ext.upd (s.none_of hq))))
    | lst xs =>
      cases ef
      obtain ⟨p, vs, rfl, h1, h2⟩ := r.lst_inv s
      refine .inl (.inr ⟨p, vs, rfl, SqL.of h1, fun q hq => ?_⟩)
      exact k _ _ _ (t.trans (Stp.new1 s t3.cell hq)) (.lst upd_same ((cutL_rep h2 ol oh).ext (Ext.upd (s.none_of hq))))
    | frl xs =>
      cases ef
      obtain ⟨p, vs, rfl, h1, h2⟩ := r.frl_inv s
      refine .inl (.inr ⟨p, vs, rfl, hK ▸ h1, fun q hq => ?_⟩)
      exact k _ _ _ (t.trans (Stp.new1 s t3.cell hq)) (.lst upd_same ((cutL_rep h2 ol oh).ext (Ext.upd (s.none_of hq))))
    | str z =>
      cases ef
      obtain ⟨h1, h2⟩ := r.str_inv
      refine .inr ⟨toS z, h1, by rw [toS_len]; exact strV_len h2, ?_⟩
      have e : cutS (toS z) ol oh = toS (cutL z ol oh) := by
        unfold cutS cutL
        rw [cutIx_eq, cutIx_eq, toS_len]
        simp [toS]
      rw [e]
      have hs : ∀ c ∈ cutL z ol oh, c ∈ z := fun c hc => List.mem_of_mem_drop (List.mem_of_mem_take hc)
      have hl : (cutL z ol oh).length ≤ z.length := by
        unfold cutL
        rw [List.length_take, List.length_drop]
        omega
      exact k F3 H3 _ t (.str _ (strV_of (fun c hc => strV_lt h2 c (hs c hc)) (Nat.le_trans hl (strV_len h2))))
    | _ => cases ef
theorem f_slL {a : E} {lo hi : Oe} {x : Expr} {l h : Option Expr} {p2 pos : Pos} : True := trivial

/-! ### [::-1] -/
theorem s_revL {a : E} {x : Expr} {k : Nat} {p1 p2 p3 pos : Pos} (ha : PE X x (tR W cl a)) : PE X (.Subscript x (.Slice none none (some (.UnaryOp .USub (.Constant (.int 1) k p1) p2)) p3) pos) (fun σ H Q => ∃ H0 F σd C xs C', Rel W H0 F σd C σ H ∧ ev cl a σd C = .ok (.lst xs) C' ∧ ∀ F' H' v, Stp W F H F' C' H' → Rep W F' (.lst xs.reverse) v → Q v H') :=
  (pe_revL ha).imp fun σ H Q ⟨H0, F, σd, C, xs, C', rl, q, kk⟩ => by
    refine ⟨H0, F, σd, C, _, C', rl, q, fun F1 H1 v t r => ?_⟩
    obtain ⟨p, vs, rfl, h1, h2⟩ := r.lst_inv t.sub
    refine ⟨p, vs, rfl, SqL.of h1, fun q hq => ?_⟩
    exact kk _ _ _ (t.trans (Stp.new1 t.sub t.cell hq)) (.lst upd_same (h2.reverse.ext (Ext.upd (t.sub.none_of hq))))

/-! ### and, or, not, if: values -/
theorem s_not {a : E} {x : Expr} {pos : Pos} (hK : X.K = W.K) (ha : PE X x (tR W cl a)) : PE X (.UnaryOp .Not x pos) (tS W cl (.not a)) := (pe_notT ha).imp fun σ H Q ⟨H0, F, σd, C, d, C', rl, q, k⟩ => by
  simp only [ev] at q
  obtain ⟨da, C1, e1, q⟩ := R.bind_ok q
  obtain ⟨ef, rfl⟩ := R.of_ok q
  cases ht : truthD da with
  | none => rw [ht] at ef; cases ef
  | some b =>
    rw [ht] at ef; cases ef
    exact ⟨H0, F, σd, C, da, C', rl, e1, fun F1 H1 v t r => ⟨b, tru t.sub r ht hK, k F1 H1 _ t (.bl _)⟩⟩
inductive AllS (X : Cx) (W : Wd) (cl : Call) : Es → List Expr → Prop
  | nil : AllS X W cl .nil []
  | cons {m : E} {ms : Es} {e : Expr} {es : List Expr} : PE X e (tS W cl m) → AllS X W cl ms es → AllS X W cl (.cons m ms) (e :: es)
theorem s_and (hK : X.K = W.K) : ∀ {ms : Es} {xs : List Expr} {m : E} {x : Expr} {pos : Pos}, PE X x (tS W cl m) → AllS X W cl ms xs → PE X (.BoolOp .And (x :: xs) pos) (tS W cl (.and m ms))
  | _, _, m, x, pos, h, .nil => (pe_one h).imp fun σ H Q ⟨H0, F, σd, C, d, C', rl, q, k⟩ => by
    simp only [ev] at q
    obtain ⟨da, C1, e1, q⟩ := R.bind_ok q
    simp only [evAnd] at q
    cases q
    exact ⟨H0, F, σd, C, _, C', rl, e1, k⟩
  | _, _, m, x, pos, h, .cons h2 r => (pe_andT h (s_and hK h2 r)).imp fun σ H Q ⟨H0, F, σd, C, d, C', rl, q, k⟩ => by
    simp only [ev] at q
    obtain ⟨da, C1, e1, q⟩ := R.bind_ok q
    simp only [evAnd] at q
    refine ⟨H0, F, σd, C, da, C1, rl, e1, fun F1 H1 v t r => ?_⟩
    cases ht : truthD da with
    | none => rw [ht] at q; cases q
    | some b =>
      refine ⟨b, tru t.sub (.inl r) ht hK, ?_⟩
      rw [ht] at q
      cases b with
      | true =>
        rw [if_pos rfl]
        exact ⟨H0, F1, σd, C1, d, C', rl.stp t, by simp only [ev]; exact q, fun F' H' v' t' r' => k F' H' v' (t.trans t') r'⟩
      | false =>
        rw [if_neg (by simp)]
        cases q
        exact k F1 H1 v t r
theorem s_or (hK : X.K = W.K) : ∀ {ms : Es} {xs : List Expr} {m : E} {x : Expr} {pos : Pos}, PE X x (tS W cl m) → AllS X W cl ms xs → PE X (.BoolOp .Or (x :: xs) pos) (tS W cl (.or m ms))
  | _, _, m, x, pos, h, .nil => (pe_one h).imp fun σ H Q ⟨H0, F, σd, C, d, C', rl, q, k⟩ => by
    simp only [ev] at q
    obtain ⟨da, C1, e1, q⟩ := R.bind_ok q
    simp only [evOr] at q
    cases q
    exact ⟨H0, F, σd, C, _, C', rl, e1, k⟩
  | _, _, m, x, pos, h, .cons h2 r => (pe_orT h (s_or hK h2 r)).imp fun σ H Q ⟨H0, F, σd, C, d, C', rl, q, k⟩ => by
    simp only [ev] at q
    obtain ⟨da, C1, e1, q⟩ := R.bind_ok q
    simp only [evOr] at q
    refine ⟨H0, F, σd, C, da, C1, rl, e1, fun F1 H1 v t r => ?_⟩
    cases ht : truthD da with
    | none => rw [ht] at q; cases q
    | some b =>
      refine ⟨b, tru t.sub (.inl r) ht hK, ?_⟩
      rw [ht] at q
      cases b with
      | false =>
        rw [if_neg (by simp)]
        exact ⟨H0, F1, σd, C1, d, C', rl.stp t, by simp only [ev]; exact q, fun F' H' v' t' r' => k F' H' v' (t.trans t') r'⟩
      | true =>
        rw [if_pos rfl]
        cases q
        exact k F1 H1 v t r
/-- x or y where both are new: who takes it owns it -/
theorem f_or2 (hK : X.K = W.K) {a b : E} {x y : Expr} {pos : Pos} (ha : PE X x (tF W cl a)) (hb : PE X y (tF W cl b)) : PE X (.BoolOp .Or [x, y] pos) (tF W cl (.or a (.cons b .nil))) :=
  (pe_orT ha (pe_one hb)).imp fun σ H Q ⟨H0, F, σd, C, d, C', rl, q, k⟩ => by
    simp only [ev] at q
    obtain ⟨da, C1, e1, q⟩ := R.bind_ok q
    simp only [evOr] at q
    refine ⟨H0, F, σd, C, da, C1, rl, e1, fun F1 H1 v t ⟨p, o, ev', h1, h2, h3, h4, h5⟩ => ?_⟩
    cases ht : truthD da with
    | none => rw [ht] at q; cases q
    | some bb =>
      have rr : RepR W F1 H1 da v := .inr ⟨p, o, ev', h2, h4, h5⟩
      refine ⟨bb, tru t.sub rr ht hK, ?_⟩
      rw [ht] at q
      cases bb with
      | true =>
        rw [if_pos rfl]
        cases q
        exact k F1 H1 v t ⟨p, o, ev', h1, h2, h3, h4, h5⟩
      | false =>
        rw [if_neg (by simp)]
        obtain ⟨db, C2, e2, q⟩ := R.bind_ok (show (ev cl b σd C1).bind _ = _ from q)
        cases q
        refine ⟨H0, F1, σd, C1, d, C', rl.stp t, e2, fun F' H' v' t' ⟨p', o', g0, g1, g2, g3, g4, g5⟩ => ?_⟩
        exact k F' H' v' (t.trans t') ⟨p', o', g0, t.none_back g1, g2, g3, g4, g5⟩
theorem s_ite {c a b : E} {x y z : Expr} {pos : Pos} (hc : PT X x (tB W cl c)) (ha : PE X y (tS W cl a)) (hb : PE X z (tS W cl b)) : PE X (.IfExp x y z pos) (tS W cl (.ite c a b)) := (pe_ifExp hc ha hb).imp fun σ H Q ⟨H0, F, σd, C, d, C', rl, q, k⟩ => by
  simp only [ev] at q
  obtain ⟨dc, C1, e1, q⟩ := R.bind_ok q
  cases ht : truthD dc with
  | none => rw [ht] at q; cases q
  | some bb =>
    rw [ht] at q
    refine ⟨H0, F, σd, C, dc, C1, bb, rl, e1, ht, fun F1 H1 t => ?_⟩
    cases bb with
    | true =>
      rw [if_pos rfl]
      exact ⟨H0, F1, σd, C1, d, C', rl.stp t, q, fun F' H' v' t' r' => k F' H' v' (t.trans t') r'⟩
    | false =>
      rw [if_neg (by simp)]
      exact ⟨H0, F1, σd, C1, d, C', rl.stp t, q, fun F' H' v' t' r' => k F' H' v' (t.trans t') r'⟩

/-! ### tests -/
def plainTest : Expr → Bool
  | .UnaryOp .Not _ _ => false
  | .BoolOp .. => false
  | .IfExp .. => false
  | .Compare .. => false
  | _ => true
theorem plainTest_is {e : Expr} {env : Env} (h : plainTest e = true) : ∀ whole, isTrue e env whole = (do let v ← whole; standAt e.pos; holding [v] (truthy v)) := by
  intro whole
  cases e <;> first | rfl | (cases h; done) | skip
  rename_i op x pos
  cases op <;> first | rfl | cases h
theorem b_val {m : E} {e : Expr} (hK : X.K = W.K) (h : PE X e (tR W cl m)) (hp : plainTest e = true) : PT X e (tB W cl m) := (pt_truth h (plainTest_is hp)).imp fun σ H Q ⟨H0, F, σd, C, d, C', k, rl, q, ht, kk⟩ =>
  ⟨H0, F, σd, C, d, C', rl, q, fun F1 H1 v t r => ⟨k, tru t.sub r ht hK, kk F1 H1 t⟩⟩
theorem b_not {m : E} {x : Expr} {pos : Pos} (h : PT X x (tB W cl m)) : PT X (.UnaryOp .Not x pos) (tB W cl (.not m)) := (pt_not h).imp fun σ H Q ⟨H0, F, σd, C, d, C', k, rl, q, ht, kk⟩ => by
  simp only [ev] at q
  obtain ⟨da, C1, e1, q⟩ := R.bind_ok q
  obtain ⟨ef, rfl⟩ := R.of_ok q
  cases ht2 : truthD da with
  | none => rw [ht2] at ef; cases ef
  | some b =>
    rw [ht2] at ef; cases ef
    simp only [truthD, Option.some.injEq] at ht
    subst ht
    exact ⟨H0, F, σd, C, da, C', b, rl, e1, ht2, kk⟩
inductive AllB (X : Cx) (W : Wd) (cl : Call) : Es → List Expr → Prop
  | nil : AllB X W cl .nil []
  | cons {m : E} {ms : Es} {e : Expr} {es : List Expr} : PT X e (tB W cl m) → AllB X W cl ms es → AllB X W cl (.cons m ms) (e :: es)
theorem _root_.L2.PW.imp {X : Cx} {e : Expr} {t t' : TT} (h : PW X e t) (i : ∀ σ H Q, t' σ H Q → t σ H Q) : PW X e t' := ⟨fun whole pins s σ H Q I q => h.run whole pins s σ H Q I (i σ H Q q)⟩
theorem b_and : ∀ {ms : Es} {xs : List Expr} {m : E} {x : Expr} {pos : Pos}, PT X x (tB W cl m) → AllB X W cl ms xs → PW X (.BoolOp .And (x :: xs) pos) (tB W cl (.and m ms))
  | _, _, m, x, pos, h, .nil => (pw_and1 h).imp fun σ H Q ⟨H0, F, σd, C, d, C', k, rl, q, ht, kk⟩ => by
    simp only [ev] at q
    obtain ⟨da, C1, e1, q⟩ := R.bind_ok q
    simp only [evAnd] at q
    cases q
    exact ⟨H0, F, σd, C, _, C', k, rl, e1, ht, kk⟩
  | _, _, m, x, pos, h, .cons h2 r => (pw_and h (b_and h2 r)).imp fun σ H Q ⟨H0, F, σd, C, d, C', k, rl, q, ht, kk⟩ => by
    simp only [ev] at q
    obtain ⟨da, C1, e1, q⟩ := R.bind_ok q
    simp only [evAnd] at q
    cases ht2 : truthD da with
    | none => rw [ht2] at q; cases q
    | some b =>
      rw [ht2] at q
      refine ⟨H0, F, σd, C, da, C1, b, rl, e1, ht2, fun F1 H1 t => ?_⟩
      cases b with
      | true =>
        rw [if_pos rfl]
        exact ⟨H0, F1, σd, C1, d, C', k, rl.stp t, by simp only [ev]; exact q, ht, fun F' H' t' => kk F' H' (t.trans t')⟩
      | false =>
        rw [if_neg (by simp)]
        cases q
        rw [ht2] at ht; cases ht
        exact kk F1 H1 t
theorem b_or : ∀ {ms : Es} {xs : List Expr} {m : E} {x : Expr} {pos : Pos}, PT X x (tB W cl m) → AllB X W cl ms xs → PW X (.BoolOp .Or (x :: xs) pos) (tB W cl (.or m ms))
  | _, _, m, x, pos, h, .nil => (pw_or1 h).imp fun σ H Q ⟨H0, F, σd, C, d, C', k, rl, q, ht, kk⟩ => by
    simp only [ev] at q
    obtain ⟨da, C1, e1, q⟩ := R.bind_ok q
    simp only [evOr] at q
    cases q
    exact ⟨H0, F, σd, C, _, C', k, rl, e1, ht, kk⟩
  | _, _, m, x, pos, h, .cons h2 r => (pw_or h (b_or h2 r)).imp fun σ H Q ⟨H0, F, σd, C, d, C', k, rl, q, ht, kk⟩ => by
    simp only [ev] at q
    obtain ⟨da, C1, e1, q⟩ := R.bind_ok q
    simp only [evOr] at q
    cases ht2 : truthD da with
    | none => rw [ht2] at q; cases q
    | some b =>
      rw [ht2] at q
      refine ⟨H0, F, σd, C, da, C1, b, rl, e1, ht2, fun F1 H1 t => ?_⟩
      cases b with
      | false =>
        rw [if_neg (by simp)]
        exact ⟨H0, F1, σd, C1, d, C', k, rl.stp t, by simp only [ev]; exact q, ht, fun F' H' t' => kk F' H' (t.trans t')⟩
      | true =>
        rw [if_pos rfl]
        cases q
        rw [ht2] at ht; cases ht
        exact kk F1 H1 t
/-- a chain as a test -/
theorem b_chain {op op' : COp} {a b c : E} {x y z : Expr} {o o' : CmpOp} {pos : Pos} {r r' : R2} (ho : OpR X (compareOp o) r) (ho' : OpR X (compareOp o') r') (hv : OpV W (cmpD op) r) (hv' : OpV W (cmpD op') r')
    (ha : PE X x (tR W cl a)) (hb : PE X y (tR W cl b)) (hc : PE X z (tR W cl c)) (hm : lastMarks [o, o'] [y, z] = false) : PT X (.Compare x [o, o'] [y, z] pos) (tB W cl (.chain op op' a b c)) :=
  (pt_chain ho ho' ha hb hc hm).imp fun σ H Q ⟨H0, F, σd, C, d, C', k, rl, q, ht, kk⟩ => by
    simp only [ev] at q
    obtain ⟨da, C1, e1, q⟩ := R.bind_ok q
    obtain ⟨db, C2, e2, q⟩ := R.bind_ok q
    refine ⟨H0, F, σd, C, da, C1, rl, e1, fun F1 H1 vx t1 r1 => ?_⟩
    refine ⟨H0, F1, σd, C1, db, C2, rl.stp t1, e2, fun F2 H2 vy t2 r2 => ?_⟩
    cases ef : cmpD op da db with
    | none => rw [ef] at q; cases q
    | some d1 =>
      obtain ⟨k1, rfl⟩ := cmpD_bl ef
      refine hv F2 H2 C2 vx vy da db _ _ t2.sub t2.cell (r1.stp t2) r2 ef fun F3 H3 v3 t3 r3 => ⟨k1, r3.bl_inv, ?_⟩
      rw [ef] at q
      cases k1 with
      | true =>
        rw [if_pos rfl]
        obtain ⟨dc, C3, e3, q⟩ := R.bind_ok (show (ev cl c σd C2).bind _ = _ from q)
        obtain ⟨ef', rfl⟩ := R.of_ok q
        refine ⟨H0, F3, σd, C2, dc, C', (rl.stp (t1.trans t2)).stp t3, e3, fun F4 H4 vz t4 r4 => ?_⟩
        refine hv' F4 H4 C' vy vz db dc d _ t4.sub t4.cell ((r2.stp t3).stp t4) r4 ef' fun F' H' v t rr => ?_
        obtain ⟨k2, rfl⟩ := cmpD_bl ef'
        simp only [truthD, Option.some.injEq] at ht
        subst ht
        exact ⟨_, rr.bl_inv, kk F' H' ((((t1.trans t2).trans t3).trans t4).trans t)⟩
      | false =>
        rw [if_neg (by simp)]
        cases q
        simp only [truthD, Option.some.injEq] at ht
        subst ht
        exact ⟨_, rfl, kk F3 H3 ((t1.trans t2).trans t3)⟩
/-- a if t else b as a test -/
theorem pt_ite {x y z : Expr} {pos : Pos} {tc ta tb : TT} (hc : PT X x tc) (ha : PT X y ta) (hb : PT X z tb) : PT X (.IfExp x y z pos) (fun σ H Q => tc σ H fun c H1 => if c = true then ta σ H1 Q else tb σ H1 Q) := by
  refine ⟨fun pins s σ H Q I h => ?_⟩
  show wpAny _ _ (isTrue x X.env (eval x X.env) >>= fun c => if c = true then isTrue y X.env (eval y X.env) else isTrue z X.env (eval z X.env)) _ _ s
  refine wpAny_bind (thn (hc.run pins s σ H _ I h) fun c s1 ⟨H1, I1, q1⟩ => ?_)
  cases c with
  | true => rw [if_pos rfl] at q1 ⊢; exact ha.run pins s1 σ H1 Q I1 q1
  | false => rw [if_neg (by simp)] at q1 ⊢; exact hb.run pins s1 σ H1 Q I1 q1
theorem b_ite {c a b : E} {x y z : Expr} {pos : Pos} (hc : PT X x (tB W cl c)) (ha : PT X y (tB W cl a)) (hb : PT X z (tB W cl b)) : PT X (.IfExp x y z pos) (tB W cl (.ite c a b)) := (pt_ite hc ha hb).imp fun σ H Q ⟨H0, F, σd, C, d, C', k, rl, q, htt, kk⟩ => by
  simp only [ev] at q
  obtain ⟨dc, C1, e1, q⟩ := R.bind_ok q
  cases ht : truthD dc with
  | none => rw [ht] at q; cases q
  | some bb =>
    rw [ht] at q
    refine ⟨H0, F, σd, C, dc, C1, bb, rl, e1, ht, fun F1 H1 t => ?_⟩
    cases bb with
    | true =>
      rw [if_pos rfl]
      exact ⟨H0, F1, σd, C1, d, C', k, rl.stp t, q, htt, fun F' H' t' => kk F' H' (t.trans t')⟩
    | false =>
      rw [if_neg (by simp)]
      exact ⟨H0, F1, σd, C1, d, C', k, rl.stp t, q, htt, fun F' H' t' => kk F' H' (t.trans t')⟩
end
end Mi

set_option Elab.async false
set_option linter.all false
set_option maxRecDepth 100000
set_option maxHeartbeats 4000000
namespace Mi
open PySem PySem.Spec PyProof.Rows L2

section
variable {W : Wd} {X : Cx} {cl : Call}
/-- a built-in by values: what it asks, from what the evaluator says -/
def BiV (W : Wd) (f : Bi) (ok : List D → Prop) (r : List V → Hp → VK → Prop) : Prop := ∀ (F H : Hp) (C : Cells) (vs : List V) (ds : List D) (d : D) (Q : VK), Sub F H → CellOk W F C H → RepsR W F H ds vs → ok ds → biD f ds = some d →
  (∀ F' H' v, Stp W F H F' C H' → Rep W F' d v → Q v H') → r vs H Q
theorem RepsR.one_inv {F H : Hp} {d : D} {vs : List V} (h : RepsR W F H [d] vs) : ∃ v, vs = [v] ∧ RepR W F H d v := by
  cases h with
  | cons h r => cases r; exact ⟨_, rfl, h⟩
theorem RepsR.two_inv {F H : Hp} {d e : D} {vs : List V} (h : RepsR W F H [d, e] vs) : ∃ v u, vs = [v, u] ∧ RepR W F H d v ∧ RepR W F H e u := by
  cases h with
  | cons h r => obtain ⟨u, rfl, h2⟩ := r.one_inv; exact ⟨_, _, rfl, h, h2⟩
theorem RepsR.three_inv {F H : Hp} {d e f : D} {vs : List V} (h : RepsR W F H [d, e, f] vs) : ∃ v u w, vs = [v, u, w] ∧ RepR W F H d v ∧ RepR W F H e u ∧ RepR W F H f w := by
  cases h with
  | cons h r => obtain ⟨u, w, rfl, h2, h3⟩ := r.two_inv; exact ⟨_, _, _, rfl, h, h2, h3⟩
/-- the reading of a built-in's call -/
theorem bi_imp {f : Bi} {ms : Es} {r : List V → Hp → VK → Prop} (hv : BiV W f (fun _ => True) r) {σ : L2.St} {H : Hp} {Q : VK} (h : tS W cl (.bi f ms) σ H Q) : tCB r (tRs W cl ms) σ H Q := by
  obtain ⟨H0, F, σd, C, d, C', rl, q, k⟩ := h
  simp only [ev] at q
  obtain ⟨ds, C1, e1, q⟩ := R.bind_ok q
  obtain ⟨ef, rfl⟩ := R.of_ok q
  exact ⟨H0, F, σd, C, ds, C', rl, e1, fun F1 H1 vs t r1 => hv F1 H1 C' vs ds d Q t.sub t.cell r1 trivial ef fun F' H' v t' r' => k F' H' v (t.trans t') r'⟩
theorem s_biB {f : Bi} {ms : Es} {x : Str} {id : String} {r : List V → Hp → VK → Prop} {e : Expr} {es : List Expr} {p pos : Pos} (hc : CallR X (.builtin id) r) (hv : BiV W f (fun _ => True) r) (hg : Gl X x) (hm : X.mg x = none) (hb : bootBuiltins x = some (.builtin id)) (ha : PA X (e :: es) (tRs W cl ms))
    (hs : (e :: es).all notStar = true) (hn : x ≠ "__name__" := by decide) (hdb : (x == ("__debug__" : Str)) = false := by decide) : PE X (.Call (.Name x p) (e :: es) [] pos) (tS W cl (.bi f ms)) := by
  have hs' := hs
  rw [List.all_cons, Bool.and_eq_true] at hs'
  exact (pe_callB hc hg hm hb ha hn hdb (star_cons hs'.1) (back_plain hs'.2)).imp fun σ H Q h => bi_imp hv h
theorem s_biT {f : Bi} {ms : Es} {x : Str} {T : String} {r : List V → Hp → VK → Prop} {e : Expr} {es : List Expr} {p pos : Pos} (hc : CallR X (.type T) r) (hv : BiV W f (fun _ => True) r) (hg : Gl X x) (hm : X.mg x = none) (hb : bootBuiltins x = some (.type T)) (ha : PA X (e :: es) (tRs W cl ms))
    (hs : (e :: es).all notStar = true) (hn : x ≠ "__name__" := by decide) (hdb : (x == ("__debug__" : Str)) = false := by decide) : PE X (.Call (.Name x p) (e :: es) [] pos) (tS W cl (.bi f ms)) := by
  have hs' := hs
  rw [List.all_cons, Bool.and_eq_true] at hs'
  exact (pe_callTy hc hg hm hb ha hn hdb (star_cons hs'.1) (back_plain hs'.2)).imp fun σ H Q h => bi_imp hv h
/-- by values, a new thing -/
def BiF (W : Wd) (f : Bi) (r : List V → Hp → VK → Prop) : Prop := ∀ (F H : Hp) (C : Cells) (vs : List V) (ds : List D) (d : D) (Q : VK), Sub F H → CellOk W F C H → RepsR W F H ds vs → biD f ds = some d →
  (∀ F' H' v, Stp W F H F' C H' → FrR W H F' H' d v → Q v H') → r vs H Q
theorem FrR.back {F H F1 H1 F' H' : Hp} {C : Cells} {d : D} {v : V} (t : Stp W F H F1 C H1) (h : FrR W H1 F' H' d v) : FrR W H F' H' d v := by
  obtain ⟨p, o, e, h1, h2, h3, h4, h5⟩ := h
  exact ⟨p, o, e, t.none_back h1, h2, h3, h4, h5⟩
theorem biF_imp {f : Bi} {ms : Es} {r : List V → Hp → VK → Prop} (hv : BiF W f r) {σ : L2.St} {H : Hp} {Q : VK} (h : tF W cl (.bi f ms) σ H Q) : tCB r (tRs W cl ms) σ H Q := by
  obtain ⟨H0, F, σd, C, d, C', rl, q, k⟩ := h
  simp only [ev] at q
  obtain ⟨ds, C1, e1, q⟩ := R.bind_ok q
  obtain ⟨ef, rfl⟩ := R.of_ok q
  exact ⟨H0, F, σd, C, ds, C', rl, e1, fun F1 H1 vs t r1 => hv F1 H1 C' vs ds d Q t.sub t.cell r1 ef fun F' H' v t' r' => k F' H' v (t.trans t') (r'.back t)⟩
theorem f_biB {f : Bi} {ms : Es} {x : Str} {id : String} {r : List V → Hp → VK → Prop} {e : Expr} {es : List Expr} {p pos : Pos} (hc : CallR X (.builtin id) r) (hv : BiF W f r) (hg : Gl X x) (hm : X.mg x = none) (hb : bootBuiltins x = some (.builtin id)) (ha : PA X (e :: es) (tRs W cl ms))
    (hs : (e :: es).all notStar = true) (hn : x ≠ "__name__" := by decide) (hdb : (x == ("__debug__" : Str)) = false := by decide) : PE X (.Call (.Name x p) (e :: es) [] pos) (tF W cl (.bi f ms)) := by
  have hs' := hs
  rw [List.all_cons, Bool.and_eq_true] at hs'
  exact (pe_callB hc hg hm hb ha hn hdb (star_cons hs'.1) (back_plain hs'.2)).imp fun σ H Q h => biF_imp hv h
theorem f_biT {f : Bi} {ms : Es} {x : Str} {T : String} {r : List V → Hp → VK → Prop} {e : Expr} {es : List Expr} {p pos : Pos} (hc : CallR X (.type T) r) (hv : BiF W f r) (hg : Gl X x) (hm : X.mg x = none) (hb : bootBuiltins x = some (.type T)) (ha : PA X (e :: es) (tRs W cl ms))
    (hs : (e :: es).all notStar = true) (hn : x ≠ "__name__" := by decide) (hdb : (x == ("__debug__" : Str)) = false := by decide) : PE X (.Call (.Name x p) (e :: es) [] pos) (tF W cl (.bi f ms)) := by
  have hs' := hs
  rw [List.all_cons, Bool.and_eq_true] at hs'
  exact (pe_callTy hc hg hm hb ha hn hdb (star_cons hs'.1) (back_plain hs'.2)).imp fun σ H Q h => biF_imp hv h

/-! ### each built-in -/
abbrev rLen (K : PySem.W.Frag) : List V → Hp → VK → Prop := fun xs H Q => (∃ x n, xs = [x] ∧ LenV K x H n ∧ Q (.int n) H) ∨ ∃ (d : Addr) (kvs : List (Key × V)), xs = [.ref d] ∧ Rd H d (.dK kvs) ∧ Q (.int kvs.length) H
theorem call_lenA : CallR X (.builtin "len") (rLen X.K) := call_len.or fun pins s σ H xs us Q I r h => by
  obtain ⟨d, kvs, rfl, e, q⟩ := h
  obtain ⟨u, rfl, rx⟩ := vals1 r
  cases rx
  exact d_len I e fun t s' I' => ⟨.int kvs.length, H, I', ⟨_, rfl⟩, q⟩
theorem bi_len (hK : X.K = W.K) : BiV W .len (fun _ => True) (rLen X.K) := by
  intro F H C vs ds d Q s c r _ e k
  match ds, e with
  | [.tup xs], e =>
    cases e
    obtain ⟨v, rfl, h⟩ := r.one_inv
    obtain ⟨p, ws, rfl, h1, _, h2, _⟩ := h.tup_inv s
    refine .inl ⟨_, ws.length, rfl, .inr ⟨ws, SqT.of h1, rfl⟩, ?_⟩
    rw [← h2.len]
    exact k F H _ (Stp.refl s c) (.int _)
  | [.lst xs], e =>
    cases e
    obtain ⟨v, rfl, h⟩ := r.one_inv
    obtain ⟨p, ws, rfl, h1, h2⟩ := h.lst_inv s
    refine .inl ⟨_, ws.length, rfl, .inl ⟨ws, SqL.of h1, rfl⟩, ?_⟩
    rw [← h2.len]
    exact k F H _ (Stp.refl s c) (.int _)
  | [.str z], e =>
    cases e
    obtain ⟨v, rfl, h⟩ := r.one_inv
    obtain ⟨h1, h2⟩ := h.str_inv
    refine .inl ⟨_, (toS z).length, rfl, ?_, ?_⟩
    · rw [h1]; exact ⟨by rw [toS_len]; exact strV_len h2, rfl⟩
    · rw [toS_len]; exact k F H _ (Stp.refl s c) (.int _)
  | [.dct 0 ks ws], e =>
    cases e
    obtain ⟨v, rfl, h⟩ := r.one_inv
    obtain ⟨p, o, rfl, rd, ro⟩ := h.dct_inv s
    cases ro with
    | @dK _ _ kvs hk _ hr =>
      refine .inr ⟨p, kvs, rfl, rd, ?_⟩
      have : ((kvs.length : Nat) : Int) = ((ks.length : Nat) : Int) := by rw [hk, List.length_map]
      rw [this]
      exact k F H _ (Stp.refl s c) (.int _)
theorem bi_abs : BiV W .abs (fun _ => True) (fun xs H Q => ∃ i, xs = [.int i] ∧ Q (.int (if i < 0 then -i else i)) H) := by
  intro F H C vs ds d Q s c r _ e k
  match ds, e with
  | [.int i], e =>
    cases e
    obtain ⟨v, rfl, h⟩ := r.one_inv
    exact ⟨i, by rw [h.int_inv], k F H _ (Stp.refl s c) (.int _)⟩
theorem bi_int : BiV W .int (fun _ => True) (fun xs H Q => (∃ i, xs = [.int i] ∧ Q (.int i) H) ∨ ∃ k, xs = [.bl k] ∧ Q (.int (if k then 1 else 0)) H) := by
  intro F H C vs ds d Q s c r _ e k
  match ds, e with
  | [.int i], e =>
    cases e
    obtain ⟨v, rfl, h⟩ := r.one_inv
    exact .inl ⟨i, by rw [h.int_inv], k F H _ (Stp.refl s c) (.int _)⟩
  | [.bl b], e =>
    cases e
    obtain ⟨v, rfl, h⟩ := r.one_inv
    exact .inr ⟨b, by rw [h.bl_inv], k F H _ (Stp.refl s c) (.int _)⟩
theorem bi_sum : BiV W .sum (fun _ => True) (rSum W.K) := by
  intro F H C vs ds d Q s c r _ e k
  match ds, e with
  | [.lst xs], e =>
    have e' : (intsD xs).map (fun ns => D.int ns.sum) = some d := e
    cases h : intsD xs with
    | none => rw [h] at e'; cases e'
    | some ns =>
      rw [h] at e'; cases e'
      obtain ⟨v, rfl, hr⟩ := r.one_inv
      obtain ⟨p, ws, rfl, h1, h2⟩ := hr.lst_inv s
      have := h2.ints h
      subst this
      exact ⟨p, ns, rfl, SqL.of h1, k F H _ (Stp.refl s c) (.int _)⟩
theorem foldl_max : ∀ (xs : List Int) (x : Int), (xs.foldl (fun a b => if b > a then b else a) x = x ∨ xs.foldl (fun a b => if b > a then b else a) x ∈ xs) ∧ x ≤ xs.foldl (fun a b => if b > a then b else a) x ∧ ∀ y ∈ xs, y ≤ xs.foldl (fun a b => if b > a then b else a) x
  | [], x => ⟨.inl rfl, Int.le_refl _, fun _ h => by cases h⟩
  | y :: ys, x => by
    obtain ⟨h1, h2, h3⟩ := foldl_max ys (if y > x then y else x)
    rw [List.foldl_cons]
    refine ⟨?_, ?_, fun z hz => ?_⟩
    · rcases h1 with h1 | h1
      · rw [h1]
        split
        · exact .inr List.mem_cons_self
        · exact .inl rfl
      · exact .inr (List.mem_cons_of_mem _ h1)
    · refine Int.le_trans ?_ h2
      split <;> omega
    · rcases List.mem_cons.mp hz with rfl | hz
      · refine Int.le_trans ?_ h2
        split <;> omega
      · exact h3 z hz
theorem foldl_min : ∀ (xs : List Int) (x : Int), (xs.foldl (fun a b => if b < a then b else a) x = x ∨ xs.foldl (fun a b => if b < a then b else a) x ∈ xs) ∧ xs.foldl (fun a b => if b < a then b else a) x ≤ x ∧ ∀ y ∈ xs, xs.foldl (fun a b => if b < a then b else a) x ≤ y
  | [], x => ⟨.inl rfl, Int.le_refl _, fun _ h => by cases h⟩
  | y :: ys, x => by
    obtain ⟨h1, h2, h3⟩ := foldl_min ys (if y < x then y else x)
    rw [List.foldl_cons]
    refine ⟨?_, ?_, fun z hz => ?_⟩
    · rcases h1 with h1 | h1
      · rw [h1]
        split
        · exact .inr List.mem_cons_self
        · exact .inl rfl
      · exact .inr (List.mem_cons_of_mem _ h1)
    · refine Int.le_trans h2 ?_
      split <;> omega
    · rcases List.mem_cons.mp hz with rfl | hz
      · refine Int.le_trans h2 ?_
        split <;> omega
      · exact h3 z hz
theorem bi_max1 : BiV W .max1 (fun _ => True) (rMax W.K) := by
  intro F H C vs ds d Q s c r _ e k
  match ds, e with
  | [.lst xs], e =>
    have e' : (intsD xs).bind (fun ns => (maxI ns).map D.int) = some d := e
    cases h : intsD xs with
    | none => rw [h] at e'; cases e'
    | some ns =>
      rw [h] at e'
      obtain ⟨v, rfl, hr⟩ := r.one_inv
      obtain ⟨p, ws, rfl, h1, h2⟩ := hr.lst_inv s
      have := h2.ints h
      subst this
      cases ns with
      | nil => cases e'
      | cons x ns =>
        cases e'
        refine ⟨p, x :: ns, rfl, SqL.of h1, by simp, fun m hm hle => ?_⟩
        obtain ⟨g1, g2, g3⟩ := foldl_max ns x
        have em : m = ns.foldl (fun a b => if b > a then b else a) x := by
          have a1 : m ≤ ns.foldl (fun a b => if b > a then b else a) x := by
            rcases List.mem_cons.mp hm with rfl | hm
            · exact g2
            · exact g3 m hm
          have a2 : ns.foldl (fun a b => if b > a then b else a) x ≤ m := hle _ (by
            rcases g1 with g1 | g1
            · rw [g1]; exact List.mem_cons_self
            · exact List.mem_cons_of_mem _ g1)
          omega
        subst em
        exact k F H _ (Stp.refl s c) (.int _)
theorem bi_min1 : BiV W .min1 (fun _ => True) (rMin W.K) := by
  intro F H C vs ds d Q s c r _ e k
  match ds, e with
  | [.lst xs], e =>
    have e' : (intsD xs).bind (fun ns => (minI ns).map D.int) = some d := e
    cases h : intsD xs with
    | none => rw [h] at e'; cases e'
    | some ns =>
      rw [h] at e'
      obtain ⟨v, rfl, hr⟩ := r.one_inv
      obtain ⟨p, ws, rfl, h1, h2⟩ := hr.lst_inv s
      have := h2.ints h
      subst this
      cases ns with
      | nil => cases e'
      | cons x ns =>
        cases e'
        refine ⟨p, x :: ns, rfl, SqL.of h1, by simp, fun m hm hle => ?_⟩
        obtain ⟨g1, g2, g3⟩ := foldl_min ns x
        have em : m = ns.foldl (fun a b => if b < a then b else a) x := by
          have a1 : ns.foldl (fun a b => if b < a then b else a) x ≤ m := by
            rcases List.mem_cons.mp hm with rfl | hm
            · exact g2
            · exact g3 m hm
          have a2 : m ≤ ns.foldl (fun a b => if b < a then b else a) x := hle _ (by
            rcases g1 with g1 | g1
            · rw [g1]; exact List.mem_cons_self
            · exact List.mem_cons_of_mem _ g1)
          omega
        subst em
        exact k F H _ (Stp.refl s c) (.int _)
theorem bi_max2 : BiV W .max2 (fun _ => True) (fun xs H Q => ∃ i j, xs = [.int i, .int j] ∧ Q (.int (if j > i then j else i)) H) := by
  intro F H C vs ds d Q s c r _ e k
  match ds, e with
  | [.int i, .int j], e =>
    cases e
    obtain ⟨v, u, rfl, h1, h2⟩ := r.two_inv
    exact ⟨i, j, by rw [h1.int_inv, h2.int_inv], k F H _ (Stp.refl s c) (.int _)⟩
theorem bi_min2 : BiV W .min2 (fun _ => True) (fun xs H Q => ∃ i j, xs = [.int i, .int j] ∧ Q (.int (if j < i then j else i)) H) := by
  intro F H C vs ds d Q s c r _ e k
  match ds, e with
  | [.int i, .int j], e =>
    cases e
    obtain ⟨v, u, rfl, h1, h2⟩ := r.two_inv
    exact ⟨i, j, by rw [h1.int_inv, h2.int_inv], k F H _ (Stp.refl s c) (.int _)⟩
theorem bi_bools {f : Bi} {g : List Bool → Bool} {r : List V → Hp → VK → Prop} (hf : ∀ ds d, biD f ds = some d → ∃ xs bs, ds = [.lst xs] ∧ boolsD xs = some bs ∧ d = .bl (g bs))
    (hr : ∀ (p : Addr) (bs : List Bool) (H : Hp) (Q : VK), SqL W.K H p (bs.map V.bl) → Q (.bl (g bs)) H → r [.ref p] H Q) : BiV W f (fun _ => True) r := by
  intro F H C vs ds d Q s c rr _ e k
  obtain ⟨xs, bs, rfl, h, rfl⟩ := hf ds d e
  obtain ⟨v, rfl, h0⟩ := rr.one_inv
  obtain ⟨p, ws, rfl, h1, h2⟩ := h0.lst_inv s
  have := h2.bools h
  subst this
  exact hr p bs H Q (SqL.of h1) (k F H _ (Stp.refl s c) (.bl _))
theorem bi_tuple (hK : X.K = W.K) : BiV W .tuple (fun _ => True) (fun xs H Q => ∃ p ys, xs = [.ref p] ∧ ((SqL X.K H p ys ∧ ∀ l, H l = none → Q (.ref l) (upd H l (.tup ys))) ∨ (SqT X.K H p ys ∧ Q (.ref p) H))) := by
  intro F H C vs ds d Q s c r _ e k
  match ds, e with
  | [.lst xs], e =>
    cases e
    obtain ⟨v, rfl, h⟩ := r.one_inv
    obtain ⟨p, ws, rfl, h1, h2⟩ := h.lst_inv s
    exact ⟨p, ws, rfl, .inl ⟨SqL.of h1, fun l hl => k _ _ _ (Stp.new1 s c hl) (.tup upd_same (h2.ext (Ext.upd (s.none_of hl))))⟩⟩
  | [.tup xs], e =>
    cases e
    obtain ⟨v, rfl, h⟩ := r.one_inv
    obtain ⟨p, ws, rfl, h1, _, h2, h3⟩ := h.tup_inv s
    exact ⟨p, ws, rfl, .inr ⟨SqT.of h1, k F H _ (Stp.refl s c) h3⟩⟩
theorem bi_list (hK : X.K = W.K) : BiF W .list (fun xs H Q => ∃ p ys, xs = [.ref p] ∧ (SqL X.K H p ys ∨ SqT X.K H p ys) ∧ ∀ l, H l = none → Q (.ref l) (upd H l (.lst ys))) := by
  intro F H C vs ds d Q s c r e k
  match ds, e with
  | [.lst xs], e =>
    cases e
    obtain ⟨v, rfl, h⟩ := r.one_inv
    obtain ⟨p, ws, rfl, h1, h2⟩ := h.lst_inv s
    exact ⟨p, ws, rfl, .inl (SqL.of h1), fun l hl => fr_new (Stp.refl s c) hl (.lst h2) k⟩
  | [.tup xs], e =>
    cases e
    obtain ⟨v, rfl, h⟩ := r.one_inv
    obtain ⟨p, ws, rfl, h1, _, h2, h3⟩ := h.tup_inv s
    exact ⟨p, ws, rfl, .inr (SqT.of h1), fun l hl => fr_new (Stp.refl s c) hl (.lst h2) k⟩
end
end Mi

set_option Elab.async false
set_option linter.all false
set_option maxRecDepth 100000
set_option maxHeartbeats 4000000
namespace Mi
open PySem PySem.Spec PyProof.Rows L2

section
variable {W : Wd} {X : Cx} {cl : Call}
/-- what a def hands back: a thing of its own, or a frozen one -/
def PostF (W : Wd) (fr : Bool) (H F' H' : Hp) (d : D) (v : V) : Prop := if fr = true then FrR W H F' H' d v else Rep W F' d v
/-- the promise of def f, where calls go by cl -/
def spF (W : Wd) (cl : Call) (fr : Bool) (f : Nat) : Sp := fun vs H Q E => ∃ F C ds, Sub F H ∧ CellOk W F C H ∧ Reps W F ds vs ∧ ((∃ d C', cl f ds C = .ok d C' ∧ ∀ F' H' v, Stp W F H F' C' H' → PostF W fr H F' H' d v → Q v H') ∨
  ∃ c a C', cl f ds C = .ex c none C' ∧ W.xa c = some a ∧ ∀ F' H', Stp W F H F' C' H' → E (.ref a) none H')
/-- def f stands there and keeps its promise -/
structure FnAt (W : Wd) (cl : Call) (n : Nat) (X : Cx) (fr : Bool) (f : Nat) (x : Str) : Prop where
  ex : ∃ (a : Addr) (fd : FuncData) (ps : List Str), W.fa f = some a ∧ X.mg x = some (.ref a) ∧ PySem.W.keepIn X.K (.ref a) = true ∧ Binds X.K fd ps [] ∧ FnOk X.prog X.w X.K X.mg X.base (L2.CX X.prog X.w) n a fd ps (spF W cl fr f)
theorem call_imp {f : Nat} {fr : Bool} {ms : Es} {σ : L2.St} {H : Hp} {Q : VK} {H0 F : Hp} {σd : List Sl} {C C' : Cells} {d : D} (rl : Rel W H0 F σd C σ H) (q : ev cl (.call f ms) σd C = .ok d C')
    (k : ∀ F' H' v, Stp W F H F' C' H' → PostF W fr H F' H' d v → Q v H') : tCall (spF W cl fr f) [] E0 (tSs W cl ms) σ H Q := by
  simp only [ev] at q
  obtain ⟨ds, C1, e1, q⟩ := R.bind_ok q
  refine ⟨H0, F, σd, C, ds, C1, rl, e1, fun F1 H1 vs t r => ?_⟩
  show spF W cl fr f (vs ++ []) H1 Q E0
  rw [List.append_nil]
  refine ⟨F1, C1, ds, t.sub, t.cell, r, .inl ⟨d, C', q, fun F' H' v t' p => k F' H' v (t.trans t') ?_⟩⟩
  unfold PostF at p ⊢
  split
  · rw [if_pos (by assumption)] at p; exact p.back t
  · rw [if_neg (by assumption)] at p; exact p
theorem s_call {f n : Nat} {x : Str} {ms : Es} {e : Expr} {es : List Expr} {p pos : Pos} (hf : FnAt W cl n X false f x) (hr : Room n X.A) (hg : Gl X x) (ha : PA X (e :: es) (tSs W cl ms)) (hs : (e :: es).all notStar = true) (hdb : (x == ("__debug__" : Str)) = false) :
    PE X (.Call (.Name x p) (e :: es) [] pos) (tS W cl (.call f ms)) := by
  obtain ⟨a, fd, ps, h1, h2, h3, h4, h5⟩ := hf.ex
  have hs' := hs
  rw [List.all_cons, Bool.and_eq_true] at hs'
  refine (pe_call h5 hr hg h2 h3 h4 .nil passL ha hdb (star_cons hs'.1) (back_plain hs'.2)).imp fun σ H Q ⟨H0, F, σd, C, d, C', rl, q, k⟩ => ?_
  exact call_imp rl q fun F' H' v t p => k F' H' v t (by simpa [PostF] using p)
theorem f_call {f n : Nat} {x : Str} {ms : Es} {e : Expr} {es : List Expr} {p pos : Pos} (hf : FnAt W cl n X true f x) (hr : Room n X.A) (hg : Gl X x) (ha : PA X (e :: es) (tSs W cl ms)) (hs : (e :: es).all notStar = true) (hdb : (x == ("__debug__" : Str)) = false) :
    PE X (.Call (.Name x p) (e :: es) [] pos) (tF W cl (.call f ms)) := by
  obtain ⟨a, fd, ps, h1, h2, h3, h4, h5⟩ := hf.ex
  have hs' := hs
  rw [List.all_cons, Bool.and_eq_true] at hs'
  refine (pe_call h5 hr hg h2 h3 h4 .nil passL ha hdb (star_cons hs'.1) (back_plain hs'.2)).imp fun σ H Q ⟨H0, F, σd, C, d, C', rl, q, k⟩ => ?_
  exact call_imp rl q fun F' H' v t p => k F' H' v t (by simpa [PostF] using p)
theorem s_call0 {f n : Nat} {x : Str} {p pos : Pos} (hf : FnAt W cl n X false f x) (hr : Room n X.A) (hg : Gl X x) (hdb : (x == ("__debug__" : Str)) = false) :
    PE X (.Call (.Name x p) [] [] pos) (tS W cl (.call f .nil)) := by
  obtain ⟨a, fd, ps, h1, h2, h3, h4, h5⟩ := hf.ex
  refine (pe_call0 h5 hr hg h2 h3 h4 .nil passL hdb).imp fun σ H Q ⟨H0, F, σd, C, d, C', rl, q, k⟩ => ?_
  simp only [ev, evs] at q
  exact ⟨F, C, [], rl.sub, rl.cell, .nil, .inl ⟨d, C', q, fun F' H' v t p => k F' H' v t (by simpa [PostF] using p)⟩⟩

/-! ### isinstance -/
def tyN : Ty → String
  | .int => "int" | .bool => "bool" | .str => "str" | .tuple => "tuple" | .list => "list"
def nameD : D → Option String
  | .non => some "NoneType" | .bl _ => some "bool" | .int _ => some "int" | .str _ => some "str" | .tup _ => some "tuple" | .lst _ => some "list" | _ => none
theorem ty_of {F H : Hp} {d : D} {v : V} {K : PySem.W.Frag} (hK : K = W.K) (s : Sub F H) (h : RepR W F H d v) (hd : tyOk d = true) : ∃ t, nameD d = some t ∧ TyX K H v (.type t) := by
  subst hK
  cases d <;> try cases hd
  · exact ⟨_, rfl, by rw [h.non_inv]; exact .base .non⟩
  · exact ⟨_, rfl, by rw [h.bl_inv]; exact .base (.bl _)⟩
  · exact ⟨_, rfl, by rw [h.int_inv]; exact .base (.int _)⟩
  · exact ⟨_, rfl, by rw [h.str_inv.1]; exact .base (.str _)⟩
  · obtain ⟨p, vs, rfl, h1, _⟩ := h.tup_inv s
    exact ⟨_, rfl, .base (.tup h1)⟩
  · obtain ⟨p, vs, rfl, h1, _⟩ := h.lst_inv s
    exact ⟨_, rfl, .base (.lst h1)⟩
theorem kit_all : ∀ (T : Ty) (t : String), t ∈ ["NoneType", "bool", "int", "str", "tuple", "list"] → ∃ b, kitB t (tyN T) = some b ∧ ∀ d, nameD d = some t → tyD T d = b := by
  intro T t ht
  simp only [List.mem_cons, List.not_mem_nil, or_false] at ht
  rcases ht with rfl | rfl | rfl | rfl | rfl | rfl <;> cases T
  all_goals
    first
      | (refine ⟨true, by decide +kernel, fun d hd => ?_⟩; cases d <;> first | rfl | (simp [nameD] at hd))
      | (refine ⟨false, by decide +kernel, fun d hd => ?_⟩; cases d <;> first | rfl | (simp [nameD] at hd))
theorem nameD_mem {d : D} {t : String} (h : nameD d = some t) : t ∈ ["NoneType", "bool", "int", "str", "tuple", "list"] := by
  cases d <;> simp only [nameD] at h <;> cases h <;> simp
theorem kit_list {K : PySem.W.Frag} {d : D} {t : String} (h : nameD d = some t) : ∀ tys : List Ty, PySem.W.kitAny K (.type t) (tys.map fun T => Value.type (tyN T)) = some (tys.any fun T => tyD T d)
  | [] => rfl
  | T :: tys => by
    obtain ⟨b, h1, h2⟩ := kit_all T t (nameD_mem h)
    have h3 := h2 d h
    rw [List.map_cons, List.any_cons]
    refine kitAny_cons (kit_ty h1) (fun hb => ?_) (fun hb => ?_)
    · rw [kit_list h tys, h3, hb]; simp
    · rw [h3, hb]; rfl
/-- names of built-in classes, one behind the other -/
inductive TyNames (X : Cx) : List Ty → List Expr → Prop
  | nil : TyNames X [] []
  | cons {T : Ty} {tys : List Ty} {es : List Expr} {p : Pos} : Gl X (Str.ofString (tyN T)) → X.mg (Str.ofString (tyN T)) = none → TyNames X tys es → TyNames X (T :: tys) (.Name (Str.ofString (tyN T)) p :: es)
theorem pe_ty {T : Ty} {p : Pos} (hg : Gl X (Str.ofString (tyN T))) (hm : X.mg (Str.ofString (tyN T)) = none) : PE X (.Name (Str.ofString (tyN T)) p) (L2.tC (.ty (tyN T))) := by
  cases T
  all_goals exact pe_bltn hg hm (by decide +kernel) rfl (by decide) (by decide)
theorem pa_tys : ∀ {tys : List Ty} {es : List Expr}, TyNames X tys es → PA X es (fun σ H Q => Q (tys.map fun T => V.ty (tyN T)) H)
  | _, _, .nil => pa_nil.imp fun σ H Q h => h
  | _, _, .cons hg hm r => (pa_cons (pe_ty hg hm) (pa_tys r) rfl).imp fun σ H Q h => h
theorem clsV_tys : ∀ tys : List Ty, Paired ClsV (tys.map fun T => V.ty (tyN T)) (tys.map fun T => Value.type (tyN T))
  | [] => .nil
  | _ :: tys => .cons (.ty _) (clsV_tys tys)
theorem s_isi1 {m : E} {T : Ty} {x : Expr} {p p2 pos : Pos} (hK : X.K = W.K) (hg : Gl X "isinstance") (hm : X.mg "isinstance" = none) (ha : PE X x (tR W cl m)) (hT : Gl X (Str.ofString (tyN T))) (hmT : X.mg (Str.ofString (tyN T)) = none) (hs : notStar x = true) :
    PE X (.Call (.Name "isinstance" p) [x, .Name (Str.ofString (tyN T)) p2] [] pos) (tS W cl (.isi m [T])) :=
  (pe_callB call_isi hg hm (by decide +kernel) (pa_cons ha (pa_cons (pe_ty hT hmT) pa_nil rfl) (star_cons hs)) (by decide) (by decide) (star_cons hs) rfl).imp fun σ H Q ⟨H0, F, σd, C, d, C', rl, q, k⟩ => by
    simp only [ev] at q
    obtain ⟨da, C1, e1, q⟩ := R.bind_ok q
    split at q
    · rename_i hok
      cases q
      refine ⟨H0, F, σd, C, da, C', rl, e1, fun F1 H1 v t r => ?_⟩
      obtain ⟨tn, h1, h2⟩ := ty_of hK t.sub r hok
      obtain ⟨b, h3, h4⟩ := kit_all T tn (nameD_mem h1)
      refine ⟨v, .ty (tyN T), .type tn, .type (tyN T), b, rfl, .ty _, h2, kit_ty h3, ?_⟩
      have h5 := h4 da h1
      refine k F1 H1 _ t ?_
      rw [show ([T].any fun t => tyD t da) = b by rw [List.any_cons, List.any_nil, Bool.or_false, h5]]
      exact .bl b
    · cases q
theorem s_isiN {m : E} {tys : List Ty} {x : Expr} {es : List Expr} {kk : Nat} {p p2 pos : Pos} (hK : X.K = W.K) (hg : Gl X "isinstance") (hm : X.mg "isinstance" = none) (ha : PE X x (tR W cl m)) (hT : TyNames X tys es) (hl : tys.length ≤ 1000) (hs : notStar x = true) :
    PE X (.Call (.Name "isinstance" p) [x, .Tuple es kk p2] [] pos) (tS W cl (.isi m tys)) :=
  (pe_callB call_isiT hg hm (by decide +kernel) (pa_cons ha (pa_cons (pe_tup (pa_tys hT)) pa_nil rfl) (star_cons hs)) (by decide) (by decide) (star_cons hs) rfl).imp fun σ H Q ⟨H0, F, σd, C, d, C', rl, q, k⟩ => by
    simp only [ev] at q
    obtain ⟨da, C1, e1, q⟩ := R.bind_ok q
    split at q
    · rename_i hok
      cases q
      refine ⟨H0, F, σd, C, da, C', rl, e1, fun F1 H1 v t r => ⟨by rw [List.length_map]; exact Nat.le_of_lt (small1000 hl), fun tp htp => ?_⟩⟩
      have t2 := t.trans (Stp.tmp (o := .tup (tys.map fun T => V.ty (tyN T))) t.sub t.cell htp)
      obtain ⟨tn, h1, h2⟩ := ty_of hK t2.sub (r.stp (Stp.tmp t.sub t.cell htp)) hok
      exact ⟨v, tp, _, .type tn, _, _, rfl, upd_same, clsV_tys tys, h2, kit_list h1 tys, k _ _ _ t2 (.bl _)⟩
    · cases q
end
end Mi

set_option Elab.async false
set_option linter.all false
set_option maxRecDepth 100000
set_option maxHeartbeats 4000000
namespace Mi
open PySem PySem.Spec PyProof.Rows L2

section
variable {W : Wd} {X : Cx} {cl : Call}
/-! ### what is walked -/
abbrev stpP (W : Wd) (F0 H0 : Hp) : Hp → Hp → Prop := fun F H => ∃ C, Stp W F0 H0 F C H
abbrev extP (F0 : Hp) : Hp → Hp → Prop := fun F _ => Ext F0 F
structure Goes (W : Wd) (P : Hp → Hp → Prop) (J : L2.It) (xs : List D) : Prop where
  go : ∀ (i : Nat) (F H : Hp) (C : Cells), P F H → Sub F H → CellOk W F C H → i < xs.length → J.go i H
  yld : ∀ (i : Nat) (F H : Hp) (C : Cells) (x : V) (H' : Hp), P F H → Sub F H → CellOk W F C H → i < xs.length → J.yld i H x H' → ∃ F' d, xs[i]? = some d ∧ Stp W F H F' C H' ∧ Rep W F' d x
  stop : ∀ (i : Nat) (F H : Hp) (C : Cells), P F H → Sub F H → CellOk W F C H → xs.length ≤ i → J.stop i H
theorem Goes.weak {P P' : Hp → Hp → Prop} {J : L2.It} {xs : List D} (g : Goes W P J xs) (h : ∀ F H, P' F H → P F H) : Goes W P' J xs :=
  ⟨fun i F H C p => g.go i F H C (h F H p), fun i F H C x H' p => g.yld i F H C x H' (h F H p), fun i F H C p => g.stop i F H C (h F H p)⟩
theorem extP_stp {F0 H0 : Hp} : ∀ F H, stpP W F0 H0 F H → extP F0 F H := fun _ _ ⟨_, t⟩ => t.ext
/-- walked within a comprehension; walked by a statement -/
def tI (W : Wd) (cl : Call) (m : It) : TI := fun σ H R => ∃ H0 F σd C xs C', Rel W H0 F σd C σ H ∧ evi cl m σd C = .ok xs C' ∧ ∀ F' H' J, Stp W F H F' C' H' → Goes W (stpP W F' H') J xs → R J H'
def tIs (W : Wd) (cl : Call) (m : It) : TI := fun σ H R => ∃ H0 F σd C xs C', Rel W H0 F σd C σ H ∧ evi cl m σd C = .ok xs C' ∧ ∀ F' H' J, Stp W F H F' C' H' → Goes W (extP F') J xs → R J H'
theorem _root_.L2.PI.imp {tg e : Expr} {t t' : TI} (h : PI X tg e t) (i : ∀ σ H R, t' σ H R → t σ H R) : PI X tg e t' := ⟨fun pins s σ H R I q => h.run pins s σ H R I (i σ H R q)⟩
theorem _root_.L2.PI.or {tg e : Expr} {t t' : TI} (h : PI X tg e t) (h' : PI X tg e t') : PI X tg e (fun σ H R => t σ H R ∨ t' σ H R) := ⟨fun pins s σ H R I q => q.elim (h.run pins s σ H R I) (h'.run pins s σ H R I)⟩
theorem i_weak {m : It} {tg e : Expr} (h : PI X tg e (tIs W cl m)) : PI X tg e (tI W cl m) := h.imp fun σ H Rk ⟨H0, F, σd, C, xs, C', rl, q, k⟩ => ⟨H0, F, σd, C, xs, C', rl, q, fun F' H' J t g => k F' H' J t (g.weak extP_stp)⟩

theorem goes_list {K : PySem.W.Frag} {P : Hp → Hp → Prop} {a : Addr} {vs : List V} {xs : List D} (hl : ∀ F H, P F H → Sub F H → SqL K H a vs) (hr : ∀ F H, P F H → Sub F H → Reps W F xs vs) : Goes W P (Itl K a) xs where
  go := fun i F H C p s _ hi => by
    obtain ⟨v, h1, _⟩ := (hr F H p s).get (List.getElem?_eq_getElem hi)
    exact ⟨vs, v, hl F H p s, h1⟩
  yld := fun i F H C x H' p s c hi ⟨e, h⟩ => by
    subst e
    obtain ⟨d, h1, h2⟩ := (hr F _ p s).get' (h vs (hl F _ p s))
    exact ⟨F, d, h1, Stp.refl s c, h2⟩
  stop := fun i F H C p s _ hi => ⟨vs, hl F H p s, by rw [← (hr F H p s).len]; exact hi⟩
theorem goes_tup {K : PySem.W.Frag} {P : Hp → Hp → Prop} {a : Addr} {vs : List V} {xs : List D} (hl : ∀ F H, P F H → Sub F H → SqT K H a vs) (hr : ∀ F H, P F H → Sub F H → Reps W F xs vs) : Goes W P (Itt K a) xs where
  go := fun i F H C p s _ hi => by
    obtain ⟨v, h1, _⟩ := (hr F H p s).get (List.getElem?_eq_getElem hi)
    exact ⟨vs, v, hl F H p s, h1⟩
  yld := fun i F H C x H' p s c hi ⟨e, h⟩ => by
    subst e
    obtain ⟨d, h1, h2⟩ := (hr F _ p s).get' (h vs (hl F _ p s))
    exact ⟨F, d, h1, Stp.refl s c, h2⟩
  stop := fun i F H C p s _ hi => ⟨vs, hl F H p s, by rw [← (hr F H p s).len]; exact hi⟩
theorem goes_str {P : Hp → Hp → Prop} {z : List Nat} (hz : strV z = true) : Goes W P (Its (toS z)) (z.map fun c => D.str [c]) where
  go := fun i F H C p s _ hi => by
    rw [List.length_map] at hi
    show i < (toS z).cps.size
    simpa [toS] using hi
  yld := fun i F H C x H' p s c hi ⟨e, ch, h1, h2⟩ => by
    subst e h2
    have h3 : z[i]? = some ch := by simpa [toS] using h1
    refine ⟨F, .str [ch], by rw [List.getElem?_map, h3]; rfl, Stp.refl s c, .str _ (strV_of (fun c' hc => ?_) (by simp))⟩
    rw [List.mem_singleton.mp hc]
    exact strV_lt hz ch (List.mem_of_getElem? h3)
  stop := fun i F H C p s _ hi => by
    rw [List.length_map] at hi
    show (toS z).cps.size ≤ i
    simpa [toS] using hi
/-- a tuple that stands there is taken among what is frozen -/
theorem Stp.adopt {F H : Hp} {C : Cells} {q : Addr} {vs : List V} (s : Sub F H) (c : CellOk W F C H) (h : H q = some (.tup vs)) : ∃ F', Stp W F H F' C H ∧ F' q = some (.tup vs) := by
  cases e : F q with
  | some o =>
    have := s q o e
    rw [h] at this; cases this
    exact ⟨F, Stp.refl s c, e⟩
  | none =>
    refine ⟨upd F q (.tup vs), ⟨fun _ _ h _ => h, Ext.upd e, fun a u hu => ?_, fun a u hu => ?_, ⟨fun d hd => ⟨(c.at_ d hd).1, ?_⟩⟩, fun d hd => ⟨_, (c.at_ d hd).1⟩⟩, upd_same⟩
    · by_cases ha : a = q
      · subst ha; rw [upd_same] at hu; cases hu; exact h
      · rw [upd_ne ha] at hu; exact s a u hu
    · by_cases ha : a = q
      · subst ha; rw [upd_same] at hu; cases hu; exact .inr (.inr ⟨_, rfl⟩)
      · rw [upd_ne ha] at hu; exact .inl hu
    · have hne : d ≠ q := by
        intro z; subst z
        have := (c.at_ d hd).1
        rw [h] at this; cases this
      rw [upd_ne hne]; exact (c.at_ d hd).2
theorem reps_keys {F : Hp} : ∀ {k : List Key}, (∀ x ∈ k, ∀ s, x = .inr s → strV s.cps.toList = true) → Reps W F (k.map keyD) (k.map kV)
  | [], _ => .nil
  | .inl i :: r, h => .cons (.int i) (reps_keys fun x hx => h x (List.mem_cons_of_mem _ hx))
  | .inr s :: r, h => by
    refine .cons ?_ (reps_keys fun x hx => h x (List.mem_cons_of_mem _ hx))
    have : kV (.inr s) = V.str (toS s.cps.toList) := by
      show V.str s = V.str ⟨s.cps.toList.toArray⟩
      simp
    rw [this]
    exact .str _ (h _ List.mem_cons_self s rfl)
theorem goes_keysK {F0 : Hp} {d : Addr} {od : Obj} {kvs : List (Key × V)} {ks : List D} (h : F0 d = some (.frz od (.dK kvs))) (hk : ks = kvs.map fun p => keyD p.1) (hs : ∀ p ∈ kvs, ∀ s, p.1 = .inr s → strV s.cps.toList = true) : Goes W (extP F0) (Itk d od kvs) ks where
  go := fun i F H C p s _ hi => ⟨s _ _ (p _ _ h), by rw [hk, List.length_map] at hi; exact hi⟩
  yld := fun i F H C x H' p s c hi ⟨e, k, v, h1, h2⟩ => by
    subst e h2
    refine ⟨F, keyD k, by rw [hk, List.getElem?_map, h1]; rfl, Stp.refl s c, ?_⟩
    have := reps_keys (W := W) (F := F) (k := [k]) fun x hx s e => by
      rw [List.mem_singleton.mp hx] at e
      exact hs _ (List.mem_of_getElem? h1) s e
    cases this with
    | cons q _ => exact q
  stop := fun i F H C p s _ hi => ⟨s _ _ (p _ _ h), by rw [hk, List.length_map] at hi; exact hi⟩
theorem goes_keysT {F0 : Hp} {d : Addr} {od : Obj} {kvs : List (List Key × V)} {ks : List D} (h : F0 d = some (.frz od (.dT kvs))) (hk : ks = kvs.map fun p => .tup (p.1.map keyD)) (hs : ∀ p ∈ kvs, ∀ k ∈ p.1, ∀ s, k = .inr s → strV s.cps.toList = true) : Goes W (extP F0) (Itkt d od kvs) ks where
  go := fun i F H C p s _ hi => ⟨s _ _ (p _ _ h), by rw [hk, List.length_map] at hi; exact hi⟩
  yld := fun i F H C x H' p s c hi ⟨e, k, v, q, h1, h2, h3⟩ => by
    subst e h2
    obtain ⟨F', t, hF⟩ := Stp.adopt s c h3
    exact ⟨F', .tup (k.map keyD), by rw [hk, List.getElem?_map, h1]; rfl, t, .tup hF (reps_keys fun x hx s e => hs _ (List.mem_of_getElem? h1) x hx s e)⟩
  stop := fun i F H C p s _ hi => ⟨s _ _ (p _ _ h), by rw [hk, List.length_map] at hi; exact hi⟩
theorem goes_range {P : Hp → Hp → Prop} {lo : Int} {n : Nat} : Goes W P (Itr lo n) (rangeD lo n) where
  go := fun i F H C p s _ hi => by
    unfold rangeD at hi
    rw [List.length_map, List.length_range] at hi
    exact hi
  yld := fun i F H C x H' p s c hi ⟨e, h⟩ => by
    subst e h
    unfold rangeD at hi ⊢
    rw [List.length_map, List.length_range] at hi
    exact ⟨F, .int (lo + (i : Nat)), by simp [hi], Stp.refl s c, .int _⟩
  stop := fun i F H C p s _ hi => by
    unfold rangeD at hi
    rw [List.length_map, List.length_range] at hi
    exact hi

theorem is_e {m : E} {tg e : Expr} (hK : X.K = W.K) (h : PE X e (tS W cl m)) : PI X tg e (tIs W cl (.e m)) :=
  (((pi_list h).or (pi_tup h)).or ((pi_str h).or (pi_keys h))).imp fun σ H Rk ⟨H0, F, σd, C, xs, C', rl, q, k⟩ => by
    simp only [evi] at q
    obtain ⟨d, C1, e1, q⟩ := R.bind_ok q
    obtain ⟨ef, rfl⟩ := R.of_ok q
    cases d with
    | lst ys =>
      cases ef
      refine .inl (.inl ⟨H0, F, σd, C, _, C', rl, e1, fun F1 H1 v t r => ?_⟩)
      obtain ⟨a, vs, rfl, h1, h2⟩ := r.lst_inv
      exact ⟨a, rfl, ⟨vs, SqL.of (t.sub.lst h1)⟩, k F1 H1 _ t (goes_list (fun F H p s => SqL.of (s.lst (p _ _ h1))) fun F H p _ => h2.ext p)⟩
    | tup ys =>
      cases ef
      refine .inl (.inr ⟨H0, F, σd, C, _, C', rl, e1, fun F1 H1 v t r => ?_⟩)
      obtain ⟨a, vs, rfl, h1, h2⟩ := r.tup_inv
      exact ⟨a, rfl, ⟨vs, SqT.of (t.sub.tup h1)⟩, k F1 H1 _ t (goes_tup (fun F H p s => SqT.of (s.tup (p _ _ h1))) fun F H p _ => h2.ext p)⟩
    | str z =>
      cases ef
      refine .inr (.inl ⟨H0, F, σd, C, _, C', rl, e1, fun F1 H1 v t r => ?_⟩)
      obtain ⟨h1, h2⟩ := r.str_inv
      exact ⟨_, h1, k F1 H1 _ t (goes_str h2)⟩
    | dct tt ks vs =>
      cases ef
      refine .inr (.inr ⟨H0, F, σd, C, _, C', rl, e1, fun F1 H1 v t r => ?_⟩)
      obtain ⟨a, od, o, rfl, h1, h2⟩ := r.dct_inv
      cases h2 with
      | dK h3 h4 h5 => exact ⟨a, od, rfl, .inl ⟨_, t.sub _ _ h1, k F1 H1 _ t (goes_keysK h1 h3 h4)⟩⟩
      | dT h3 h4 h5 => exact ⟨a, od, rfl, .inr ⟨_, t.sub _ _ h1, k F1 H1 _ t (goes_keysT h1 h3 h4)⟩⟩
    | _ => cases ef
theorem i_b {i : Nat} {tg e : Expr} (h : PE X e (tR W cl (.b i))) : PI X tg e (tI W cl (.b i)) := (pi_list h).imp fun σ H Rk ⟨H0, F, σd, C, xs, C', rl, q, k⟩ => by
  simp only [evi] at q
  cases e1 : slotB σd[i]? with
  | none => rw [e1] at q; cases q
  | some d =>
    rw [e1] at q
    cases d <;> try (cases q; done)
    cases q
    refine ⟨H0, F, σd, C, _, C, rl, by simp only [ev]; rw [e1]; rfl, fun F1 H1 v t r => ?_⟩
    rcases r with r | ⟨a, o, rfl, h1, h2, h3⟩
    · obtain ⟨a, vs, rfl, h1, h2⟩ := r.lst_inv
      exact ⟨a, rfl, ⟨vs, SqL.of (t.sub.lst h1)⟩, k F1 H1 _ t (goes_list (fun F H ⟨_, p⟩ s => SqL.of (s.lst (p.ext _ _ h1))) fun F H ⟨_, p⟩ _ => h2.ext p.ext)⟩
    · cases h3 with
      | lst h3 => exact ⟨a, rfl, ⟨_, SqL.of h1⟩, k F1 H1 _ t (goes_list (fun F H ⟨_, p⟩ s => SqL.of (p.keep _ _ h1 h2)) fun F H ⟨_, p⟩ _ => h3.ext p.ext)⟩
theorem is_range1 {m : E} {tg e : Expr} {p pos : Pos} (hg : Gl X "range") (hm : X.mg "range" = none) (h : PE X e (tR W cl m)) (hs : notStar e = true) : PI X tg (.Call (.Name "range" p) [e] [] pos) (tIs W cl (.range1 m)) :=
  (pi_range1 hg hm (ar_cons h ar_nil hs) (star_cons hs)).imp fun σ H Rk ⟨H0, F, σd, C, xs, C', rl, q, k⟩ => by
    simp only [evi] at q
    obtain ⟨d, C1, e1, q⟩ := R.bind_ok q
    cases d <;> try (cases q; done)
    rename_i j
    have q' : (if rngOk 0 j then R.ok (rangeD 0 j.toNat) C1 else .bad) = R.ok xs C' := q
    split at q'
    · rename_i ok
      cases q'
      refine ⟨H0, F, σd, C, [.int j], C', rl, by simp only [evs]; rw [e1], fun F1 H1 vs t r => ?_⟩
      obtain ⟨v, rfl, hv⟩ := r.one_inv
      unfold rngOk at ok
      simp only [Bool.and_eq_true, decide_eq_true_eq] at ok
      exact ⟨j, by rw [hv.int_inv], by omega, by omega, k F1 H1 _ t goes_range⟩
    · cases q'
theorem is_range2 {m m2 : E} {tg e e2 : Expr} {p pos : Pos} (hg : Gl X "range") (hm : X.mg "range" = none) (h : PE X e (tR W cl m)) (h2 : PE X e2 (tR W cl m2)) (hs : notStar e = true) (hs2 : notStar e2 = true) : PI X tg (.Call (.Name "range" p) [e, e2] [] pos) (tIs W cl (.range2 m m2)) :=
  (pi_range2 hg hm (ar_cons h (ar_cons h2 ar_nil hs2) hs) (by rw [star_cons hs, star_cons hs2]; rfl) (star_cons hs2)).imp fun σ H Rk ⟨H0, F, σd, C, xs, C', rl, q, k⟩ => by
    simp only [evi] at q
    obtain ⟨d, C1, e1, q⟩ := R.bind_ok q
    obtain ⟨d2, C2, e2, q2⟩ := R.bind_ok q
    clear q
    have q := q2
    clear q2
    cases d <;> cases d2 <;> try (cases q; done)
    rename_i i j
    have q' : (if rngOk i j then R.ok (rangeD i (j - i).toNat) C2 else .bad) = R.ok xs C' := q
    split at q'
    · rename_i ok
      cases q'
      refine ⟨H0, F, σd, C, [.int i, .int j], C', rl, by simp only [evs]; rw [e1]; simp only [R.bind]; rw [e2], fun F1 H1 vs t r => ?_⟩
      obtain ⟨v, u, rfl, hv, hu⟩ := r.two_inv
      unfold rngOk at ok
      simp only [Bool.and_eq_true, decide_eq_true_eq] at ok
      exact ⟨i, j, by rw [hv.int_inv, hu.int_inv], ⟨by omega, by omega, by omega, by omega⟩, k F1 H1 _ t goes_range⟩
    · cases q'
theorem is_zip {m m2 : E} {e e2 : Expr} {elts : List Expr} {kk : Nat} {p pos tpos : Pos} (hK : X.K = W.K) (hg : Gl X "zip") (hm : X.mg "zip" = none) (h : PE X e (tS W cl m)) (h2 : PE X e2 (tS W cl m2)) (hs : notStar e = true) (hs2 : notStar e2 = true) : PI X (.Tuple elts kk tpos) (.Call (.Name "zip" p) [e, e2] [] pos) (tIs W cl (.zip m m2)) :=
  (RZ.pi_zipA hg hm (as_cons h (as_cons h2 as_nil hs2) hs) (star_cons hs) (by rw [star_cons hs2]; cases pos; rfl)).imp fun σ H Rk ⟨H0, F, σd, C, xs, C', rl, q, k⟩ => by
    simp only [evi] at q
    obtain ⟨d, C1, e1, q⟩ := R.bind_ok q
    obtain ⟨d2, C2, e2, q2⟩ := R.bind_ok q
    clear q
    have q := q2
    clear q2
    refine ⟨H0, F, σd, C, [d, d2], C2, rl, by simp only [evs]; rw [e1]; simp only [R.bind]; rw [e2], fun F1 H1 vs t r => ?_⟩
    cases r with
    | cons hv r =>
      cases r with
      | cons hu r =>
        cases r
        cases d <;> cases d2 <;> try (cases q; done)
        · rename_i ys zs
          cases q
          obtain ⟨a, vs, rfl, h1, h2⟩ := hv.tup_inv
          obtain ⟨b, us, rfl, g1, g2⟩ := hu.tup_inv
          refine ⟨a, b, vs, us, rfl, .inr ⟨SqT.of (t.sub.tup h1), SqT.of (t.sub.tup g1), k F1 H1 _ t ⟨fun i F H C p s _ hi => ?_, fun i F H C x H' p s c hi hy => ?_, fun i F H C p s _ hi => ?_⟩⟩⟩
          · have hi' : i < ys.length ∧ i < zs.length := by simpa [Nat.lt_min] using hi
            obtain ⟨v, q1, _⟩ := h2.get (List.getElem?_eq_getElem hi'.1)
            obtain ⟨u, q2, _⟩ := g2.get (List.getElem?_eq_getElem hi'.2)
            exact ⟨vs, us, v, u, SqT.of (s.tup (p _ _ h1)), SqT.of (s.tup (p _ _ g1)), q1, q2⟩
          · obtain ⟨T, y, z, rfl, hT, rfl, hx, hz⟩ := hy
            obtain ⟨dy, p1, p2⟩ := (h2.ext p).get' (hx vs (SqT.of (s.tup (p _ _ h1))))
            obtain ⟨dz, p3, p4⟩ := (g2.ext p).get' (hz us (SqT.of (s.tup (p _ _ g1))))
            refine ⟨upd F T _, .tup [dy, dz], by rw [List.getElem?_zipWith, p1, p3], Stp.new1 s c hT, .tup upd_same (.cons (p2.ext (Ext.upd (s.none_of hT))) (.cons (p4.ext (Ext.upd (s.none_of hT))) .nil))⟩
          · have hi' : ys.length ≤ i ∨ zs.length ≤ i := by
              rw [List.length_zipWith] at hi
              omega
            exact ⟨vs, us, SqT.of (s.tup (p _ _ h1)), SqT.of (s.tup (p _ _ g1)), by rw [← h2.len, ← g2.len]; exact hi'⟩
        · rename_i ys zs
          cases q
          obtain ⟨a, vs, rfl, h1, h2⟩ := hv.lst_inv
          obtain ⟨b, us, rfl, g1, g2⟩ := hu.lst_inv
          refine ⟨a, b, vs, us, rfl, .inl ⟨SqL.of (t.sub.lst h1), SqL.of (t.sub.lst g1), k F1 H1 _ t ⟨fun i F H C p s _ hi => ?_, fun i F H C x H' p s c hi hy => ?_, fun i F H C p s _ hi => ?_⟩⟩⟩
          · have hi' : i < ys.length ∧ i < zs.length := by simpa [Nat.lt_min] using hi
            obtain ⟨v, q1, _⟩ := h2.get (List.getElem?_eq_getElem hi'.1)
            obtain ⟨u, q2, _⟩ := g2.get (List.getElem?_eq_getElem hi'.2)
            exact ⟨vs, us, v, u, SqL.of (s.lst (p _ _ h1)), SqL.of (s.lst (p _ _ g1)), q1, q2⟩
          · obtain ⟨T, y, z, rfl, hT, rfl, hx, hz⟩ := hy
            obtain ⟨dy, p1, p2⟩ := (h2.ext p).get' (hx vs (SqL.of (s.lst (p _ _ h1))))
            obtain ⟨dz, p3, p4⟩ := (g2.ext p).get' (hz us (SqL.of (s.lst (p _ _ g1))))
            refine ⟨upd F T _, .tup [dy, dz], by rw [List.getElem?_zipWith, p1, p3], Stp.new1 s c hT, .tup upd_same (.cons (p2.ext (Ext.upd (s.none_of hT))) (.cons (p4.ext (Ext.upd (s.none_of hT))) .nil))⟩
          · have hi' : ys.length ≤ i ∨ zs.length ≤ i := by
              rw [List.length_zipWith] at hi
              omega
            exact ⟨vs, us, SqL.of (s.lst (p _ _ h1)), SqL.of (s.lst (p _ _ g1)), by rw [← h2.len, ← g2.len]; exact hi'⟩
end
end Mi

set_option Elab.async false
set_option linter.all false
set_option maxRecDepth 100000
set_option maxHeartbeats 4000000
namespace Mi
open PySem PySem.Spec PyProof.Rows L2

section
variable {W : Wd} {X : Cx} {cl : Call}
theorem Rel.bind {H0 F H : Hp} {σd : List Sl} {C : Cells} {σ : L2.St} {i : Nat} {d : D} {v : V} (r : Rel W H0 F σd C σ H) (hi : i < σd.length) (h : Rep W F d v) : Rel W H0 F (σd.set i (.val d)) C (σ.set i (some v)) H where
  sub := r.sub
  cell := r.cell
  keep := r.keep
  box := r.box
  len := by simp [r.len]
  val := fun j d' hj => by
    by_cases e : i = j
    · subst e
      rw [List.getElem?_set_self hi] at hj; cases hj
      exact ⟨v, List.getElem?_set_self (by rw [← r.len]; exact hi), h⟩
    · rw [List.getElem?_set_ne e] at hj ⊢; exact r.val j d' hj
  own := fun j d' hj => by
    by_cases e : i = j
    · subst e
      rw [List.getElem?_set_self hi] at hj; cases hj
    · rw [List.getElem?_set_ne e] at hj ⊢
      obtain ⟨a, o, h1, h2, h3, h4, h5, h6, h7⟩ := r.own j d' hj
      refine ⟨a, o, h1, h2, h3, h4, h5, h6, fun k d2 hk hs => ?_⟩
      by_cases e2 : i = k
      · subst e2; rw [List.getElem?_set_self hi] at hs; cases hs
      · rw [List.getElem?_set_ne e2] at hs ⊢; exact h7 k d2 hk hs
theorem Rel.emp {H0 F H : Hp} {σd : List Sl} {C : Cells} {σ : L2.St} {i : Nat} (r : Rel W H0 F σd C σ H) : Rel W H0 F (σd.set i .emp) C (σ.set i none) H where
  sub := r.sub
  cell := r.cell
  keep := r.keep
  box := r.box
  len := by simp [r.len]
  val := fun j d' hj => by
    by_cases e : i = j
    · subst e
      by_cases hi : i < σd.length
      · rw [List.getElem?_set_self hi] at hj; cases hj
      · rw [List.getElem?_eq_none (by simpa using hi)] at hj; cases hj
    · rw [List.getElem?_set_ne e] at hj ⊢; exact r.val j d' hj
  own := fun j d' hj => by
    by_cases e : i = j
    · subst e
      by_cases hi : i < σd.length
      · rw [List.getElem?_set_self hi] at hj; cases hj
      · rw [List.getElem?_eq_none (by simpa using hi)] at hj; cases hj
    · rw [List.getElem?_set_ne e] at hj ⊢
      obtain ⟨a, o, h1, h2, h3, h4, h5, h6, h7⟩ := r.own j d' hj
      refine ⟨a, o, h1, h2, h3, h4, h5, h6, fun k d2 hk hs => ?_⟩
      by_cases e2 : i = k
      · subst e2
        by_cases hi : i < σd.length
        · rw [List.getElem?_set_self hi] at hs; cases hs
        · rw [List.getElem?_eq_none (by simpa using hi)] at hs; cases hs
      · rw [List.getElem?_set_ne e2] at hs ⊢; exact h7 k d2 hk hs
theorem Rel.wipe {H0 F H : Hp} {σd : List Sl} {C : Cells} {σ : L2.St} (r : Rel W H0 F σd C σ H) : ∀ vs : List Nat, Rel W H0 F (wipeS σd vs) C (L2.wipe σ vs) H
  | [] => r
  | _ :: vs => (r.wipe vs).emp
theorem wipe_get {σ : L2.St} : ∀ {vs : List Nat} {i : Nat}, (L2.wipe σ vs)[i]? = if i ∈ vs ∧ i < σ.length then some none else σ[i]?
  | [], i => by simp [L2.wipe]
  | v :: vs, i => by
    unfold L2.wipe
    have ih := @wipe_get σ vs i
    by_cases e : v = i
    · subst e
      by_cases hi : v < σ.length
      · rw [List.getElem?_set_self (by rw [wipe_length]; exact hi), if_pos ⟨List.mem_cons_self, hi⟩]
      · rw [List.getElem?_eq_none (by rw [List.length_set, wipe_length]; omega), if_neg (fun q => hi q.2), List.getElem?_eq_none (by omega)]
    · rw [List.getElem?_set_ne e, ih]
      have : (i ∈ v :: vs) ↔ i ∈ vs := by simp [Ne.symm e]
      simp only [this]
theorem wipe_eq {σ σ' : L2.St} {vs : List Nat} (hl : σ'.length = σ.length) (h : ∀ i, i ∉ vs → σ'[i]? = σ[i]?) : L2.wipe σ' vs = L2.wipe σ vs := by
  apply List.ext_getElem?
  intro i
  rw [wipe_get, wipe_get, hl]
  by_cases e : i ∈ vs
  · split
    · rfl
    · rename_i hn
      have : ¬ i < σ.length := fun q => hn ⟨e, q⟩
      rw [List.getElem?_eq_none (by omega), List.getElem?_eq_none (by omega)]
  · rw [if_neg (fun q => e q.1), if_neg (fun q => e q.1)]
    exact h i e
theorem wipe_idem (σ : L2.St) {vs ws : List Nat} (h : ∀ i ∈ ws, i ∈ vs) : ∀ i, i ∉ vs → (L2.wipe σ ws)[i]? = σ[i]? := fun i hi => by
  rw [wipe_get, if_neg fun q => hi (h i q.1)]

/-! ### targets -/
def tT (W : Wd) (t : Tg) : TG := fun v σ H Q => ∃ H0 F σd C d σd', Rel W H0 F σd C σ H ∧ Rep W F d v ∧ bindT t d σd = some σd' ∧
  ∀ σ', (∀ F' C' H', Ext F F' → Rel W H0 F' σd C' σ H' → Rel W H0 F' σd' C' σ' H') → σ'.length = σ.length → (∀ i, i ∉ t.vars → σ'[i]? = σ[i]?) → Q σ' H
def tTs (W : Wd) (ts : Tgs) : TGs := fun vs σ H Q => ∃ H0 F σd C ds σd', Rel W H0 F σd C σ H ∧ Reps W F ds vs ∧ bindTs ts ds σd = some σd' ∧
  ∀ σ', (∀ F' C' H', Ext F F' → Rel W H0 F' σd C' σ H' → Rel W H0 F' σd' C' σ' H') → σ'.length = σ.length → (∀ i, i ∉ ts.vars → σ'[i]? = σ[i]?) → Q σ' H
theorem _root_.L2.PG.imp {e : Expr} {t t' : TG} (h : PG X e t) (i : ∀ v σ H Q, t' v σ H Q → t v σ H Q) : PG X e t' := ⟨fun pins s σ H v u Q I r q => h.run pins s σ H v u Q I r (i v σ H Q q)⟩
theorem _root_.L2.PGs.imp {e : List Expr} {t t' : TGs} (h : PGs X e t) (i : ∀ v σ H Q, t' v σ H Q → t v σ H Q) : PGs X e t' := ⟨fun pins s σ H v u Q I r q => h.run pins s σ H v u Q I r (i v σ H Q q)⟩
theorem g_v {i : Nat} {e : Expr} (h : PG X e (gName i)) : PG X e (tT W (.v i)) := h.imp fun v σ H Q ⟨H0, F, σd, C, d, σd', rl, rp, q, k⟩ => by
  simp only [bindT] at q
  split at q
  · rename_i hi
    cases q
    exact k _ (fun F' C' H' e r => r.bind hi (rp.ext e)) (by simp) fun j hj => by
      simp only [Tg.vars, List.mem_singleton] at hj
      rw [List.getElem?_set_ne (Ne.symm hj)]
  · cases q
theorem gs_nil : PGs X [] (tTs W .nil) := pgs_nil.imp fun vs σ H Q ⟨H0, F, σd, C, ds, σd', rl, rp, q, k⟩ => by
  simp only [bindTs] at q
  split at q
  · rename_i hi
    cases q
    cases ds with
    | nil =>
      cases rp
      exact ⟨rfl, k _ (fun _ _ _ _ r => r) rfl fun _ _ => rfl⟩
    | cons => cases hi
  · cases q
theorem gs_cons {t : Tg} {ts : Tgs} {e : Expr} {es : List Expr} (h : PG X e (tT W t)) (h2 : PGs X es (tTs W ts)) (hs : (assignEach (e :: es) X.env).map (·.2) = assign e X.env :: (assignEach es X.env).map (·.2)) : PGs X (e :: es) (tTs W (.cons t ts)) :=
  (pgs_cons h h2 hs).imp fun vs σ H Q ⟨H0, F, σd, C, ds, σd', rl, rp, q, k⟩ => by
    simp only [bindTs] at q
    cases ds with
    | nil => cases q
    | cons d ds =>
      dsimp only at q
      cases rp with
      | cons rv rvs =>
        cases eb : bindT t d σd with
        | none => rw [eb] at q; cases q
        | some σ1 =>
          rw [eb] at q
          refine ⟨_, _, rfl, H0, F, σd, C, d, σ1, rl, rv, eb, fun σ' hR hl hv => ?_⟩
          refine ⟨H0, F, σ1, C, ds, σd', hR F C H (Ext.refl F) rl, rvs, q, fun σ2 hR2 hl2 hv2 => k σ2 (fun F' C' H' e r => hR2 F' C' H' e (hR F' C' H' e r)) (hl2.trans hl) fun i hi => ?_⟩
          simp only [Tgs.vars, List.mem_append, not_or] at hi
          rw [hv2 i hi.2, hv i hi.1]
def tgsLen : Tgs → Nat
  | .nil => 0
  | .cons _ ts => tgsLen ts + 1
theorem bindTs_len : ∀ {ts : Tgs} {ds : List D} {σ σ' : List Sl}, bindTs ts ds σ = some σ' → ds.length = tgsLen ts
  | .nil, ds, σ, σ', h => by
    simp only [bindTs] at h
    cases ds with
    | nil => rfl
    | cons => cases h
  | .cons t ts, ds, σ, σ', h => by
    simp only [bindTs] at h
    cases ds with
    | nil => cases h
    | cons d ds =>
      dsimp only at h
      cases eb : bindT t d σ with
      | none => rw [eb] at h; cases h
      | some σ1 =>
        rw [eb] at h
        rw [List.length_cons, bindTs_len h]; rfl
theorem aE_cons {e : Expr} {es : List Expr} {env : Env} (h : notStar e = true) : assignEach (e :: es) env = (false, assign e env) :: assignEach es env := by
  cases e <;> first | rfl | cases h
theorem aE_len : ∀ {es : List Expr} {env : Env}, es.all notStar = true → (assignEach es env).length = es.length ∧ (assignEach es env).findIdx? (·.1) = none
  | [], _, _ => ⟨rfl, rfl⟩
  | e :: es, env, h => by
    rw [List.all_cons, Bool.and_eq_true] at h
    obtain ⟨h1, h2⟩ := aE_len (env := env) h.2
    rw [aE_cons h.1]
    refine ⟨by rw [List.length_cons, List.length_cons, h1], ?_⟩
    rw [List.findIdx?_cons, h2]
    rfl
theorem g_tp {ts : Tgs} {es : List Expr} {k : Nat} {pos : Pos} (hK : X.K = W.K) (hc : X.calm = true) (h : PGs X es (tTs W ts)) (hs : es.all notStar = true) (hl : es.length = tgsLen ts) : PG X (.Tuple es k pos) (tT W (.tp ts)) :=
  (pg_tup hc h (aE_len hs).1 (aE_len hs).2).imp fun v σ H Q ⟨H0, F, σd, C, d, σd', rl, rp, q, kk⟩ => by
    simp only [bindT] at q
    cases d <;> try (cases q; done)
    rename_i xs
    obtain ⟨a, vs, rfl, h1, h2⟩ := rp.tup_inv
    exact ⟨a, vs, rfl, SqT.of (rl.sub.tup h1), by rw [← h2.len, bindTs_len q, hl], H0, F, σd, C, xs, σd', rl, h2, q, fun σ' hR hl hv => kk σ' hR hl hv⟩

/-! ### the tests of a comprehension -/
def tCo (W : Wd) (cl : Call) (c : Oe) : TT := fun σ H Q => ∃ H0 F σd C C' k, Rel W H0 F σd C σ H ∧ evc cl c σd C = .ok k C' ∧ ∀ F' H', Stp W F H F' C' H' → Q k H'
theorem _root_.L2.PTs.imp {es : List Expr} {t t' : TT} (h : PTs X es t) (i : ∀ σ H Q, t' σ H Q → t σ H Q) : PTs X es t' := ⟨fun pins s σ H Q I q => h.run pins s σ H Q I (i σ H Q q)⟩
theorem co_no : PTs X [] (tCo W cl .no) := pts_nil.imp fun σ H Q ⟨H0, F, σd, C, C', k, rl, q, kk⟩ => by
  simp only [evc] at q
  cases q
  exact kk F H (Stp.refl rl.sub rl.cell)
theorem co_so {m : E} {e : Expr} (h : PT X e (tB W cl m)) : PTs X [e] (tCo W cl (.so m)) := (pts_one h).imp fun σ H Q ⟨H0, F, σd, C, C', k, rl, q, kk⟩ => by
  simp only [evc] at q
  obtain ⟨d, C1, e1, q⟩ := R.bind_ok q
  obtain ⟨q2, rfl⟩ := R.of_ok q
  exact ⟨H0, F, σd, C, d, _, k, rl, e1, q2, kk⟩

/-! ### comprehensions -/
theorem Stp.keepL {F H F' H' : Hp} {C : Cells} {p : Addr} {vs : List V} (t : Stp W F H F' C H') (h : H p = some (.lst vs)) (hf : F p = none) (hc : W.ca ≠ some p) : H' p = some (.lst vs) ∧ F' p = none := by
  have hk := t.keep p _ h hc
  refine ⟨hk, ?_⟩
  cases e : F' p with
  | none => rfl
  | some o =>
    rcases t.new p o e with q | q | ⟨xs, q⟩
    · rw [hf] at q; cases q
    · rw [h] at q; cases q
    · subst q
      have := t.sub.tup e
      rw [hk] at this; cases this
theorem Stp.updO {F H F' H' : Hp} {C : Cells} {p : Addr} {o : HO} (t : Stp W F H F' C H') (h : H p = none) (hf : F' p = none) (hc : W.ca ≠ some p) : Stp W F H F' C (upd H' p o) where
  keep := fun a u h' n => by rw [upd_ne (ne_of_none h' h)]; exact t.keep a u h' n
  ext := t.ext
  sub := fun a u h' => by rw [upd_ne (ne_of_none h' hf)]; exact t.sub a u h'
  new := t.new
  cell := ⟨fun d e => by
    have hd : d ≠ p := by intro q; subst q; exact hc e
    rw [upd_ne hd]; exact t.cell.at_ d e⟩
  box := t.box
theorem sizeMost_le {n : Nat} (h : n ≤ sizeMost) : n ≤ sizeLine := h
theorem lc_imp {m : E} {t : Tg} {it : It} {c : Oe} {vs : List Nat} (ho : vs = t.vars) : ∀ σ H Q, tF W cl (.comp m (.mk t it c)) σ H Q → tLc (tI W cl it) (tT W t) (tCo W cl c) (tS W cl m) vs σ H Q :=
  fun σ H Q ⟨H0, F, σd, C, d, C', rl, q, k⟩ => by
    simp only [ev] at q
    obtain ⟨xs, C1, e1, q⟩ := R.bind_ok q
    obtain ⟨ys, C2, e2, q⟩ := R.bind_ok q
    split at q
    · rename_i hlen
      cases q
      rw [ho]
      refine ⟨H0, F, σd, C, xs, C1, rl, e1, fun F1 H1 J t1 gs D hD => ?_⟩
      have hca : W.ca ≠ some D := t1.cell.ne hD
      refine ⟨fun i n Hc => n = xs.length - i ∧ i ≤ xs.length ∧ ∃ Fc Cc acc vacc rest, Stp W F1 H1 Fc Cc Hc ∧ Hc D = some (.lst vacc) ∧ Fc D = none ∧ Reps W Fc acc vacc ∧ loopC (fun x C => match bindT t x (wipeS σd t.vars) with
          | none => .bad
          | some σ' => (evc cl c σ' C).bind fun k C => if k then (ev cl m σ' C).bind fun y C => .ok [y] C else .ok [] C) (xs.drop i) Cc = .ok rest C' ∧ acc ++ rest = ys,
        ⟨xs.length, by simp, by simp, F1, C1, [], [], ys, Stp.tmp t1.sub t1.cell hD, upd_same, t1.sub.none_of hD, .nil, by rw [List.drop_zero]; exact e2, by simp⟩, ?_⟩
      rintro i n Hc ⟨rfl, hi', Fc, Cc, acc, vacc, rest, ts, hDc, hFD, hacc, hl, hys⟩
      by_cases hend : i = xs.length
      · subst hend
        rw [List.drop_length] at hl
        simp only [loopC] at hl
        cases hl
        refine .inl ⟨gs.stop _ Fc Hc C' ⟨C', ts⟩ ts.sub ts.cell (Nat.le_refl _), k Fc Hc _ (t1.trans ts) ⟨D, _, rfl, t1.none_back hD, hDc, hFD, hca, .lst ?_⟩⟩
        rw [← hys, List.append_nil]; exact hacc
      · have hlt : i < xs.length := by omega
        refine .inr ⟨gs.go i Fc Hc Cc ⟨Cc, ts⟩ ts.sub ts.cell hlt, _, fun H' h => ⟨xs.length - (i + 1), by omega, h⟩, fun x H' hy => ?_⟩
        obtain ⟨F', d, hx, t2, rx⟩ := gs.yld i Fc Hc Cc x H' ⟨Cc, ts⟩ ts.sub ts.cell hlt hy
        rw [List.drop_eq_getElem_cons hlt] at hl
        have hx' : xs[i] = d := by
          rw [List.getElem?_eq_getElem hlt] at hx
          exact Option.some.inj hx
        rw [hx'] at hl
        simp only [loopC] at hl
        obtain ⟨ys1, C3, eb, hl⟩ := R.bind_ok hl
        obtain ⟨zs, C4, el, hl⟩ := R.bind_ok hl
        cases hl
        cases ebt : bindT t d (wipeS σd t.vars) with
        | none => rw [ebt] at eb; cases eb
        | some σ' =>
          rw [ebt] at eb
          obtain ⟨kb, C5, ec, eb⟩ := R.bind_ok (show (evc cl c σ' Cc).bind _ = _ from eb)
          have rl1 := (rl.stp ((t1.trans ts).trans t2)).wipe t.vars
          refine ⟨H0, F', wipeS σd t.vars, Cc, d, σ', rl1, rx, ebt, fun σ2 hR hl2 hv2 => ⟨?_, ?_⟩⟩
          · rw [wipe_eq hl2 hv2]
            exact wipe_eq (by rw [wipe_length]) (wipe_idem σ fun _ h => h)
          · have rl2 := hR F' Cc H' (Ext.refl _) rl1
            have kD := t2.keepL hDc hFD hca
            refine ⟨H0, F', σ', Cc, C5, kb, rl2, ec, fun F3 H3 t3 => ?_⟩
            have kD3 := t3.keepL kD.1 kD.2 hca
            cases kb with
            | true =>
              change ite _ _ _
              rw [if_pos rfl]
              rw [if_pos rfl] at eb
              obtain ⟨y, C6, ey, eb⟩ := R.bind_ok eb
              cases eb
              refine ⟨H0, F3, σ', C5, y, C3, rl2.stp t3, ey, fun F4 H4 v t4 rv => ?_⟩
              have kD4 := t4.keepL kD3.1 kD3.2 hca
              have hsz : acc.length < sizeMost := by
                have := congrArg List.length hys
                simp only [List.length_append, List.length_cons, List.length_nil] at this
                omega
              refine ⟨vacc, kD4.1, by rw [← hacc.len]; exact hsz, rfl, by omega, F4, C3, acc ++ [y], vacc ++ [v], zs, (((ts.trans t2).trans t3).trans t4).updO hD kD4.2 hca, upd_same, kD4.2, (hacc.ext (t2.ext.trans (t3.ext.trans t4.ext))).app (.one rv), el, ?_⟩
              rw [← hys]; simp
            | false =>
              change ite _ _ _
              rw [if_neg Bool.false_ne_true]
              rw [if_neg Bool.false_ne_true] at eb
              cases eb
              exact ⟨rfl, by omega, F3, C3, acc, vacc, zs, (ts.trans t2).trans t3, kD3.1, kD3.2, hacc.ext (t2.ext.trans t3.ext), el, by simpa using hys⟩
    · cases q
theorem f_comp {m : E} {t : Tg} {it : It} {c : Oe} {elt tg iter : Expr} {ifs : List Expr} {scope : Scope} {own : List (Str × Nat)} {pos : Pos} (hc : X.calm = true) (hN : X.N.Nodup) (hi : PI X tg iter (tI W cl it)) (ok : BlkOk X.N X.env.scope scope own) (ho : own.map (·.2) = t.vars)
    (hg : ∀ (s : Shared) (H : Hp) (C : Addr) (cl : List (Str × Addr)) (fp : List Addr), PG (X.blk s H scope (compEnvC scope cl C X.env) fp) tg (tT W t)) (ht : ∀ (s : Shared) (H : Hp) (C : Addr) (cl' : List (Str × Addr)) (fp : List Addr), PTs (X.blk s H scope (compEnvC scope cl' C X.env) fp) ifs (tCo W cl c))
    (he : ∀ (s : Shared) (H : Hp) (C : Addr) (cl' : List (Str × Addr)) (fp : List Addr), PE (X.blk s H scope (compEnvC scope cl' C X.env) fp) elt (tS W cl m)) (hs : ∀ x, foldedSetIterable iter X.env x = pure x) :
    PE X (.ListComp elt [⟨tg, iter, ifs, 0⟩] scope pos) (tF W cl (.comp m (.mk t it c))) :=
  (pe_lc hc hN hi ok hg ht he hs).imp (lc_imp ho)
end
end Mi

set_option Elab.async false
set_option linter.all false
set_option maxRecDepth 100000
set_option maxHeartbeats 4000000
namespace Mi
open PySem PySem.Spec PyProof.Rows L2

section
variable {W : Wd} {X : Cx} {cl : Call}
/-- what one turn of a comprehension's inner part hands on -/
def inC (cl : Call) (m : E) (t : Tg) (c : Oe) (vs : List Nat) (σd : List Sl) : D → Cells → R (List D) := fun x C => match bindT t x (wipeS σd vs) with
  | none => .bad
  | some σ' => (evc cl c σ' C).bind fun k C => if k then (ev cl m σ' C).bind fun y C => .ok [y] C else .ok [] C
def ouC (cl : Call) (m : E) (t : Tg) (c : Oe) (t2 : Tg) (it2 : It) (c2 : Oe) (σd : List Sl) : D → Cells → R (List D) := fun x C => match bindT t x (wipeS σd (t.vars ++ t2.vars)) with
  | none => .bad
  | some σ' => (evc cl c σ' C).bind fun k C => if k then (evi cl it2 σ' C).bind fun zs C => loopC (inC cl m t2 c2 t2.vars σ') zs C else .ok [] C
theorem lc2_imp {m : E} {t t2 : Tg} {it it2 : It} {c c2 : Oe} {vs : List Nat} (ho : vs = t.vars ++ t2.vars) : ∀ σ H Q, tF W cl (.comp2 m (.mk t it c) (.mk t2 it2 c2)) σ H Q → tLc2 (tI W cl it) (tT W t) (tCo W cl c) (tIs W cl it2) (tT W t2) (tCo W cl c2) (tS W cl m) vs t2.vars σ H Q :=
  fun σ H Q ⟨H0, F, σd, C, d, C', rl, q, k⟩ => by
    simp only [ev] at q
    obtain ⟨xs, C1, e1, q⟩ := R.bind_ok q
    obtain ⟨ys, C2, e2, q⟩ := R.bind_ok q
    have e2 : loopC (ouC cl m t c t2 it2 c2 σd) xs C1 = .ok ys C2 := e2
    split at q
    · rename_i hlen
      cases q
      rw [ho]
      refine ⟨H0, F, σd, C, xs, C1, rl, e1, fun F1 H1 J t1 gs D hD => ?_⟩
      have hca : W.ca ≠ some D := t1.cell.ne hD
      refine ⟨fun i n Hc => n = xs.length - i ∧ i ≤ xs.length ∧ ∃ Fc Cc acc vacc rest, Stp W F1 H1 Fc Cc Hc ∧ Hc D = some (.lst vacc) ∧ Fc D = none ∧ Reps W Fc acc vacc ∧ loopC (ouC cl m t c t2 it2 c2 σd) (xs.drop i) Cc = .ok rest C' ∧ acc ++ rest = ys,
        ⟨xs.length, by simp, by simp, F1, C1, [], [], ys, Stp.tmp t1.sub t1.cell hD, upd_same, t1.sub.none_of hD, .nil, by rw [List.drop_zero]; exact e2, by simp⟩, ?_⟩
      rintro i n Hc ⟨rfl, hi', Fc, Cc, acc, vacc, rest, ts, hDc, hFD, hacc, hl, hys⟩
      by_cases hend : i = xs.length
      · subst hend
        rw [List.drop_length] at hl
        simp only [loopC] at hl
        cases hl
        refine .inl ⟨gs.stop _ Fc Hc C' ⟨C', ts⟩ ts.sub ts.cell (Nat.le_refl _), k Fc Hc _ (t1.trans ts) ⟨D, _, rfl, t1.none_back hD, hDc, hFD, hca, .lst ?_⟩⟩
        rw [← hys, List.append_nil]; exact hacc
      · have hlt : i < xs.length := by omega
        refine .inr ⟨gs.go i Fc Hc Cc ⟨Cc, ts⟩ ts.sub ts.cell hlt, _, fun H' h => ⟨xs.length - (i + 1), by omega, h⟩, fun x H' hy => ?_⟩
        obtain ⟨F', d, hx, t2', rx⟩ := gs.yld i Fc Hc Cc x H' ⟨Cc, ts⟩ ts.sub ts.cell hlt hy
        rw [List.drop_eq_getElem_cons hlt] at hl
        have hx' : xs[i] = d := by
          rw [List.getElem?_eq_getElem hlt] at hx
          exact Option.some.inj hx
        rw [hx'] at hl
        simp only [loopC] at hl
        obtain ⟨ys1, C3, eb, hl⟩ := R.bind_ok hl
        obtain ⟨zs, C4, el, hl⟩ := R.bind_ok hl
        cases hl
        unfold ouC at eb
        cases ebt : bindT t d (wipeS σd (t.vars ++ t2.vars)) with
        | none => rw [ebt] at eb; cases eb
        | some σ' =>
          rw [ebt] at eb
          obtain ⟨kb, C5, ec, eb⟩ := R.bind_ok (show (evc cl c σ' Cc).bind _ = _ from eb)
          have rl1 := (rl.stp ((t1.trans ts).trans t2')).wipe (t.vars ++ t2.vars)
          refine ⟨H0, F', wipeS σd (t.vars ++ t2.vars), Cc, d, σ', rl1, rx, ebt, fun σ2 hR hl2 hv2 => ⟨?_, ?_⟩⟩
          · rw [wipe_eq (σ := L2.wipe σ (t.vars ++ t2.vars)) (σ' := σ2) (vs := t.vars ++ t2.vars) hl2 (fun i hi => hv2 i fun q => hi (List.mem_append_left _ q))]
            exact wipe_eq (by rw [wipe_length]) (wipe_idem σ fun _ h => h)
          · have rl2 := hR F' Cc H' (Ext.refl _) rl1
            have kD := t2'.keepL hDc hFD hca
            refine ⟨H0, F', σ', Cc, C5, kb, rl2, ec, fun F3 H3 t3 => ?_⟩
            have kD3 := t3.keepL kD.1 kD.2 hca
            have tt3 := (ts.trans t2').trans t3
            have hacc3 := hacc.ext (t2'.ext.trans t3.ext)
            cases kb with
            | true =>
              change ite _ _ _
              rw [if_pos rfl]
              rw [if_pos rfl] at eb
              obtain ⟨ws, C6, ew, eb⟩ := R.bind_ok eb
              refine ⟨H0, F3, σ', C5, ws, C6, rl2.stp t3, ew, fun F4 H4 J2 t4 gs2 => ?_⟩
              have kD4 := t4.keepL kD3.1 kD3.2 hca
              refine ⟨fun j n Hc => n = ws.length - j ∧ j ≤ ws.length ∧ ∃ Fc Cc acc vacc rest, Stp W F1 H1 Fc Cc Hc ∧ Ext F4 Fc ∧ Hc D = some (.lst vacc) ∧ Fc D = none ∧ Reps W Fc acc vacc ∧ loopC (inC cl m t2 c2 t2.vars σ') (ws.drop j) Cc = .ok rest C3 ∧ acc ++ (rest ++ zs) = ys,
                ⟨ws.length, by simp, by simp, F4, C6, acc, vacc, ys1, tt3.trans t4, Ext.refl _, kD4.1, kD4.2, hacc3.ext t4.ext, by rw [List.drop_zero]; exact eb, hys⟩, ?_⟩
              rintro j n Hd ⟨rfl, hj', Fd, Cd, acd, vacd, resd, td, xd, hDd, hFd, hacd, hld, hyd⟩
              by_cases hend2 : j = ws.length
              · subst hend2
                rw [List.drop_length] at hld
                simp only [loopC] at hld
                cases hld
                refine .inl ⟨gs2.stop _ Fd Hd C3 xd td.sub td.cell (Nat.le_refl _), rfl, by omega, Fd, C3, acd, vacd, zs, td, hDd, hFd, hacd, el, by simpa using hyd⟩
              · have hlt2 : j < ws.length := by omega
                refine .inr ⟨gs2.go j Fd Hd Cd xd td.sub td.cell hlt2, _, fun H' h => ⟨ws.length - (j + 1), by omega, h⟩, fun x2 H5 hy2 => ?_⟩
                obtain ⟨F5, d2, hx2, t5, rx2⟩ := gs2.yld j Fd Hd Cd x2 H5 xd td.sub td.cell hlt2 hy2
                rw [List.drop_eq_getElem_cons hlt2] at hld
                have hx2' : ws[j] = d2 := by
                  rw [List.getElem?_eq_getElem hlt2] at hx2
                  exact Option.some.inj hx2
                rw [hx2'] at hld
                simp only [loopC] at hld
                obtain ⟨ys2, C7, eb2, hld⟩ := R.bind_ok hld
                obtain ⟨zs2, C8, el2, hld⟩ := R.bind_ok hld
                cases hld
                unfold inC at eb2
                cases ebt2 : bindT t2 d2 (wipeS σ' t2.vars) with
                | none => rw [ebt2] at eb2; cases eb2
                | some σ3 =>
                  rw [ebt2] at eb2
                  obtain ⟨kb2, C9, ec2, eb2⟩ := R.bind_ok (show (evc cl c2 σ3 Cd).bind _ = _ from eb2)
                  have rl5 := (hR F5 Cd H5 ((t3.ext.trans t4.ext).trans (xd.trans t5.ext)) ((rl.stp ((t1.trans td).trans t5)).wipe (t.vars ++ t2.vars))).wipe t2.vars
                  refine ⟨H0, F5, wipeS σ' t2.vars, Cd, d2, σ3, rl5, rx2, ebt2, fun σ4 hR4 hl4 hv4 => ⟨?_, ?_⟩⟩
                  · rw [wipe_eq hl4 hv4]
                    exact wipe_eq (by rw [wipe_length]) (wipe_idem σ2 fun _ h => h)
                  · have rl6 := hR4 F5 Cd H5 (Ext.refl _) rl5
                    have kD5 := t5.keepL hDd hFd hca
                    refine ⟨H0, F5, σ3, Cd, C9, kb2, rl6, ec2, fun F6 H6 t6 => ?_⟩
                    have kD6 := t6.keepL kD5.1 kD5.2 hca
                    cases kb2 with
                    | true =>
                      change ite _ _ _
                      rw [if_pos rfl]
                      rw [if_pos rfl] at eb2
                      obtain ⟨y, C10, ey, eb2⟩ := R.bind_ok eb2
                      cases eb2
                      refine ⟨H0, F6, σ3, C9, y, C7, rl6.stp t6, ey, fun F7 H7 v t7 rv => ?_⟩
                      have kD7 := t7.keepL kD6.1 kD6.2 hca
                      have hsz : acd.length < sizeMost := by
                        have := congrArg List.length hyd
                        simp only [List.length_append, List.length_cons, List.length_nil] at this
                        omega
                      refine ⟨vacd, kD7.1, by rw [← hacd.len]; exact hsz, rfl, by omega, F7, C7, acd ++ [y], vacd ++ [v], zs2, (((td.trans t5).trans t6).trans t7).updO hD kD7.2 hca, xd.trans (t5.ext.trans (t6.ext.trans t7.ext)), upd_same, kD7.2, (hacd.ext (t5.ext.trans (t6.ext.trans t7.ext))).app (.one rv), el2, ?_⟩
                      rw [← hyd]; simp
                    | false =>
                      change ite _ _ _
                      rw [if_neg Bool.false_ne_true]
                      rw [if_neg Bool.false_ne_true] at eb2
                      cases eb2
                      exact ⟨rfl, by omega, F6, C7, acd, vacd, zs2, (td.trans t5).trans t6, xd.trans (t5.ext.trans t6.ext), kD6.1, kD6.2, hacd.ext (t5.ext.trans t6.ext), el2, by simpa using hyd⟩
            | false =>
              change ite _ _ _
              rw [if_neg Bool.false_ne_true]
              rw [if_neg Bool.false_ne_true] at eb
              cases eb
              exact ⟨rfl, by omega, F3, C3, acc, vacc, zs, tt3, kD3.1, kD3.2, hacc3, el, by simpa using hys⟩
    · cases q
theorem f_comp2 {m : E} {t t2 : Tg} {it it2 : It} {c c2 : Oe} {elt tg iter tg2 iter2 : Expr} {ifs ifs2 : List Expr} {scope : Scope} {own : List (Str × Nat)} {pos : Pos} (hc : X.calm = true) (hN : X.N.Nodup) (hi : PI X tg iter (tI W cl it)) (ok : BlkOk X.N X.env.scope scope own) (ho : own.map (·.2) = t.vars ++ t2.vars)
    (hg : ∀ (s : Shared) (H : Hp) (C : Addr) (cl : List (Str × Addr)) (fp : List Addr), PG (X.blk s H scope (compEnvC scope cl C X.env) fp) tg (tT W t)) (ht : ∀ (s : Shared) (H : Hp) (C : Addr) (cl' : List (Str × Addr)) (fp : List Addr), PTs (X.blk s H scope (compEnvC scope cl' C X.env) fp) ifs (tCo W cl c))
    (hi2 : ∀ (s : Shared) (H : Hp) (C : Addr) (cl' : List (Str × Addr)) (fp : List Addr), PI (X.blk s H scope (compEnvC scope cl' C X.env) fp) tg2 iter2 (tIs W cl it2))
    (hg2 : ∀ (s : Shared) (H : Hp) (C : Addr) (cl : List (Str × Addr)) (fp : List Addr), PG (X.blk s H scope (compEnvC scope cl C X.env) fp) tg2 (tT W t2)) (ht2 : ∀ (s : Shared) (H : Hp) (C : Addr) (cl' : List (Str × Addr)) (fp : List Addr), PTs (X.blk s H scope (compEnvC scope cl' C X.env) fp) ifs2 (tCo W cl c2))
    (he : ∀ (s : Shared) (H : Hp) (C : Addr) (cl' : List (Str × Addr)) (fp : List Addr), PE (X.blk s H scope (compEnvC scope cl' C X.env) fp) elt (tS W cl m)) (hs : ∀ x, foldedSetIterable iter X.env x = pure x) (hs2 : ∀ env x, foldedSetIterable iter2 env x = pure x) :
    PE X (.ListComp elt [⟨tg, iter, ifs, 0⟩, ⟨tg2, iter2, ifs2, 0⟩] scope pos) (tF W cl (.comp2 m (.mk t it c) (.mk t2 it2 c2))) :=
  (pe_lc2 hc hN hi ok (vs1 := t2.vars) (fun i h => by rw [ho]; exact List.mem_append_right _ h) hg ht hi2 hg2 ht2 he hs hs2).imp (lc2_imp ho)
end
end Mi

set_option Elab.async false
set_option linter.all false
set_option maxRecDepth 100000
set_option maxHeartbeats 4000000
namespace Mi
open PySem PySem.Spec PyProof.Rows L2

section
variable {W : Wd} {X : Cx} {cl : Call} {fr : Bool}
structure Bd (W : Wd) (F0 H0 F : Hp) (σd : List Sl) (C : Cells) (σ : L2.St) (H : Hp) : Prop where
  rel : Rel W H0 F σd C σ H
  st : Stp W F0 H0 F C H
theorem Bd.stp {F0 H0 F H F' H' : Hp} {σd : List Sl} {C C' : Cells} {σ : L2.St} (b : Bd W F0 H0 F σd C σ H) (t : Stp W F H F' C' H') : Bd W F0 H0 F' σd C' σ H' := ⟨b.rel.stp t, b.st.trans t⟩
/-- how a statement ends -/
def EndF (W : Wd) (fr : Bool) (F0 H0 F : Hp) (D : Ends) : Fl → Cells → Prop
  | .nx σd, C => ∀ F' σ H, Bd W F0 H0 F' σd C σ H → Ext F F' → D.nx σ H
  | .bk σd, C => ∀ F' σ H, Bd W F0 H0 F' σd C σ H → Ext F F' → D.bk σ H
  | .ct σd, C => ∀ F' σ H, Bd W F0 H0 F' σd C σ H → Ext F F' → D.ct σ H
  | .rt d, C => ∀ F' H v, Stp W F0 H0 F' C H → PostF W fr H0 F' H d v → D.rt v H
theorem EndF.ext {F0 H0 F F' : Hp} {D : Ends} {o : Fl} {C : Cells} (e : Ext F F') (h : EndF W fr F0 H0 F D o C) : EndF W fr F0 H0 F' D o C := by
  cases o with
  | rt d => exact h
  | nx σd => exact fun F2 σ H b x => h F2 σ H b (e.trans x)
  | bk σd => exact fun F2 σ H b x => h F2 σ H b (e.trans x)
  | ct σd => exact fun F2 σ H b x => h F2 σ H b (e.trans x)
def tSt (W : Wd) (cl : Call) (fr : Bool) (s : S) : TS := fun D σ H => ∃ F0 H0 F σd C o C', Bd W F0 H0 F σd C σ H ∧ evS cl s σd C = .ok o C' ∧ EndF W fr F0 H0 F D o C'
def tSts (W : Wd) (cl : Call) (fr : Bool) (s : Ss) : TS := fun D σ H => ∃ F0 H0 F σd C o C', Bd W F0 H0 F σd C σ H ∧ evSs cl s σd C = .ok o C' ∧ EndF W fr F0 H0 F D o C'
theorem _root_.L2.PS.imp {st : Stmt} {t t' : TS} (h : PS X st t) (i : ∀ D σ H, t' D σ H → t D σ H) : PS X st t' := ⟨fun pins s σ H D I q => h.run pins s σ H D I (i D σ H q)⟩
theorem _root_.L2.PSs.imp {st : List Stmt} {t t' : TS} (h : PSs X st t) (i : ∀ D σ H, t' D σ H → t D σ H) : PSs X st t' := ⟨fun pins s σ H D I q => h.run pins s σ H D I (i D σ H q)⟩

theorem ss_nil : PSs X [] (tSts W cl fr .nil) := pss_nil.imp fun D σ H ⟨F0, H0, F, σd, C, o, C', b, q, k⟩ => by
  simp only [evSs] at q
  cases q
  exact k F σ H b (Ext.refl F)
theorem ss_cons {s : S} {r : Ss} {st : Stmt} {rest : List Stmt} (h1 : PS X st (tSt W cl fr s)) (h2 : PSs X rest (tSts W cl fr r)) : PSs X (st :: rest) (tSts W cl fr (.cons s r)) :=
  (pss_cons h1 h2).imp fun D σ H ⟨F0, H0, F, σd, C, o, C', b, q, k⟩ => by
    simp only [evSs] at q
    obtain ⟨o1, C1, e1, q⟩ := R.bind_ok q
    refine ⟨F0, H0, F, σd, C, o1, C1, b, e1, ?_⟩
    cases o1 with
    | nx σ1 => exact fun F' σ' H' b' x => ⟨F0, H0, F', σ1, C1, o, C', b', q, k.ext x⟩
    | rt d => cases q; exact k
    | bk d => cases q; exact k
    | ct d => cases q; exact k
theorem ss_doc {r : Ss} {x : Str} {j pos pos'} {rest : List Stmt} (h2 : PSs X rest (tSts W cl fr r)) : PSs X (.Expr (.Constant (.str x) j pos) pos' :: rest) (tSts W cl fr r) :=
  (pss_cons ps_doc h2).imp fun D σ H h => h

/-! ### an owner's list or dict is frozen -/
theorem upd_self {H : Hp} {a : Addr} {o : HO} (h : H a = some o) : upd H a o = H := by
  funext b
  by_cases e : b = a
  · subst e; rw [upd_same, h]
  · rw [upd_ne e]
theorem Bd.frz {F0 H0 F H : Hp} {σd : List Sl} {C : Cells} {σ : L2.St} {i : Nat} {d : D} {a : Addr} {u : HO} (b : Bd W F0 H0 F σd C σ H) (hs : slotB σd[i]? = some d) (h1 : σ[i]? = some (some (.ref a))) (hf : F a = none) (h0 : H0 a = none) (hc : W.ca ≠ some a)
    (hd : ∀ (j : Nat) (d' : D), j ≠ i → slotB σd[j]? = some d' → σ[j]? ≠ some (some (.ref a))) (rp : Rep W (upd F a u) d (.ref a)) : Bd W F0 H0 (upd F a u) (σd.set i (.val d)) C σ (upd H a u) := by
  have hi : i < σd.length := by
    by_cases hi : i < σd.length
    · exact hi
    · rw [List.getElem?_eq_none (by omega)] at hs; cases hs
  have sub : Sub (upd F a u) (upd H a u) := fun p o h => by
    by_cases e : p = a
    · subst e; rw [upd_same] at h ⊢; exact h
    · rw [upd_ne e] at h ⊢; exact b.rel.sub p o h
  have cell : CellOk W (upd F a u) C (upd H a u) := ⟨fun p e => by
    have hp : p ≠ a := by intro z; subst z; exact hc e
    rw [upd_ne hp, upd_ne hp]; exact b.rel.cell.at_ p e⟩
  have keep : ∀ p o, H0 p = some o → W.ca ≠ some p → upd H a u p = some o := fun p o h n => by
    rw [upd_ne (ne_of_none h h0)]; exact b.rel.keep p o h n
  refine ⟨⟨sub, cell, keep, b.rel.box, by rw [List.length_set]; exact b.rel.len, fun j d' hj => ?_, fun j d' hj => ?_⟩, ⟨keep, b.st.ext.trans (Ext.upd hf), sub, fun p o h => ?_, cell, b.st.box⟩⟩
  · by_cases e : i = j
    · subst e
      rw [List.getElem?_set_self hi] at hj; cases hj
      exact ⟨_, h1, rp⟩
    · rw [List.getElem?_set_ne e] at hj
      obtain ⟨v, g1, g2⟩ := b.rel.val j d' hj
      exact ⟨v, g1, g2.ext (Ext.upd hf)⟩
  · by_cases e : i = j
    · subst e
      rw [List.getElem?_set_self hi] at hj; cases hj
    · rw [List.getElem?_set_ne e] at hj
      obtain ⟨p, o, g1, g2, g3, g4, g5, g6, g7⟩ := b.rel.own j d' hj
      have hp : p ≠ a := by
        intro z; subst z
        exact hd j d' (Ne.symm e) hj g1
      refine ⟨p, o, g1, by rw [upd_ne hp]; exact g2, g3.ext (Ext.upd hf), by rw [upd_ne hp]; exact g4, g5, g6, fun k d2 hk hs2 => ?_⟩
      by_cases e2 : i = k
      · subst e2; rw [List.getElem?_set_self hi] at hs2; cases hs2
      · rw [List.getElem?_set_ne e2] at hs2; exact g7 k d2 hk hs2
  · by_cases e : p = a
    · subst e; exact .inr (.inl h0)
    · rw [upd_ne e] at h; exact b.st.new p o h
theorem ss_frz {i : Nat} {r : Ss} {sts : List Stmt} (h : PSs X sts (tSts W cl fr r)) : PSs X sts (tSts W cl fr (.cons (.frz i) r)) := ⟨fun pins s σ H D I ⟨F0, H0, F, σd, C, o, C', b, q, k⟩ => by
  simp only [evSs, evS] at q
  cases e1 : slotB σd[i]? with
  | none => rw [e1] at q; cases q
  | some d =>
    rw [e1] at q
    have q : evSs cl r (σd.set i (.val d)) C = .ok o C' := q
    obtain ⟨a, u, g1, g2, g3, g4, g5, g6, g7⟩ := b.rel.own i d e1
    cases g3 with
    | @lst xs vs g3 =>
      have hb := b.frz (u := .lst vs) e1 g1 g4 g5 g6 g7 (.lst upd_same (g3.ext (Ext.upd g4)))
      rw [upd_self g2] at hb
      exact h.run pins s σ H D I ⟨F0, H0, _, _, C, o, C', hb, q, k.ext (Ext.upd g4)⟩
    | dK x y z =>
      obtain ⟨od, I2⟩ := I.lock g2 trivial
      exact h.run pins s σ _ D I2 ⟨F0, H0, _, _, C, o, C', b.frz e1 g1 g4 g5 g6 g7 (.dct upd_same (.dK x y (z.ext (Ext.upd g4)))), q, k.ext (Ext.upd g4)⟩
    | dT x y z =>
      obtain ⟨od, I2⟩ := I.lock g2 trivial
      exact h.run pins s σ _ D I2 ⟨F0, H0, _, _, C, o, C', b.frz e1 g1 g4 g5 g6 g7 (.dct upd_same (.dT x y (z.ext (Ext.upd g4)))), q, k.ext (Ext.upd g4)⟩⟩

/-! ### returns -/
theorem st_ret {m : E} {e : Expr} {pos : Pos} (hf : fr = false) (h : PE X e (tS W cl m)) : PS X (.Return (some e) pos) (tSt W cl fr (.ret m)) := (ps_ret h).imp fun D σ H ⟨F0, H0, F, σd, C, o, C', b, q, k⟩ => by
  subst hf
  simp only [evS] at q
  obtain ⟨d, C1, e1, q⟩ := R.bind_ok q
  cases q
  exact ⟨H0, F, σd, C, d, C', b.rel, e1, fun F' H' v t r => k F' H' v (b.st.trans t) r⟩
theorem st_retF {m : E} {e : Expr} {pos : Pos} (hf : fr = true) (h : PE X e (tF W cl m)) : PS X (.Return (some e) pos) (tSt W cl fr (.ret m)) := (ps_ret h).imp fun D σ H ⟨F0, H0, F, σd, C, o, C', b, q, k⟩ => by
  subst hf
  simp only [evS] at q
  obtain ⟨d, C1, e1, q⟩ := R.bind_ok q
  cases q
  refine ⟨H0, F, σd, C, d, C', b.rel, e1, fun F' H' v t ⟨p, u, ev', h1, h2⟩ => k F' H' v (b.st.trans t) ⟨p, u, ev', ?_, h2⟩⟩
  cases e : H0 p with
  | none => rfl
  | some w =>
    by_cases hc : W.ca = some p
    · have := (b.rel.cell.at_ p hc).1
      rw [h1] at this; cases this
    · rw [b.rel.keep p w e hc] at h1; cases h1
theorem st_retOF {i : Nat} {e : Expr} {pos : Pos} (hf : fr = true) (h : PE X e (tVar i)) : PS X (.Return (some e) pos) (tSt W cl fr (.retO i)) := (ps_ret h).imp fun D σ H ⟨F0, H0, F, σd, C, o, C', b, q, k⟩ => by
  subst hf
  simp only [evS] at q
  obtain ⟨d, C1, e1, q⟩ := R.bind_ok q
  cases q
  obtain ⟨e2, rfl⟩ := R.of_ok e1
  obtain ⟨a, u, g1, g2, g3, g4, g5, g6, g7⟩ := b.rel.own i d e2
  exact ⟨_, g1, k F H _ b.st ⟨a, u, rfl, g5, g2, g4, g6, g3⟩⟩
theorem st_retO {i : Nat} {e : Expr} {pos : Pos} (hf : fr = false) (h : PE X e (tVar i)) : PS X (.Return (some e) pos) (tSt W cl fr (.retO i)) := ⟨fun pins s σ H D I ⟨F0, H0, F, σd, C, o, C', b, q, k⟩ => by
  subst hf
  simp only [evS] at q
  obtain ⟨d, C1, e1, q⟩ := R.bind_ok q
  cases q
  obtain ⟨e2, rfl⟩ := R.of_ok e1
  obtain ⟨a, u, g1, g2, g3, g4, g5, g6, g7⟩ := b.rel.own i d e2
  cases g3 with
  | @lst xs vs g3 =>
    exact (ps_ret h).run pins s σ H D I ⟨_, g1, k (upd F a (.lst vs)) H _ (b.st.frz g5 g2 g4 g6) (.lst upd_same (g3.ext (Ext.upd g4)))⟩
  | dK x y z =>
    obtain ⟨od, I2⟩ := I.lock g2 trivial
    exact (ps_ret h).run pins s σ _ D I2 ⟨_, g1, k (upd F a _) _ _ (b.st.frzD g5 g2 g4 g6) (.dct upd_same (.dK x y (z.ext (Ext.upd g4))))⟩
  | dT x y z =>
    obtain ⟨od, I2⟩ := I.lock g2 trivial
    exact (ps_ret h).run pins s σ _ D I2 ⟨_, g1, k (upd F a _) _ _ (b.st.frzD g5 g2 g4 g6) (.dct upd_same (.dT x y (z.ext (Ext.upd g4))))⟩⟩
theorem st_retN {pos : Pos} (hf : fr = false) : PS X (.Return none pos) (tSt W cl fr .retN) := ps_retN.imp fun D σ H ⟨F0, H0, F, σd, C, o, C', b, q, k⟩ => by
  subst hf
  simp only [evS] at q
  cases q
  exact k F H _ b.st .non
theorem st_brk {pos : Pos} : PS X (.Break pos) (tSt W cl fr .brk) := ps_break.imp fun D σ H ⟨F0, H0, F, σd, C, o, C', b, q, k⟩ => by
  simp only [evS] at q
  cases q
  exact k F σ H b (Ext.refl F)
theorem st_cont {pos : Pos} : PS X (.Continue pos) (tSt W cl fr .cont) := ps_continue.imp fun D σ H ⟨F0, H0, F, σd, C, o, C', b, q, k⟩ => by
  simp only [evS] at q
  cases q
  exact k F σ H b (Ext.refl F)
theorem st_pass {pos : Pos} : PS X (.Pass pos) (tSt W cl fr .pass) := ps_pass.imp fun D σ H ⟨F0, H0, F, σd, C, o, C', b, q, k⟩ => by
  simp only [evS] at q
  cases q
  exact k F σ H b (Ext.refl F)
theorem st_raise {st : Stmt} {c : Nat} {es : Es} : PS X st (tSt W cl fr (.raise c es)) := ps_never.imp fun D σ H ⟨F0, H0, F, σd, C, o, C', b, q, k⟩ => by
  simp only [evS] at q
  obtain ⟨d, C1, e1, q⟩ := R.bind_ok q
  cases q
theorem st_ifs {m : E} {a b : Ss} {c : Expr} {p q : List Stmt} {pos : Pos} (hc : PT X c (tB W cl m)) (ha : PSs X p (tSts W cl fr a)) (hb : PSs X q (tSts W cl fr b)) : PS X (.If c p q pos) (tSt W cl fr (.ifs m a b)) :=
  (ps_if hc ha hb).imp fun D σ H ⟨F0, H0, F, σd, C, o, C', b, q, k⟩ => by
    simp only [evS] at q
    obtain ⟨d, C1, e1, q⟩ := R.bind_ok q
    cases e2 : truthD d with
    | none => rw [e2] at q; cases q
    | some kb =>
      rw [e2] at q
      refine ⟨H0, F, σd, C, d, C1, kb, b.rel, e1, e2, fun F' H' t => ?_⟩
      cases kb with
      | true => exact ⟨F0, H0, F', σd, C1, o, C', b.stp t, q, k.ext t.ext⟩
      | false => exact ⟨F0, H0, F', σd, C1, o, C', b.stp t, q, k.ext t.ext⟩
/-! ### loops -/
theorem st_whl {m : E} {a : Ss} {c : Expr} {p : List Stmt} {pos : Pos} (hp : PassesOwn (model X.prog X.w) X.A X.env X.xe) (hc : PT X c (tB W cl m)) (ha : PSs X p (tSts W cl fr a)) : PS X (.While c p [] pos) (tSt W cl fr (.whl m a)) :=
  (ps_while hp hc ha).imp fun D σ H ⟨F0, H0, F, σd, C, o, C', b, q, k⟩ => by
    simp only [evS] at q
    refine ⟨fun n σ2 H2 => ∃ F2 σd2 C2, Bd W F0 H0 F2 σd2 C2 σ2 H2 ∧ Ext F F2 ∧ loopW (fun σ C => (ev cl m σ C).bind fun x C => .of (truthD x) C) (fun σ C => evSs cl a σ C) n σd2 C2 = .ok o C', ⟨mostTurns, F, σd, C, b, Ext.refl F, q⟩, ?_⟩
    rintro n σ2 H2 ⟨F2, σd2, C2, b2, x2, q2⟩
    cases n with
    | zero => simp only [loopW] at q2; cases q2
    | succ n =>
      simp only [loopW] at q2
      obtain ⟨kb, C3, e3, q2⟩ := R.bind_ok q2
      obtain ⟨d, C4, e4, e3⟩ := R.bind_ok e3
      obtain ⟨e3', rfl⟩ := R.of_ok e3
      refine ⟨H0, F2, σd2, C2, d, _, kb, b2.rel, e4, e3', fun F3 H3 t3 => ?_⟩
      cases kb with
      | false =>
        change ite _ _ _
        rw [if_neg Bool.false_ne_true]
        rw [if_neg Bool.false_ne_true] at q2
        cases q2
        exact k F3 σ2 H3 (b2.stp t3) (x2.trans t3.ext)
      | true =>
        change ite _ _ _
        rw [if_pos rfl]
        rw [if_pos rfl] at q2
        obtain ⟨o5, C5, e5, q2⟩ := R.bind_ok q2
        refine ⟨_, fun σ' H' h => ⟨n, Nat.lt_succ_self n, h⟩, F0, H0, F3, σd2, _, o5, C5, b2.stp t3, e5, ?_⟩
        cases o5 with
        | nx σ5 => exact fun F' σ' H' b' x => ⟨F', σ5, C5, b', x2.trans (t3.ext.trans x), q2⟩
        | ct σ5 => exact fun F' σ' H' b' x => ⟨F', σ5, C5, b', x2.trans (t3.ext.trans x), q2⟩
        | bk σ5 =>
          cases q2
          exact fun F' σ' H' b' x => k F' σ' H' b' (x2.trans (t3.ext.trans x))
        | rt d =>
          cases q2
          exact k
theorem st_for {t : Tg} {it : It} {a : Ss} {tg iter : Expr} {p : List Stmt} {pos : Pos} (hp : PassesOwn (model X.prog X.w) X.A X.env X.xe) (hc : X.calm = true) (hi : PI X tg iter (tIs W cl it)) (hg : PG X tg (tT W t)) (ha : PSs X p (tSts W cl fr a)) (hs : ∀ x, foldedSetIterable iter X.env x = pure x) :
    PS X (.For tg iter p [] pos) (tSt W cl fr (.for_ t it a)) := (ps_for hp hc hi hg ha hs).imp fun D σ H ⟨F0, H0, F, σd, C, o, C', b, q, k⟩ => by
  simp only [evS] at q
  obtain ⟨xs, C1, e1, q⟩ := R.bind_ok q
  refine ⟨H0, F, σd, C, xs, C1, b.rel, e1, fun F1 H1 J t1 gs => ?_⟩
  refine ⟨fun i n σ2 H2 => n = xs.length - i ∧ i ≤ xs.length ∧ ∃ F2 σd2 C2, Bd W F0 H0 F2 σd2 C2 σ2 H2 ∧ Ext F1 F2 ∧ loopS (fun x σ C => match bindT t x σ with
    | none => .bad
    | some σ => evSs cl a σ C) (xs.drop i) σd2 C2 = .ok o C', ⟨xs.length, by simp, by simp, F1, σd, C1, b.stp t1, Ext.refl F1, by rw [List.drop_zero]; exact q⟩, ?_⟩
  rintro i n σ2 H2 ⟨rfl, hi', F2, σd2, C2, b2, x2, q2⟩
  by_cases hend : i = xs.length
  · subst hend
    rw [List.drop_length] at q2
    simp only [loopS] at q2
    cases q2
    exact .inl ⟨gs.stop _ F2 H2 _ x2 b2.rel.sub b2.rel.cell (Nat.le_refl _), k F2 σ2 H2 b2 (t1.ext.trans x2)⟩
  · have hlt : i < xs.length := by omega
    refine .inr ⟨gs.go i F2 H2 C2 x2 b2.rel.sub b2.rel.cell hlt, _, fun σ' H' h => ⟨xs.length - (i + 1), by omega, h⟩, fun x H' hy => ?_⟩
    obtain ⟨F', d, hx, t2, rx⟩ := gs.yld i F2 H2 C2 x H' x2 b2.rel.sub b2.rel.cell hlt hy
    rw [List.drop_eq_getElem_cons hlt] at q2
    have hx' : xs[i] = d := by
      rw [List.getElem?_eq_getElem hlt] at hx
      exact Option.some.inj hx
    rw [hx'] at q2
    simp only [loopS] at q2
    obtain ⟨o3, C3, e3, q2⟩ := R.bind_ok q2
    cases eb : bindT t d σd2 with
    | none => rw [eb] at e3; cases e3
    | some σd3 =>
      rw [eb] at e3
      have bb := b2.stp t2
      refine ⟨H0, F', σd2, C2, d, σd3, bb.rel, rx, eb, fun σ3 hR _ _ => ⟨F0, H0, F', σd3, C2, o3, C3, ⟨hR F' C2 H' (Ext.refl _) bb.rel, bb.st⟩, e3, ?_⟩⟩
      cases o3 with
      | nx σ5 => exact fun F4 σ' H4 b' x => ⟨rfl, by omega, F4, σ5, C3, b', x2.trans (t2.ext.trans x), q2⟩
      | ct σ5 => exact fun F4 σ' H4 b' x => ⟨rfl, by omega, F4, σ5, C3, b', x2.trans (t2.ext.trans x), q2⟩
      | bk σ5 =>
        cases q2
        exact fun F4 σ' H4 b' x => k F4 σ' H4 b' (t1.ext.trans (x2.trans (t2.ext.trans x)))
      | rt d =>
        cases q2
        exact k
end
end Mi

set_option Elab.async false
set_option linter.all false
set_option maxRecDepth 100000
set_option maxHeartbeats 4000000
namespace Mi
open PySem PySem.Spec PyProof.Rows L2

section
variable {W : Wd} {X : Cx} {cl : Call} {fr : Bool}
theorem slotB_lt {σd : List Sl} {i : Nat} {d : D} (h : slotB σd[i]? = some d) : i < σd.length := by
  by_cases hi : i < σd.length
  · exact hi
  · rw [List.getElem?_eq_none (by omega)] at h; cases h
/-- a slot becomes the owner of what nobody else owns -/
theorem Bd.setO {F0 H0 F H : Hp} {σd : List Sl} {C : Cells} {σ : L2.St} {i : Nat} {d : D} {sl : Sl} {p : Addr} {o : HO} (b : Bd W F0 H0 F σd C σ H) (hi : i < σd.length) (hsl : slotB (some sl) = some d) (hH : H p = some o) (hF : F p = none) (h0 : H0 p = none) (hc : W.ca ≠ some p) (r : RepO W F d o)
    (hd : ∀ (j : Nat) (d' : D), j ≠ i → slotB σd[j]? = some d' → σ[j]? ≠ some (some (.ref p))) : Bd W F0 H0 F (σd.set i sl) C (σ.set i (some (.ref p))) H := by
  have hiσ : i < σ.length := by rw [← b.rel.len]; exact hi
  refine ⟨⟨b.rel.sub, b.rel.cell, b.rel.keep, b.rel.box, by simp [b.rel.len], fun j d' hj => ?_, fun j d' hj => ?_⟩, b.st⟩
  · by_cases e : i = j
    · subst e
      rw [List.getElem?_set_self hi] at hj; cases hj
      cases hsl
    · rw [List.getElem?_set_ne e] at hj ⊢; exact b.rel.val j d' hj
  · by_cases e : i = j
    · subst e
      rw [List.getElem?_set_self hi] at hj
      rw [hsl] at hj; cases hj
      refine ⟨p, o, List.getElem?_set_self hiσ, hH, r, hF, h0, hc, fun k d2 hk hs2 => ?_⟩
      rw [List.getElem?_set_ne (Ne.symm hk)] at hs2 ⊢
      exact hd k d2 hk hs2
    · rw [List.getElem?_set_ne e] at hj ⊢
      obtain ⟨a, u, g1, g2, g3, g4, g5, g6, g7⟩ := b.rel.own j d' hj
      refine ⟨a, u, g1, g2, g3, g4, g5, g6, fun k d2 hk hs2 => ?_⟩
      by_cases e2 : i = k
      · subst e2
        rw [List.getElem?_set_self hiσ]
        intro z
        cases z
        exact hd j d' (Ne.symm e) hj g1
      · rw [List.getElem?_set_ne e2] at hs2 ⊢; exact g7 k d2 hk hs2
theorem Bd.setV {F0 H0 F H : Hp} {σd : List Sl} {C : Cells} {σ : L2.St} {i : Nat} {d : D} {v : V} (b : Bd W F0 H0 F σd C σ H) (hi : i < σd.length) (h : Rep W F d v) : Bd W F0 H0 F (σd.set i (.val d)) C (σ.set i (some v)) H := ⟨b.rel.bind hi h, b.st⟩
/-- the object of an owner changes -/
theorem Bd.mut {F0 H0 F H : Hp} {σd : List Sl} {C : Cells} {σ : L2.St} {i : Nat} {d d' : D} {sl : Sl} {p : Addr} {o' : HO} (b : Bd W F0 H0 F σd C σ H) (hs : slotB σd[i]? = some d) (hsl : slotB (some sl) = some d') (h1 : σ[i]? = some (some (.ref p))) (hF : F p = none) (h0 : H0 p = none) (hc : W.ca ≠ some p)
    (hd : ∀ (j : Nat) (d' : D), j ≠ i → slotB σd[j]? = some d' → σ[j]? ≠ some (some (.ref p))) (r : RepO W F d' o') : Bd W F0 H0 F (σd.set i sl) C σ (upd H p o') := by
  have hi := slotB_lt hs
  have sub : Sub F (upd H p o') := fun a u h => by rw [upd_ne (ne_of_none h hF)]; exact b.rel.sub a u h
  have cell : CellOk W F C (upd H p o') := ⟨fun a e => by
    have ha : a ≠ p := by intro z; subst z; exact hc e
    rw [upd_ne ha]; exact b.rel.cell.at_ a e⟩
  have keep : ∀ a u, H0 a = some u → W.ca ≠ some a → upd H p o' a = some u := fun a u h n => by
    rw [upd_ne (ne_of_none h h0)]; exact b.rel.keep a u h n
  refine ⟨⟨sub, cell, keep, b.rel.box, by simp [b.rel.len], fun j d2 hj => ?_, fun j d2 hj => ?_⟩, ⟨keep, b.st.ext, sub, b.st.new, cell, b.st.box⟩⟩
  · by_cases e : i = j
    · subst e
      rw [List.getElem?_set_self hi] at hj; cases hj
      cases hsl
    · rw [List.getElem?_set_ne e] at hj; exact b.rel.val j d2 hj
  · by_cases e : i = j
    · subst e
      rw [List.getElem?_set_self hi] at hj
      rw [hsl] at hj; cases hj
      refine ⟨p, o', h1, upd_same, r, hF, h0, hc, fun k d2 hk hs2 => ?_⟩
      rw [List.getElem?_set_ne (Ne.symm hk)] at hs2
      exact hd k d2 hk hs2
    · rw [List.getElem?_set_ne e] at hj
      obtain ⟨a, u, g1, g2, g3, g4, g5, g6, g7⟩ := b.rel.own j d2 hj
      have ha : a ≠ p := by
        intro z; subst z
        exact hd j d2 (Ne.symm e) hj g1
      refine ⟨a, u, g1, by rw [upd_ne ha]; exact g2, g3, g4, g5, g6, fun k d3 hk hs2 => ?_⟩
      by_cases e2 : i = k
      · subst e2
        rw [h1]
        intro z
        cases z
        exact ha rfl
      · rw [List.getElem?_set_ne e2] at hs2; exact g7 k d3 hk hs2
/-- what an owner holds was there before -/
theorem Bd.notNew {F0 H0 F H : Hp} {σd : List Sl} {C : Cells} {σ : L2.St} {p : Addr} (b : Bd W F0 H0 F σd C σ H) (hp : H p = none) : H0 p = none ∧ ∀ (j : Nat) (d' : D), slotB σd[j]? = some d' → σ[j]? ≠ some (some (.ref p)) := by
  refine ⟨b.st.none_back hp, fun j d' hj z => ?_⟩
  obtain ⟨a, u, g1, g2, _⟩ := b.rel.own j d' hj
  rw [g1] at z; cases z
  rw [hp] at g2; cases g2

/-! ### assignments -/
theorem st_asg {m : E} {t : Tg} {tg e : Expr} {pos : Pos} (he : PE X e (tS W cl m)) (hg : PG X tg (tT W t)) (hs : swapsWithSole [tg] e pos.line X.env = pure false) (hw : swappedStores [tg] e X.env = pure none) (hn : notStar tg = true) : PS X (.Assign [tg] e pos) (tSt W cl fr (.asg t m)) :=
  (ps_asg he hg hs hw (by rw [aE_cons hn]; rfl)).imp fun D σ H ⟨F0, H0, F, σd, C, o, C', b, q, k⟩ => by
    simp only [evS] at q
    obtain ⟨d, C1, e1, q⟩ := R.bind_ok q
    cases eb : bindT t d σd with
    | none => rw [eb] at q; cases q
    | some σd' =>
      rw [eb] at q
      cases q
      refine ⟨H0, F, σd, C, d, C', b.rel, e1, fun F1 H1 v t1 rv => ?_⟩
      have bb := b.stp t1
      exact ⟨H0, F1, σd, C', d, σd', bb.rel, rv, eb, fun σ' hR _ _ => k F1 σ' H1 ⟨hR F1 C' H1 (Ext.refl _) bb.rel, bb.st⟩ t1.ext⟩
/-- a new list goes to a name that only looks -/
theorem st_asgL {m : E} {i : Nat} {st : Stmt} (h : PS X st (tAsg (tF W cl m) (gName i))) (hm : ∀ σ C d C', ev cl m σ C = .ok d C' → ∃ xs, d = .lst xs) : PS X st (tSt W cl fr (.asg (.v i) m)) := h.imp fun D σ H ⟨F0, H0, F, σd, C, o, C', b, q, k⟩ => by
  simp only [evS] at q
  obtain ⟨d, C1, e1, q⟩ := R.bind_ok q
  obtain ⟨xs, rfl⟩ := hm _ _ _ _ e1
  simp only [bindT] at q
  split at q
  · rename_i hi
    cases q
    refine ⟨H0, F, σd, C, _, C', b.rel, e1, fun F1 H1 v t1 ⟨p, u, ev', h1, h2, h3, h4, h5⟩ => ?_⟩
    subst ev'
    cases h5 with
    | @lst xs vs h5 =>
      have t2 := t1.frz h1 h2 h3 h4
      have bb := b.stp t2
      exact k _ _ H1 (bb.setV hi (.lst upd_same (h5.ext (Ext.upd h3)))) t2.ext
  · cases q
theorem comp_lst {e : E} {g : G} : ∀ σ C d C', ev cl (.comp e g) σ C = .ok d C' → ∃ xs, d = .lst xs := by
  intro σ C d C' q
  cases g
  simp only [ev] at q
  obtain ⟨xs, C1, e1, q⟩ := R.bind_ok q
  obtain ⟨ys, C2, e2, q⟩ := R.bind_ok q
  split at q
  · cases q; exact ⟨_, rfl⟩
  · cases q
theorem comp2_lst {e : E} {g g2 : G} : ∀ σ C d C', ev cl (.comp2 e g g2) σ C = .ok d C' → ∃ xs, d = .lst xs := by
  intro σ C d C' q
  cases g
  cases g2
  simp only [ev] at q
  obtain ⟨xs, C1, e1, q⟩ := R.bind_ok q
  obtain ⟨ys, C2, e2, q⟩ := R.bind_ok q
  split at q
  · cases q; exact ⟨_, rfl⟩
  · cases q
theorem st_asgO {m : E} {i : Nat} {st : Stmt} (h : PS X st (tAsg (tF W cl m) (gName i))) : PS X st (tSt W cl fr (.asgO i m)) := h.imp fun D σ H ⟨F0, H0, F, σd, C, o, C', b, q, k⟩ => by
  simp only [evS] at q
  obtain ⟨d, C1, e1, q⟩ := R.bind_ok q
  split at q
  · rename_i hi
    cases d <;> try (cases q; done)
    · cases q
      refine ⟨H0, F, σd, C, _, C', b.rel, e1, fun F1 H1 v t1 ⟨p, u, ev', h1, h2, h3, h4, h5⟩ => ?_⟩
      subst ev'
      exact k F1 _ H1 ((b.stp t1).setO hi rfl h2 h3 (b.notNew h1).1 h4 h5 fun j d' _ hj => (b.notNew h1).2 j d' hj) t1.ext
    · cases q
      refine ⟨H0, F, σd, C, _, C', b.rel, e1, fun F1 H1 v t1 ⟨p, u, ev', h1, h2, h3, h4, h5⟩ => ?_⟩
      subst ev'
      exact k F1 _ H1 ((b.stp t1).setO hi rfl h2 h3 (b.notNew h1).1 h4 h5 fun j d' _ hj => (b.notNew h1).2 j d' hj) t1.ext
  · cases q

/-! ### several at once -/
inductive RepsM (W : Wd) (F' H' : Hp) : Hp → List Bool → List D → List V → Prop
  | nil {H : Hp} : RepsM W F' H' H [] [] []
  | val {H : Hp} {fl : List Bool} {d : D} {ds : List D} {v : V} {vs : List V} : Rep W F' d v → RepsM W F' H' H fl ds vs → RepsM W F' H' H (false :: fl) (d :: ds) (v :: vs)
  | own {H : Hp} {fl : List Bool} {d : D} {ds : List D} {p : Addr} {vs : List V} : FrR W H F' H' d (.ref p) → RepsM W F' H' (upd H p (.lst [])) fl ds vs → RepsM W F' H' H (true :: fl) (d :: ds) (.ref p :: vs)
def tMs (W : Wd) (cl : Call) (fl : List Bool) (ms : Es) : TA := fun σ H Q => ∃ H0 F σd C ds C', Rel W H0 F σd C σ H ∧ evs cl ms σd C = .ok ds C' ∧ ∀ F' H' vs, Stp W F H F' C' H' → RepsM W F' H' H fl ds vs → Q vs H'
theorem am_nil : PA X [] (tMs W cl [] .nil) := pa_nil.imp fun σ H Q ⟨H0, F, σd, C, ds, C', rl, q, k⟩ => by
  simp only [evs] at q
  cases q
  exact k F H [] (Stp.refl rl.sub rl.cell) .nil
theorem RepsM.weak {H H2 F' H' : Hp} (h : ∀ p, H2 p = none → H p = none) : ∀ {fl : List Bool} {ds : List D} {vs : List V}, RepsM W F' H' H2 fl ds vs → RepsM W F' H' H fl ds vs := by
  intro fl ds vs q
  induction q generalizing H with
  | nil => exact .nil
  | val r _ ih => exact .val r (ih h)
  | own r _ ih =>
    obtain ⟨p', u, e, h1, h2⟩ := r
    cases e
    refine .own ⟨_, u, rfl, h _ h1, h2⟩ (ih fun a ha => ?_)
    rename_i p _ _
    by_cases e : a = p
    · subst e; rw [upd_same] at ha; cases ha
    · rw [upd_ne e] at ha ⊢; exact h a ha
theorem am_val {m : E} {ms : Es} {fl : List Bool} {e : Expr} {es : List Expr} (ha : PE X e (tS W cl m)) (hr : PA X es (tMs W cl fl ms)) (hs : notStar e = true) : PA X (e :: es) (tMs W cl (false :: fl) (.cons m ms)) :=
  (pa_cons ha hr (star_cons hs)).imp fun σ H Q ⟨H0, F, σd, C, ds, C', rl, q, k⟩ => by
    simp only [evs] at q
    obtain ⟨d, C1, e1, q⟩ := R.bind_ok q
    obtain ⟨ds', C2, e2, q⟩ := R.bind_ok q
    cases q
    refine ⟨H0, F, σd, C, d, C1, rl, e1, fun F1 H1 v t1 r1 => ⟨H0, F1, σd, C1, ds', C', rl.stp t1, e2, fun F2 H2 vs t2 r2 => ?_⟩⟩
    exact k F2 H2 _ (t1.trans t2) (.val (r1.ext t2.ext) (r2.weak fun p hp => t1.none_back hp))
theorem Stp.keepR {F H F' H' : Hp} {C : Cells} {p : Addr} {d : D} {o : HO} (t : Stp W F H F' C H') (h : H p = some o) (hf : F p = none) (hc : W.ca ≠ some p) (r : RepO W F d o) : H' p = some o ∧ F' p = none := by
  have hk := t.keep p _ h hc
  refine ⟨hk, ?_⟩
  cases e : F' p with
  | none => rfl
  | some u =>
    rcases t.new p u e with q | q | ⟨xs, q⟩
    · rw [hf] at q; cases q
    · rw [h] at q; cases q
    · subst q
      have := t.sub.tup e
      rw [hk] at this; cases this
      cases r
theorem am_own {m : E} {ms : Es} {fl : List Bool} {e : Expr} {es : List Expr} (ha : PE X e (tF W cl m)) (hr : PA X es (tMs W cl fl ms)) (hs : notStar e = true) : PA X (e :: es) (tMs W cl (true :: fl) (.cons m ms)) :=
  (pa_cons ha hr (star_cons hs)).imp fun σ H Q ⟨H0, F, σd, C, ds, C', rl, q, k⟩ => by
    simp only [evs] at q
    obtain ⟨d, C1, e1, q⟩ := R.bind_ok q
    obtain ⟨ds', C2, e2, q⟩ := R.bind_ok q
    cases q
    refine ⟨H0, F, σd, C, d, C1, rl, e1, fun F1 H1 v t1 ⟨p, u, ev', h1, h2, h3, h4, h5⟩ => ⟨H0, F1, σd, C1, ds', C', rl.stp t1, e2, fun F2 H2 vs t2 r2 => ?_⟩⟩
    subst ev'
    have kp := t2.keepR h2 h3 h4 h5
    refine k F2 H2 _ (t1.trans t2) (.own ⟨p, u, rfl, h1, kp.1, kp.2, h4, h5.ext t2.ext⟩ (r2.weak fun a ha => ?_))
    by_cases e : a = p
    · subst e; rw [h2] at ha; cases ha
    · rw [upd_ne e]; exact t1.none_back ha
def setMany : L2.St → List Nat → List V → L2.St
  | σ, i :: is, v :: vs => setMany (σ.set i (some v)) is vs
  | σ, _, _ => σ
theorem Bd.par {F0 H0 F H : Hp} : ∀ {is : List (Nat × Bool)} {ds : List D} {vs : List V} {Hs : Hp} {σd σd' : List Sl} {C : Cells} {σ : L2.St}, Bd W F0 H0 F σd C σ H → RepsM W F H Hs (is.map (·.2)) ds vs → parS is ds σd = some σd' → (∀ p, Hs p = none → H0 p = none ∧ ∀ (j : Nat) (d' : D), slotB σd[j]? = some d' → σ[j]? ≠ some (some (.ref p))) →
    Bd W F0 H0 F σd' C (setMany σ (is.map (·.1)) vs) H
  | [], ds, vs, Hs, σd, σd', C, σ, b, r, q, hn => by
    cases r
    simp only [parS] at q
    cases q
    exact b
  | (i, own) :: is, ds, vs, Hs, σd, σd', C, σ, b, r, q, hn => by
    rw [List.map_cons] at r ⊢
    cases own with
    | false =>
      cases r with
      | val r1 r2 =>
        simp only [parS] at q
        split at q
        · rename_i hi
          exact Bd.par (b.setV hi r1) r2 q fun p hp => ⟨(hn p hp).1, fun j d' hj z => by
            by_cases e : i = j
            · subst e; rw [List.getElem?_set_self hi] at hj; cases hj
            · rw [List.getElem?_set_ne e] at hj z; exact (hn p hp).2 j d' hj z⟩
        · cases q
    | true =>
      cases r with
      | @own _ fl d ds p vs r1 r2 =>
        simp only [parS] at q
        split at q
        · rename_i hi
          obtain ⟨p', u, e, h1, h2, h3, h4, h5⟩ := r1
          cases e
          have hnew : ∀ sl d0, slotB (some sl) = some d0 → RepO W F d0 u → parS is ds (σd.set i sl) = some σd' → Bd W F0 H0 F σd' C (setMany (σ.set i (some (.ref p))) (is.map (·.1)) vs) H := fun sl d0 hsl hr q' => by
            refine Bd.par (b.setO hi hsl h2 h3 (hn p h1).1 h4 hr fun j d' _ hj => (hn p h1).2 j d' hj) r2 q' fun a ha => ?_
            have hap : a ≠ p := by
              intro z; subst z; rw [upd_same] at ha; cases ha
            rw [upd_ne hap] at ha
            refine ⟨(hn a ha).1, fun j d' hj z => ?_⟩
            by_cases e : i = j
            · subst e
              rw [List.getElem?_set_self (by rw [← b.rel.len]; exact hi)] at z
              cases z
              exact hap rfl
            · rw [List.getElem?_set_ne e] at hj z; exact (hn a ha).2 j d' hj z
          cases d <;> try (cases q; done)
          · exact hnew _ _ rfl h5 q
          · exact hnew _ _ rfl h5 q
        · cases q
theorem st_par {is : List (Nat × Bool)} {ms : Es} {st : Stmt} {fl : List Bool} (hfl : fl = is.map (·.2)) (h : PS X st (fun D σ H => tMs W cl fl ms σ H fun vs H1 => vs.length = is.length → D.nx (setMany σ (is.map (·.1)) vs) H1)) : PS X st (tSt W cl fr (.par is ms)) := h.imp fun D σ H ⟨F0, H0, F, σd, C, o, C', b, q, k⟩ => by
  subst hfl
  simp only [evS] at q
  obtain ⟨ds, C1, e1, q⟩ := R.bind_ok q
  cases eb : parS is ds σd with
  | none => rw [eb] at q; cases q
  | some σd' =>
    rw [eb] at q
    cases q
    refine ⟨H0, F, σd, C, ds, C', b.rel, e1, fun F1 H1 vs t1 r _ => ?_⟩
    exact k F1 _ H1 ((b.stp t1).par r eb fun p hp => ⟨(b.notNew hp).1, (b.notNew hp).2⟩) t1.ext
end
end Mi

set_option Elab.async false
set_option linter.all false
set_option maxRecDepth 100000
set_option maxHeartbeats 4000000
namespace Mi
open PySem PySem.Spec PyProof.Rows L2

section
variable {W : Wd} {X : Cx} {cl : Call} {fr : Bool}
theorem paired_keys {α β : Type} {κ : Type} {f : α → κ} {g : β → κ} {P : α → β → Prop} (h : ∀ a b, P a b → f a = g b) : ∀ {xs : List α} {ys : List β}, Paired P xs ys → xs.map f = ys.map g
  | _, _, .nil => rfl
  | _, _, .cons r t => by rw [List.map_cons, List.map_cons, h _ _ r, paired_keys h t]
theorem nodup_dK {pins : List (Addr × Obj)} {σ : L2.St} {H : Hp} {s : Shared} (I : Inv X pins σ H s) {a : Addr} {kvs : List (Key × V)} (h : H a = some (.dK kvs)) : (kvs.map (·.1)).Nodup := by
  obtain ⟨_, _, vs, r, o, es, ep, _, _, _, _, _, nd⟩ := I.hok a _ h
  rw [paired_keys (fun _ _ z => z.1) r]
  exact nd
theorem nodup_dT {pins : List (Addr × Obj)} {σ : L2.St} {H : Hp} {s : Shared} (I : Inv X pins σ H s) {a : Addr} {kvs : List (List Key × V)} (h : H a = some (.dT kvs)) : (kvs.map (·.1)).Nodup := by
  obtain ⟨_, _, vs, r, o, es, ep, _, _, _, _, nd⟩ := I.hok a _ h
  rw [paired_keys (fun _ _ z => z.1) r]
  exact nd
/-- a dict's entry is set; no key stands twice in it -/
def rSetDN : TSet := fun o i v H Q => ∃ a H', o = .ref a ∧ DPut H a i v H' ∧ ((∀ kvs, H a = some (.dK kvs) → (kvs.map (·.1)).Nodup) → (∀ kvs, H a = some (.dT kvs) → (kvs.map (·.1)).Nodup) → Q H')
theorem set_dN (hu : X.A.units + 1 < cLine) : PSet X rSetDN := by
  intro pins s σ H o i v ov iv u Q I ro ri rv h
  obtain ⟨a, H', eo, g, q⟩ := h
  subst eo
  cases (show ov = Value.ref a from ro)
  exact d_setItem hu I g ri rv fun s' I' => ⟨H', I', q (fun kvs h => nodup_dK I h) (fun kvs h => nodup_dT I h)⟩
def rSetA : TSet := fun o i v H Q => rSetL o i v H Q ∨ rSetDN o i v H Q
theorem set_A (hu : X.A.units + 1 < cLine) : PSet X rSetA := by
  intro pins s σ H o i v ov iv u Q I ro ri rv h
  rcases h with h | h
  · exact set_list pins s σ H o i v ov iv u Q I ro ri rv h
  · exact set_dN hu pins s σ H o i v ov iv u Q I ro ri rv h
theorem ixN_lt {n : Nat} {i : Int} {j : Nat} (h : ixD n i = some j) : j < n := by
  unfold ixD at h
  split at h
  · split at h
    · cases h; omega
    · cases h
  · split at h
    · cases h; omega
    · cases h
theorem Bd.cellSet {F0 H0 F H : Hp} {σd : List Sl} {C : Cells} {σ : L2.St} {c : Addr} {m : Nat} {z : Int} (b : Bd W F0 H0 F σd C σ H) (hc : W.ca = some c) : Bd W F0 H0 F σd (C.set m z) σ (upd H c (.lst ((C.set m z).map V.int))) := by
  have hat := b.rel.cell.at_ c hc
  have cell : CellOk W F (C.set m z) (upd H c (.lst ((C.set m z).map V.int))) := ⟨fun d e => by
    rw [hc] at e; cases e
    exact ⟨upd_same, hat.2⟩⟩
  have sub : Sub F (upd H c (.lst ((C.set m z).map V.int))) := fun a u h => by rw [upd_ne (ne_of_none h hat.2)]; exact b.rel.sub a u h
  have keep : ∀ a u, H0 a = some u → W.ca ≠ some a → (upd H c (.lst ((C.set m z).map V.int))) a = some u := fun a u h n => by
    have : a ≠ c := by intro z; subst z; exact n hc
    rw [upd_ne this]; exact b.rel.keep a u h n
  refine ⟨⟨sub, cell, keep, b.rel.box, b.rel.len, b.rel.val, fun j d hj => ?_⟩, ⟨keep, b.st.ext, sub, b.st.new, cell, b.st.box⟩⟩
  obtain ⟨a, u, g1, g2, g3, g4, g5, g6, g7⟩ := b.rel.own j d hj
  have : a ≠ c := by intro z; subst z; exact g6 hc
  exact ⟨a, u, g1, by rw [upd_ne this]; exact g2, g3, g4, g5, g6, g7⟩
theorem st_setI {i : Nat} {m k : E} {o e ke : Expr} {pos pos' : Pos} (hu : X.A.units + 1 < cLine) (ho : PE X o (tVar i)) (he : PE X e (tS W cl m)) (hk : PE X ke (tR W cl k)) (hs : swapsWithSole [.Subscript o ke pos'] e pos.line X.env = pure false) (hw : swappedStores [.Subscript o ke pos'] e X.env = pure none)
    (ha : ∀ v, assign (.Subscript o ke pos') X.env v = (do
      let ov ← holding [v] (eval o X.env)
      let iv ← holding [v, ov] (eval ke X.env)
      standAt pos'
      holding [v, ov, iv] (setItem ov iv v)
      release [v, ov, iv] [])) : PS X (.Assign [.Subscript o ke pos'] e pos) (tSt W cl fr (.setI i k m)) :=
  (ps_asg he (pg_sub ho hk (set_A hu) ha) hs hw (by rw [aE_cons rfl]; rfl)).imp fun D σ H ⟨F0, H0, F, σd, C, o, C', b, q, kk⟩ => by
    simp only [evS] at q
    obtain ⟨x, C1, e1, q⟩ := R.bind_ok q
    refine ⟨H0, F, σd, C, x, C1, b.rel, e1, fun F1 H1 v t1 rv => ?_⟩
    have b1 := b.stp t1
    cases es : σd[i]? with
    | none => rw [es] at q; cases q
    | some sl =>
      rw [es] at q
      cases sl with
      | emp => cases q
      | ol xs =>
        dsimp only at q
        obtain ⟨y, C2, e2, q⟩ := R.bind_ok q
        cases y <;> try (cases q; done)
        rename_i j
        dsimp only at q
        cases ej : ixD xs.length j with
        | none => rw [ej] at q; cases q
        | some n =>
          rw [ej] at q
          cases q
          have hsl : slotB σd[i]? = some (.lst xs) := by rw [es]; rfl
          obtain ⟨a, u, g1, g2, g3, g4, g5, g6, g7⟩ := b1.rel.own i _ hsl
          refine ⟨_, g1, H0, F1, σd, C1, _, C', b1.rel, e2, fun F2 H2 w t2 rw' => ?_⟩
          have hw := rw'.int_inv
          subst hw
          cases g3 with
          | @lst _ vs g3 =>
            have k2 := t2.keepL g2 g4 g6
            refine .inl ⟨a, vs, j, n, rfl, rfl, k2.1, by rw [← g3.len]; exact ej, ?_⟩
            have b2 := b1.stp t2
            exact kk F2 _ _ (b2.mut hsl rfl g1 k2.2 g5 g6 g7 (.lst ((g3.ext t2.ext).set (rv.ext t2.ext) n))) (t1.ext.trans t2.ext)
      | od t ks vs =>
        dsimp only at q
        obtain ⟨y, C2, e2, q⟩ := R.bind_ok q
        split at q
        · rename_i hky
          rw [Bool.and_eq_true, decide_eq_true_eq] at hky
          cases q
          have hsl : slotB σd[i]? = some (.dct t ks vs) := by rw [es]; rfl
          obtain ⟨a, u, g1, g2, g3, g4, g5, g6, g7⟩ := b1.rel.own i _ hsl
          refine ⟨_, g1, H0, F1, σd, C1, _, C', b1.rel, e2, fun F2 H2 w t2 rw' => ?_⟩
          have b2 := b1.stp t2
          have k2 := t2.keepR g2 g4 g6 g3
          cases g3 with
          | @dK _ _ kvs x1 x2 x3 =>
            obtain ⟨key, rfl, rfl⟩ := key_inv hky.1 rw'
            have hl : kvs.length < sizeLine := by
              have := hky.2
              rw [x1, List.length_map] at this
              exact this
            refine .inr ⟨a, _, rfl, DPut.k k2.1 hl, fun n1 _ => ?_⟩
            refine kk F2 _ _ (b2.mut hsl (d' := .dct 0 (putKs ks (keyD key)) (putVs ks vs (keyD key) x)) rfl g1 k2.2 g5 g6 g7 (.dK ?_ (fun p hp s hs => ?_) ?_)) (t1.ext.trans t2.ext)
            · rw [x1]; exact putKs_val (g := keyD) keyD_eqD key v kvs
            · unfold L2.putK at hp
              split at hp
              · obtain ⟨p', hp', e'⟩ := List.mem_map.mp hp
                subst e'
                split at hs
                · exact x2 p' hp' s (by simpa using hs)
                · exact x2 p' hp' s hs
              · rcases List.mem_append.mp hp with hp | hp
                · exact x2 p hp s hs
                · rw [List.mem_singleton] at hp
                  subst hp
                  have hs' : key = .inr s := hs
                  subst hs'
                  have hz : RepR W F2 H2 (.str s.cps.toList) (kV (.inr s)) := rw'
                  exact hz.str_inv.2
            · rw [x1]
              exact putVs_val (g := keyD) keyD_eqD key (rv.ext t2.ext) kvs (n1 kvs k2.1) (x3.ext t2.ext)
          | @dT _ _ kvs x1 x2 x3 =>
            obtain ⟨key, p, rfl, rfl, hp, hkey⟩ := tup_key t2.sub hky.1 rw'
            have hl : kvs.length < sizeLine := by
              have := hky.2
              rw [x1, List.length_map] at this
              exact this
            refine .inr ⟨a, _, rfl, DPut.t k2.1 hp hl, fun _ n1 => ?_⟩
            refine kk F2 _ _ (b2.mut hsl (d' := .dct 1 (putKs ks (.tup (key.map keyD))) (putVs ks vs (.tup (key.map keyD)) x)) rfl g1 k2.2 g5 g6 g7 (.dT ?_ (fun p hp z hz s hs => ?_) ?_)) (t1.ext.trans t2.ext)
            · rw [x1]; exact putKs_val (g := fun k : List Key => (.tup (k.map keyD) : Mi.D)) tupD_eqD key v kvs
            · unfold L2.putK at hp
              split at hp
              · obtain ⟨p', hp', e'⟩ := List.mem_map.mp hp
                subst e'
                split at hz
                · exact x2 p' hp' z (by simpa using hz) s hs
                · exact x2 p' hp' z hz s hs
              · rcases List.mem_append.mp hp with hp | hp
                · exact x2 p hp z hz s hs
                · rw [List.mem_singleton] at hp
                  subst hp
                  exact hkey z hz s hs
            · rw [x1]
              exact putVs_val (g := fun k : List Key => (.tup (k.map keyD) : Mi.D)) tupD_eqD key (rv.ext t2.ext) kvs (n1 kvs k2.1) (x3.ext t2.ext)
        · cases q
      | val d =>
        cases d <;> try (cases q; done)
        dsimp only at q
        obtain ⟨y, C2, e2, q⟩ := R.bind_ok q
        cases y <;> try (cases q; done)
        rename_i j
        cases x <;> try (cases q; done)
        rename_i z _
        dsimp only at q
        cases ej : ixD C2.length j with
        | none => rw [ej] at q; cases q
        | some n =>
          rw [ej] at q
          cases q
          obtain ⟨w0, g1, g2⟩ := b1.rel.val i _ es
          obtain ⟨c, rfl, hc⟩ := g2.cell_inv
          refine ⟨_, g1, H0, F1, σd, C1, _, C2, b1.rel, e2, fun F2 H2 w t2 rw' => ?_⟩
          have hw := rw'.int_inv
          subst hw
          have hv := rv.int_inv
          subst hv
          have b2 := b1.stp t2
          refine .inl ⟨c, _, j, n, rfl, rfl, (t2.cell.at_ c hc).1, by rw [List.length_map]; exact ej, ?_⟩
          have := b2.cellSet (m := n) (z := z) hc
          rw [List.map_set] at this
          exact kk F2 _ _ this (t1.ext.trans t2.ext)
theorem st_aug {i : Nat} {op : BOp} {m : E} {st : Stmt} {f : Int → Int → Int} (hop : ∀ a b z, binD op (.int a) (.int b) = some z → z = .int (f a b)) (h : PS X st (tAug i (tR W cl m) (ipI f))) : PS X st (tSt W cl fr (.aug i op m)) := h.imp fun D σ H ⟨F0, H0, F, σd, C, o, C', b, q, k⟩ => by
  simp only [evS] at q
  cases es : σd[i]? with
  | none => rw [es] at q; cases q
  | some sl =>
    rw [es] at q
    cases sl <;> try (cases q; done)
    rename_i y
    dsimp only at q
    obtain ⟨x, C1, e1, q⟩ := R.bind_ok q
    obtain ⟨w, g1, g2⟩ := b.rel.val i y es
    refine ⟨w, g1, H0, F, σd, C, x, C1, b.rel, e1, fun F1 H1 v t1 rv => ?_⟩
    cases y <;> try (cases q; done)
    rename_i y _
    cases x <;> try (cases q; done)
    rename_i x
    dsimp only at q
    cases ez : binD op (.int y) (.int x) with
    | none => rw [ez] at q; cases q
    | some z =>
      rw [ez] at q
      cases q
      have := hop _ _ _ ez
      subst this
      refine ⟨y, x, g2.int_inv, rv.int_inv, ?_⟩
      have hi : i < σd.length := by
        by_cases hi : i < σd.length
        · exact hi
        · rw [List.getElem?_eq_none (by omega)] at es; cases es
      exact k F1 _ H1 ((b.stp t1).setV hi (.int _)) t1.ext
/-! ### append, extend, pop -/
theorem st_app {i : Nat} {m : E} {st : Stmt} (h : PS X st (tDrop (tBM X.K "list" rAppend (tVar i) (tSs W cl (.cons m .nil))))) : PS X st (tSt W cl fr (.app i m)) := h.imp fun D σ H ⟨F0, H0, F, σd, C, o, C', b, q, k⟩ => by
  simp only [evS] at q
  cases es : σd[i]? with
  | none => rw [es] at q; cases q
  | some sl =>
    rw [es] at q
    cases sl <;> try (cases q; done)
    rename_i xs
    dsimp only at q
    obtain ⟨x, C1, e1, q⟩ := R.bind_ok q
    split at q
    · rename_i hlen
      cases q
      have hsl : slotB σd[i]? = some (.lst xs) := by rw [es]; rfl
      obtain ⟨a, u, g1, g2, g3, g4, g5, g6, g7⟩ := b.rel.own i _ hsl
      cases g3 with
      | @lst _ vs g3 =>
        refine ⟨_, g1, .inl ⟨rfl, _, SqL.of g2⟩, H0, F, σd, C, [x], C', b.rel, by simp only [evs]; rw [e1], fun F1 H1 ws t1 r => ?_⟩
        obtain ⟨w, rfl, rw'⟩ : ∃ w, ws = [w] ∧ Rep W F1 x w := by
          cases r with
          | cons q r => cases r; exact ⟨_, rfl, q⟩
        have k2 := t1.keepL g2 g4 g6
        refine ⟨a, vs, w, rfl, rfl, k2.1, by rw [← g3.len]; exact hlen, ?_⟩
        exact k F1 _ _ ((b.stp t1).mut hsl rfl g1 k2.2 g5 g6 g7 (.lst ((g3.ext t1.ext).app (.one rw')))) t1.ext
    · cases q
theorem st_ext {i : Nat} {m : E} {st : Stmt} (h : PS X st (tDrop (tBM X.K "list" rExtend (tVar i) (tRs W cl (.cons m .nil))))) : PS X st (tSt W cl fr (.ext i m)) := h.imp fun D σ H ⟨F0, H0, F, σd, C, o, C', b, q, k⟩ => by
  simp only [evS] at q
  cases es : σd[i]? with
  | none => rw [es] at q; cases q
  | some sl =>
    rw [es] at q
    cases sl <;> try (cases q; done)
    rename_i xs
    dsimp only at q
    obtain ⟨x, C1, e1, q⟩ := R.bind_ok q
    cases x <;> try (cases q; done)
    rename_i ys
    dsimp only at q
    split at q
    · rename_i hlen
      cases q
      have hsl : slotB σd[i]? = some (.lst xs) := by rw [es]; rfl
      obtain ⟨a, u, g1, g2, g3, g4, g5, g6, g7⟩ := b.rel.own i _ hsl
      cases g3 with
      | @lst _ vs g3 =>
        refine ⟨_, g1, .inl ⟨rfl, _, SqL.of g2⟩, H0, F, σd, C, [.lst ys], C', b.rel, by simp only [evs]; rw [e1], fun F1 H1 ws t1 r => ?_⟩
        obtain ⟨w, rfl, rw'⟩ : ∃ w, ws = [w] ∧ RepR W F1 H1 (.lst ys) w := by
          cases r with
          | cons q r => cases r; exact ⟨_, rfl, q⟩
        obtain ⟨p, us, rfl, h1, h2⟩ := rw'.lst_inv t1.sub
        have k2 := t1.keepL g2 g4 g6
        refine ⟨a, p, vs, us, rfl, rfl, k2.1, h1, by rw [← g3.len, ← h2.len]; exact hlen, ?_⟩
        exact k F1 _ _ ((b.stp t1).mut hsl rfl g1 k2.2 g5 g6 g7 (.lst ((g3.ext t1.ext).app h2))) t1.ext
    · cases q
theorem st_popTo {i : Nat} {t : Tg} {st : Stmt} (h : PS X st (tAsg (tBM0 X.K "list" rPop (tVar i)) (tT W t))) : PS X st (tSt W cl fr (.popTo t i)) := h.imp fun D σ H ⟨F0, H0, F, σd, C, o, C', b, q, k⟩ => by
  simp only [evS] at q
  cases es : σd[i]? with
  | none => rw [es] at q; cases q
  | some sl =>
    rw [es] at q
    cases sl <;> try (cases q; done)
    rename_i xs
    dsimp only at q
    cases ex : xs.getLast? with
    | none => rw [ex] at q; cases q
    | some x =>
      rw [ex] at q
      dsimp only at q
      cases eb : bindT t x (σd.set i (.ol xs.dropLast)) with
      | none => rw [eb] at q; cases q
      | some σ1 =>
        rw [eb] at q
        cases q
        have hsl : slotB σd[i]? = some (.lst xs) := by rw [es]; rfl
        obtain ⟨a, u, g1, g2, g3, g4, g5, g6, g7⟩ := b.rel.own i _ hsl
        cases g3 with
        | @lst _ vs g3 =>
          rw [List.getLast?_eq_getElem?] at ex
          obtain ⟨v, h1, h2⟩ := g3.get ex
          refine ⟨_, g1, .inl ⟨rfl, _, SqL.of g2⟩, a, vs, v, rfl, rfl, g2, by rw [← g3.len]; exact h1, ?_⟩
          have bm := b.mut (sl := .ol xs.dropLast) hsl rfl g1 g4 g5 g6 g7 (.lst g3.dropLast)
          exact ⟨H0, F, _, _, x, σ1, bm.rel, h2, eb, fun σ' hR _ _ => k F σ' _ ⟨hR F _ _ (Ext.refl F) bm.rel, bm.st⟩ (Ext.refl F)⟩

/-! ### several at once: the forms -/
theorem set2 {σ : L2.St} {i j : Nat} {v w : V} : setMany σ [i, j] [v, w] = (σ.set i (some v)).set j (some w) := rfl
theorem st_par2 {i j : Nat} {o1 o2 : Bool} {ms : Es} {st : Stmt} (h : PS X st (tPar i j (tMs W cl [o1, o2] ms))) : PS X st (tSt W cl fr (.par [(i, o1), (j, o2)] ms)) := st_par rfl (h.imp fun D σ H ⟨H0, F, σd, C, ds, C', rl, q, k⟩ => ⟨H0, F, σd, C, ds, C', rl, q, fun F' H' vs t r => by
  have hh := k F' H' vs t r
  match vs, r with
  | [v, w], _ => exact ⟨v, w, rfl, hh rfl⟩
  | [], r => cases r
  | [_], r => cases r <;> (rename_i r; cases r)
  | _ :: _ :: _ :: _, r => cases r <;> (rename_i r; cases r <;> (rename_i r; cases r))⟩)
theorem st_par3 {i j l : Nat} {o1 o2 o3 : Bool} {ms : Es} {st : Stmt} (h : PS X st (tPar3 i j l (tMs W cl [o1, o2, o3] ms))) : PS X st (tSt W cl fr (.par [(i, o1), (j, o2), (l, o3)] ms)) := st_par rfl (h.imp fun D σ H ⟨H0, F, σd, C, ds, C', rl, q, k⟩ => ⟨H0, F, σd, C, ds, C', rl, q, fun F' H' vs t r => by
  have hh := k F' H' vs t r
  match vs, r with
  | [u, v, w], _ => exact ⟨u, v, w, rfl, hh rfl⟩
  | [], r => cases r
  | [_], r => cases r <;> (rename_i r; cases r)
  | [_, _], r => cases r <;> (rename_i r; cases r <;> (rename_i r; cases r))
  | _ :: _ :: _ :: _ :: _, r => cases r <;> (rename_i r; cases r <;> (rename_i r; cases r <;> (rename_i r; cases r)))⟩)
end
end Mi

set_option Elab.async false
set_option linter.all false
set_option maxRecDepth 100000
set_option maxHeartbeats 4000000
namespace Mi
open PySem PySem.Spec PyProof.Rows L2

section
variable {W : Wd} {X : Cx} {cl : Call} {fr : Bool}
theorem RepsM.len {F H H0 : Hp} : ∀ {fl : List Bool} {ds : List D} {vs : List V}, RepsM W F H H0 fl ds vs → vs.length = fl.length := by
  intro fl ds vs h
  induction h with
  | nil => rfl
  | val _ _ ih => rw [List.length_cons, List.length_cons, ih]
  | own _ _ ih => rw [List.length_cons, List.length_cons, ih]
theorem RepsM.grow {F H H' H0 : Hp} (hx : ∀ a o, H a = some o → H' a = some o) : ∀ {fl : List Bool} {ds : List D} {vs : List V}, RepsM W F H H0 fl ds vs → RepsM W F H' H0 fl ds vs := by
  intro fl ds vs h
  induction h with
  | nil => exact .nil
  | val r _ ih => exact .val r ih
  | own r _ ih =>
    obtain ⟨p, u, e, h1, h2, h3⟩ := r
    exact .own ⟨p, u, e, h1, hx _ _ h2, h3⟩ ih
def gNames : List Nat → TGs
  | [] => gNil
  | i :: is => gCons (gName i) (gNames is)
theorem gNames_set {H : Hp} {Q : L2.St → Hp → Prop} : ∀ {is : List Nat} {vs : List V} {σ : L2.St}, vs.length = is.length → Q (setMany σ is vs) H → gNames is vs σ H Q
  | [], [], _, _, h => ⟨rfl, h⟩
  | i :: is, v :: vs, σ, hl, h => ⟨v, vs, rfl, gNames_set (is := is) (by simpa using hl) h⟩
theorem st_parT {is : List (Nat × Bool)} {ms : Es} {st : Stmt} {fl : List Bool} (hK : X.K = W.K) (hfl : fl = is.map (·.2)) (hl : is.length ≤ 1000) (h : PS X st (tAsg (tTup (tMs W cl fl ms)) (gTup X.K is.length (gNames (is.map (·.1)))))) : PS X st (tSt W cl fr (.par is ms)) :=
  st_par hfl (h.imp fun D σ H ⟨H0, F, σd, C, ds, C', rl, q, k⟩ => ⟨H0, F, σd, C, ds, C', rl, q, fun F' H' vs t r => by
    have hv : vs.length = is.length := by rw [r.len, hfl, List.length_map]
    refine ⟨?_, fun p hp => ⟨p, vs, rfl, SqT.of upd_same, hv, gNames_set (by rw [List.length_map]; exact hv) ?_⟩⟩
    · have h2 : is.length ≤ 16777216 := by omega
      rw [hv]; exact h2
    · have t2 := Stp.tmp (o := .tup vs) t.sub t.cell hp
      exact k F' _ vs (t.trans t2) (r.grow fun a o ha => by rw [upd_ne (ne_of_none ha hp)]; exact ha) hv⟩)

end
end Mi

set_option Elab.async false
set_option linter.all false
set_option maxRecDepth 100000
set_option maxHeartbeats 4000000
namespace Mi
open PySem PySem.Spec PyProof.Rows L2
/-! ## try with several clauses, each with a name -/
def wManyN (K : PySem.W.Frag) (Wout : WX) (D : Ends) : List (Value × Nat × (Addr → Value → Option Addr → TS)) → WX
  | [] => Wout
  | (c, i, ts) :: r => fun cls d σ H => ∃ b, PySem.W.exmOne K cls c = some b ∧ (b = true → ∀ a, H a = none → ts a cls d { nx := fun σ' H' => D.nx (σ'.set i none) H', rt := D.rt, bk := fun σ' H' => D.bk (σ'.set i none) H', ct := fun σ' H' => D.ct (σ'.set i none) H' } (σ.set i (some (.ref a))) H) ∧ (b = false → wManyN K Wout D r cls d σ H)
inductive HdsN (X : Cx) : List ExceptHandler → List (Value × Nat × (Addr → Value → Option Addr → TS)) → Prop
  | nil : HdsN X [] []
  | cons {x n : Str} {i : Nat} {c : Value} {ts : Addr → Value → Option Addr → TS} {b₀ : Stmt} {suite : List Stmt} {np pos' : Pos} {hds : List ExceptHandler} {l : List (Value × Nat × (Addr → Value → Option Addr → TS))} (hc : Names X x c)
      (hi : X.N[i]? = some n) (hln : X.env.kindOf n = some .local)
      (hsu : ∀ (a : Addr) (oe : Obj) (cls : Value) (d : Option Addr) (pn : List (Addr × Obj)), Zc cls d oe → (∃ vs, oe.data = .fields vs) → PSs (X.suite a ((a, oe) :: pn)) (b₀ :: suite) (ts a cls d)) (r : HdsN X hds l) :
      HdsN X (.ExceptHandler (some (.Name x np)) (some n) (b₀ :: suite) pos' :: hds) ((c, i, ts) :: l)
/-! ### an error that was caught stands over the frame while its clauses are asked -/
structure Hung (X : Cx) (pins : List (Addr × Obj)) (σ : L2.St) (H : Hp) (B : Heap) (was : Shared) (e : Addr) (cls : Value) (d : Option Addr) (now : Shared) : Prop where
  inv : Inv X pins σ H was
  gnd : ∀ p o, was.heap.get? p = some o → p ∉ frs X.stack → B.get? p = some o
  up : was.heap.UpToSlots now.heap
  os : now.os = was.os
  gens : AllBare now.gens
  new : H e = none
  fly : HandSPX.FlyingZ B X.stack e (Zc cls d) now.heap
section
variable {X : Cx} {pins : List (Addr × Obj)} {σ : L2.St} {H : Hp} {B : Heap} {was now : Shared} {e : Addr} {cls : Value} {d : Option Addr}
theorem Hung.here (h : Hung X pins σ H B was e cls d now) : Inv X pins σ H now := Inv.landed h.inv h.gnd h.fly.1 h.up h.os h.gens
/-- the same over another heap -/
theorem Hung.move (h : Hung X pins σ H B was e cls d now) {g : Heap} (fl : HandSPX.FlyingZ B X.stack e (Zc cls d) g) (u : now.heap.UpToSlots g) : Hung X pins σ H B was e cls d { now with heap := g } :=
  { inv := h.inv, gnd := h.gnd, up := Heap.UpToSlots.trans h.up u, os := h.os, gens := h.gens, new := h.new, fly := fl }
theorem Hung.rec_ (h : Hung X pins σ H B was e cls d now) : ∃ o v, now.heap.get? e = some o ∧ Zc cls d o ∧ o.data = .fields v := h.fly.there
theorem Hung.apart (h : Hung X pins σ H B was e cls d now) : e ∉ frs X.stack := by
  obtain ⟨o, v, h1, _, h2⟩ := h.rec_
  intro m
  obtain ⟨_, o2, h3, h4⟩ := Heap.FunFrames.mem h.fly.2.2.1 m
  cases h1.symm.trans h3
  exact h4 v h2
theorem Hung.inSuite (h : Hung X pins σ H B was e cls d now) (hst : X.stack = X.env :: X.outer) (hfr : X.env.frame = some X.env.locals) : ∃ o, Zc cls d o ∧ (∃ v, o.data = .fields v) ∧ Inv (X.suite e ((e, o) :: (X.pn ++ pins))) [] σ H now := by
  obtain ⟨o, v, h1, hz, h2⟩ := h.rec_
  have ap := h.apart
  rw [hst] at ap
  refine ⟨o, hz, ⟨v, h2⟩, Inv.suite h.here h1 h2 h.new (fun q => ap ?_) (fun m => ap ?_)⟩
  · refine List.mem_filterMap.mpr ⟨X.env, .head _, ?_⟩
    rw [q]
    exact hfr
  · obtain ⟨x, mx, qx⟩ := List.mem_filterMap.mp m
    exact List.mem_filterMap.mpr ⟨x, .tail _ mx, qx⟩
/-- no clause is left: the error goes on -/
theorem Hung.goOn (h : Hung X pins σ H B was e cls d now) (hst : X.stack = X.env :: X.outer) (hfr : X.env.frame = some X.env.locals) {Wout : WX} (tk : Takes X Wout) (w : Wout cls d σ H) {D : Ends} : wpAny (model X.prog X.w) X.A (handleBy (.ref e) X.env []) (SP X pins D) X.xe now := by
  obtain ⟨_, _, _, o, v, t, ot, tv, g1, gz, g2, g3, gr⟩ := id h.fly
  have fin : wpAny (model X.prog X.w) X.A (setFlight (.ref e) X.env.frame) (fun _ z => wpAny (model X.prog X.w) X.A (throw (.ref e) : Sem Flow) (SP X pins D) X.xe z) X.xe now := by
    rw [hfr]
    refine HandSPX.setFlight_upZ h.fly fun g held u => wpAny_throw (tk _ _ ⟨e, B, was, pins, σ, H, cls, d, rfl, h.inv, h.gnd, Heap.UpToSlots.trans h.up u, .inr (.inr ?_), h.new, h.os, h.gens, w⟩)
    exact held
  refine wpAny_handleBy_nil ?_
  unfold PySem.passOn
  refine wpAny_bind (wpAny_field g1 g2 g3 ?_)
  rw [if_neg (by simp : ¬ ((Value.ref t == Value.none) = true))]
  first
    | exact wpAny_bind fin
    | exact wpAny_bind (wpAny_pure (wpAny_bind fin))
/-- a clause's class is asked -/
theorem Hung.asked (h : Hung X pins σ H B was e cls d now) (hst : X.stack = X.env :: X.outer) (hfr : X.env.frame = some X.env.locals) {x : Str} {c : Value} {np : Pos} (hc : Names X x c) {Q E : Value → Shared → Prop} (q : Q c now) : wpAny (model X.prog X.w) (X.A.mark (some (.ref e))) (eval (.Name x np) X.env) Q E now := by
  obtain ⟨o, _, _, S⟩ := h.inSuite hst hfr
  rcases hc with ⟨h1, h2, h3 | ⟨h3, h4, h5⟩⟩
  · exact ld_glob (X := X.suite e ((e, o) :: (X.pn ++ pins))) S h1 h3 q h2
  · exact ld_blt (X := X.suite e ((e, o) :: (X.pn ++ pins))) S h1 h3 h4 q h5 h2
/-- behind a clause's suite its name is gone -/
theorem suite_end {D : Ends} {o : Obj} {i : Nat} {n : Str} {pos : Pos} (ok : X.Ok) (hN : X.N.Nodup) (hi : X.N[i]? = some n) (hln : X.env.kindOf n = some .local) {f : Flow} {z : Shared}
    (sp : SP (X.suite e ((e, o) :: (X.pn ++ pins))) [] { nx := fun σ' H' => D.nx (σ'.set i none) H', rt := D.rt, bk := fun σ' H' => D.bk (σ'.set i none) H', ct := fun σ' H' => D.ct (σ'.set i none) H' } f z) :
    wpAny (model X.prog X.w) X.A (do bindName X.env n .none; unbindBehindTheSuite X.env n pos) (fun _ y => SP X pins D f y) X.xe z := by
  cases f with
  | ret u =>
    obtain ⟨v, σ1, H1, I1, r1, q1⟩ := sp
    exact gone_ok (Inv.unsuite I1 ok) hN hi hln fun y J => ⟨v, _, _, J, r1, q1⟩
  | next =>
    obtain ⟨σ1, H1, I1, q1⟩ := sp
    exact gone_ok (Inv.unsuite I1 ok) hN hi hln fun y J => ⟨_, _, J, q1⟩
  | brk =>
    obtain ⟨σ1, H1, I1, q1⟩ := sp
    exact gone_ok (Inv.unsuite I1 ok) hN hi hln fun y J => ⟨_, _, J, q1⟩
  | cont =>
    obtain ⟨σ1, H1, I1, q1⟩ := sp
    exact gone_ok (Inv.unsuite I1 ok) hN hi hln fun y J => ⟨_, _, J, q1⟩
/-- all clauses, one behind the other -/
theorem Hung.clauses (h : Hung X pins σ H B was e cls d now) (hst : X.stack = X.env :: X.outer) (hfr : X.env.frame = some X.env.locals) (hN : X.N.Nodup) {Wout : WX} (tk : Takes X Wout) {D : Ends} : ∀ {hs : List ExceptHandler} {l : List (Value × Nat × (Addr → Value → Option Addr → TS))}, HdsN X hs l → wManyN X.K Wout D l cls d σ H →
    wpAny (model X.prog X.w) X.A (handleBy (.ref e) X.env hs) (SP X pins D) X.xe now := by
  intro hs l k
  induction k with
  | nil => exact fun w => h.goOn hst hfr tk w
  | cons hc hi hln hsu _ ih =>
    rintro ⟨b, m, yes, no⟩
    refine wpAny_handleBy_cons (codeAny_handlers_test (h.asked hst hfr hc ?_)) (fun q => nomatch q)
    obtain ⟨o0, v0, g0, z0, _⟩ := h.rec_
    refine (PySem.W.exm_one (M := model X.prog X.w) h.here.kIn (fun A Q E s k q => wpAny_typeOf_ref (k _ _ g0) (by rw [z0.1]; exact q)) m).here ?_
    cases b with
    | false => exact ih (no rfl)
    | true =>
      refine codeAny_handlers_suite_as ?_
      refine HandSPX.lands_againZ (hst ▸ h.fly) fun g fl u => ?_
      have h2 := h.move (g := g) (by rw [hst]; exact fl) u
      obtain ⟨o, hz, hv, S⟩ := h2.inSuite hst hfr
      refine store_ok (X := X.suite e ((e, o) :: (X.pn ++ pins))) (v := .ref e) S hN hi (.inl hln) rfl (fun y Y => ?_) (.inr hln)
      exact wpAny_mono ((hsu e o cls d (X.pn ++ pins) hz hv).run [] y _ H _ Y (yes rfl e h.new)) (fun f z sp => suite_end h.inv.ok hN hi hln sp) (fun _ _ z => z.elim)
end
section
variable {X : Cx} {body : List Stmt} {h₀ : ExceptHandler} {hds : List ExceptHandler} {l : List (Value × Nat × (Addr → Value → Option Addr → TS))} {pos : Pos} {tb : WX → TS} {Wout : WX}
/-- what a clean end of the body leaves -/
theorem try_out {pins : List (Addr × Obj)} {D : Ends} {xe : Value → Shared → Prop} {f : Flow} {z : Shared} (ok : X.Ok) (sp : SP (X.tr (X.pn ++ pins) xe) [] D f z) : SP X pins D f z := by
  cases f with
  | ret u =>
    obtain ⟨v, σ1, H1, I1, r1, q1⟩ := sp
    exact ⟨v, σ1, H1, Inv.ofTry I1 ok, r1, q1⟩
  | next =>
    obtain ⟨σ1, H1, I1, q1⟩ := sp
    exact ⟨σ1, H1, Inv.ofTry I1 ok, q1⟩
  | brk =>
    obtain ⟨σ1, H1, I1, q1⟩ := sp
    exact ⟨σ1, H1, Inv.ofTry I1 ok, q1⟩
  | cont =>
    obtain ⟨σ1, H1, I1, q1⟩ := sp
    exact ⟨σ1, H1, Inv.ofTry I1 ok, q1⟩
theorem ps_try_manyN (hs : X.stack = X.env :: X.outer) (hf : X.env.frame = some X.env.locals) (hN : X.N.Nodup) (tk : Takes X Wout)
    (hb : ∀ (W : WX) (pn : List (Addr × Obj)) (xe : Value → Shared → Prop), Takes (X.tr pn xe) W → PassesOwn (model X.prog X.w) X.A X.env xe → PSs (X.tr pn xe) body (tb W))
    (hh : HdsN X (h₀ :: hds) l) : PS X (.Try body (h₀ :: hds) [] [] pos) (fun D σ H => tb (wManyN X.K Wout D l) D σ H) := ⟨fun pins s σ H D I h => by
  have ok := I.ok
  have fr : X.A.frames = some (X.env :: X.outer) := ok.frames.trans (by rw [hs])
  refine wpAny_Try_except (wpAny_mono ((hb (wManyN X.K Wout D l) (X.pn ++ pins) _ ?taken PassesOwn.looking).run [] s σ H D (Inv.toTry I _) h) (fun f z sp => ?out) (fun _ _ z => z))
  case out =>
    have sp := try_out ok sp
    cases f with
    | next => exact wpAny_execs_nil sp
    | ret u => exact sp
    | brk => exact sp
    | cont => exact sp
  case taken =>
    rintro u z ⟨e, B, was, pins', σ', H', cls, d, rfl, J, nb, up, sky, new, os, gens, w⟩
    have J : Inv X pins σ' H' was := Inv.ofTry J ok
    have sky : Sky B (X.env :: X.outer) e (Zc cls d) X.env.locals z.heap := hs ▸ sky
    refine Sky.land Zc.steady fr hf sky fun g fl u => ?_
    exact Hung.clauses (was := was) (B := B) (now := { z with heap := g }) ⟨J, nb, Heap.UpToSlots.trans up u, os, gens, new, by rw [hs]; exact fl⟩ hs hf hN tk hh w⟩
end
/-- X() -/
theorem pmk_own0 {X : Cx} {C : Addr} {bmB : List Value} {B newId initId : String} {x : Str} {p pos : Pos} (F : ExcBaseFacts B newId initId bmB) (q : PySem.W.excIn X.K C bmB newId = true) (gC : X.mg x = some (.ref C)) (kC : PySem.W.keepIn X.K (.ref C) = true) (r : Raises X (.ref C)) (hg : Gl X x)
    (hdb : (x == ("__debug__" : Str)) = false) : PMk X (.Call (.Name x p) [] [] pos) (fun _ H Q => Q (.ref C) none H) := by
  intro pins s σ H Q I h
  refine wpAny_Call_Name_kw (ld_glob I hg gC ?_ hdb)
  refine PySem.W.callWith_K0 I.kIn kC ?_
  show wpAny _ _ (call (.ref C) []) _ _ _
  obtain ⟨bm, N, nm, qn, bs, hdct, sn, sub, ab, col, dd, k0, k1, k2, k3, k5, mN, hC, hN, hni, T⟩ := exc_obj I.kIn q
  refine wpAny_call_exc_subT F T hC hN hni (fun h' e hm => ?_) (by show 0 ≤ sizeLine; omega)
  exact mk_of I hm r h (I.hok.gone hm.new)
end Mi

set_option Elab.async false
set_option linter.all false
set_option maxRecDepth 100000
set_option maxHeartbeats 4000000
namespace Mi
open PySem PySem.Spec PyProof.Rows L2
/-! ## Readings of what may raise -/
theorem R.bind_ex {α β : Type} {x : R α} {f : α → List Int → R β} {c : Nat} {a : Option D} {C : List Int} (h : x.bind f = .ex c a C) : x = .ex c a C ∨ ∃ y C1, x = .ok y C1 ∧ f y C1 = .ex c a C := by
  cases x with
  | ok y C1 => exact .inr ⟨y, C1, rfl, h⟩
  | ex c' a' C' => exact .inl (by cases h; rfl)
  | bad => cases h
theorem R.of_ex {α : Type} {o : Option α} {C C' : List Int} {c : Nat} {a : Option D} (h : R.of o C = .ex c a C') : False := by
  cases o <;> cases h
section
variable (W : Wd) (cl : Call) (Wx : WX)
def tXc (m : E) : L2.St → Hp → Prop := fun σ H => ∃ H0 F σd C c a C', Rel W H0 F σd C σ H ∧ ev cl m σd C = .ex c none C' ∧ W.xa c = some a ∧ ∀ F' H', Stp W F H F' C' H' → Wx (.ref a) none σ H'
def tXcs (ms : Es) : L2.St → Hp → Prop := fun σ H => ∃ H0 F σd C c a C', Rel W H0 F σd C σ H ∧ evs cl ms σd C = .ex c none C' ∧ W.xa c = some a ∧ ∀ F' H', Stp W F H F' C' H' → Wx (.ref a) none σ H'
def tSX (m : E) : TE := fun σ H Q => tS W cl m σ H Q ∨ tXc W cl Wx m σ H
def tRX (m : E) : TE := fun σ H Q => tR W cl m σ H Q ∨ tXc W cl Wx m σ H
def tFX (m : E) : TE := fun σ H Q => tF W cl m σ H Q ∨ tXc W cl Wx m σ H
def tSsX (ms : Es) : TA := fun σ H Q => tSs W cl ms σ H Q ∨ tXcs W cl Wx ms σ H
def tRsX (ms : Es) : TA := fun σ H Q => tRs W cl ms σ H Q ∨ tXcs W cl Wx ms σ H
end
section
variable {W : Wd} {X : Cx} {cl : Call} {Wx : WX}
theorem tXc.no {m : E} {σ : L2.St} {H : Hp} (hn : ∀ σd C, NoX (ev cl m σd C)) (h : tXc W cl Wx m σ H) : False := by
  obtain ⟨H0, F, σd, C, c, a, C', rl, q, _⟩ := h
  exact hn σd C c none C' q
theorem tXcs.no {m : Es} {σ : L2.St} {H : Hp} (hn : ∀ σd C, NoX (evs cl m σd C)) (h : tXcs W cl Wx m σ H) : False := by
  obtain ⟨H0, F, σd, C, c, a, C', rl, q, _⟩ := h
  exact hn σd C c none C' q
theorem xs_lift {m : E} {e : Expr} (hn : ∀ σd C, NoX (ev cl m σd C)) (h : PE X e (tS W cl m)) : PE X e (tSX W cl Wx m) := h.imp fun σ H Q q => by
  rcases q with q | q
  · exact q
  · exact (q.no hn).elim
theorem xr_lift {m : E} {e : Expr} (hn : ∀ σd C, NoX (ev cl m σd C)) (h : PE X e (tR W cl m)) : PE X e (tRX W cl Wx m) := h.imp fun σ H Q q => by
  rcases q with q | q
  · exact q
  · exact (q.no hn).elim
theorem xr_of {m : E} {e : Expr} (h : PE X e (tSX W cl Wx m)) : PE X e (tRX W cl Wx m) := h.imp fun σ H Q q => by
  rcases q with ⟨H0, F, σd, C, d, C', rl, q, k⟩ | q
  · exact .inl ⟨H0, F, σd, C, d, C', rl, q, fun F' H' v t r => k F' H' v t (.of r)⟩
  · exact .inr q
theorem xss_nil : PA X [] (tSsX W cl Wx .nil) := as_nil.imp fun σ H Q q => by
  rcases q with q | q
  · exact q
  · exact (q.no fun σd C => by unfold evs; exact NoX.ok).elim
theorem xrs_nil : PA X [] (tRsX W cl Wx .nil) := ar_nil.imp fun σ H Q q => by
  rcases q with q | q
  · exact q
  · exact (q.no fun σd C => by unfold evs; exact NoX.ok).elim
theorem xss_cons {m : E} {ms : Es} {e : Expr} {es : List Expr} (h1 : PE X e (tSX W cl Wx m)) (h2 : PA X es (tSsX W cl Wx ms)) (hs : notStar e = true) : PA X (e :: es) (tSsX W cl Wx (.cons m ms)) :=
  (pa_cons h1 h2 (star_cons hs)).imp fun σ H Q q => by
    rcases q with ⟨H0, F, σd, C, ds, C', rl, q, k⟩ | ⟨H0, F, σd, C, c, a, C', rl, q, xa, k⟩
    · simp only [evs] at q
      obtain ⟨d, C1, e1, q⟩ := R.bind_ok q
      obtain ⟨ds', C2, e2, q⟩ := R.bind_ok q
      cases q
      exact .inl ⟨H0, F, σd, C, d, C1, rl, e1, fun F1 H1 v t1 r1 => .inl ⟨H0, F1, σd, C1, ds', C', rl.stp t1, e2, fun F2 H2 vs t2 r2 => k F2 H2 _ (t1.trans t2) (.cons (r1.ext t2.ext) r2)⟩⟩
    · simp only [evs] at q
      rcases R.bind_ex q with e1 | ⟨d, C1, e1, q⟩
      · exact .inr ⟨H0, F, σd, C, c, a, C', rl, e1, xa, k⟩
      · rcases R.bind_ex q with e2 | ⟨ds', C2, e2, q⟩
        · exact .inl ⟨H0, F, σd, C, d, C1, rl, e1, fun F1 H1 v t1 r1 => .inr ⟨H0, F1, σd, C1, c, a, C', rl.stp t1, e2, xa, fun F2 H2 t2 => k F2 H2 (t1.trans t2)⟩⟩
        · cases q
theorem xrs_cons {m : E} {ms : Es} {e : Expr} {es : List Expr} (h1 : PE X e (tRX W cl Wx m)) (h2 : PA X es (tRsX W cl Wx ms)) (hs : notStar e = true) : PA X (e :: es) (tRsX W cl Wx (.cons m ms)) :=
  (pa_cons h1 h2 (star_cons hs)).imp fun σ H Q q => by
    rcases q with ⟨H0, F, σd, C, ds, C', rl, q, k⟩ | ⟨H0, F, σd, C, c, a, C', rl, q, xa, k⟩
    · simp only [evs] at q
      obtain ⟨d, C1, e1, q⟩ := R.bind_ok q
      obtain ⟨ds', C2, e2, q⟩ := R.bind_ok q
      cases q
      exact .inl ⟨H0, F, σd, C, d, C1, rl, e1, fun F1 H1 v t1 r1 => .inl ⟨H0, F1, σd, C1, ds', C', rl.stp t1, e2, fun F2 H2 vs t2 r2 => k F2 H2 _ (t1.trans t2) (.cons (r1.stp t2) r2)⟩⟩
    · simp only [evs] at q
      rcases R.bind_ex q with e1 | ⟨d, C1, e1, q⟩
      · exact .inr ⟨H0, F, σd, C, c, a, C', rl, e1, xa, k⟩
      · rcases R.bind_ex q with e2 | ⟨ds', C2, e2, q⟩
        · exact .inl ⟨H0, F, σd, C, d, C1, rl, e1, fun F1 H1 v t1 r1 => .inr ⟨H0, F1, σd, C1, c, a, C', rl.stp t1, e2, xa, fun F2 H2 t2 => k F2 H2 (t1.trans t2)⟩⟩
        · cases q
/-- a call that may raise -/
theorem xs_call {f n : Nat} {x : Str} {ms : Es} {e : Expr} {es : List Expr} {p pos : Pos} (tk : Takes X Wx) (hf : FnAt W cl n X false f x) (hr : Room n X.A) (hg : Gl X x) (ha : PA X (e :: es) (tSsX W cl Wx ms)) (hs : (e :: es).all notStar = true) (hdb : (x == ("__debug__" : Str)) = false) :
    PE X (.Call (.Name x p) (e :: es) [] pos) (tSX W cl Wx (.call f ms)) := by
  obtain ⟨a, fd, ps, h1, h2, h3, h4, h5⟩ := hf.ex
  have hs' := hs
  rw [List.all_cons, Bool.and_eq_true] at hs'
  refine (pe_callS (E := WE Wx) h5 hr hg h2 h3 h4 (fun σ => passAt tk σ) ha hdb (star_cons hs'.1) (back_plain hs'.2)).imp fun σ H Q q => ?_
  rcases q with ⟨H0, F, σd, C, d, C', rl, q, k⟩ | ⟨H0, F, σd, C, c, xA, C', rl, q, xa, k⟩
  · simp only [ev] at q
    obtain ⟨ds, C1, e1, q⟩ := R.bind_ok q
    refine .inl ⟨H0, F, σd, C, ds, C1, rl, e1, fun F1 H1 vs t r => ?_⟩
    exact ⟨F1, C1, ds, t.sub, t.cell, r, .inl ⟨d, C', q, fun F' H' v t' p => k F' H' v (t.trans t') (by simpa [PostF] using p)⟩⟩
  · simp only [ev] at q
    rcases R.bind_ex q with e1 | ⟨ds, C1, e1, q⟩
    · exact .inr ⟨H0, F, σd, C, c, xA, C', rl, e1, xa, k⟩
    · refine .inl ⟨H0, F, σd, C, ds, C1, rl, e1, fun F1 H1 vs t r => ?_⟩
      exact ⟨F1, C1, ds, t.sub, t.cell, r, .inr ⟨c, xA, C', q, xa, fun F' H' t' => k F' H' (t.trans t')⟩⟩
theorem xf_call {f n : Nat} {x : Str} {ms : Es} {e : Expr} {es : List Expr} {p pos : Pos} (tk : Takes X Wx) (hf : FnAt W cl n X true f x) (hr : Room n X.A) (hg : Gl X x) (ha : PA X (e :: es) (tSsX W cl Wx ms)) (hs : (e :: es).all notStar = true) (hdb : (x == ("__debug__" : Str)) = false) :
    PE X (.Call (.Name x p) (e :: es) [] pos) (tFX W cl Wx (.call f ms)) := by
  obtain ⟨a, fd, ps, h1, h2, h3, h4, h5⟩ := hf.ex
  have hs' := hs
  rw [List.all_cons, Bool.and_eq_true] at hs'
  refine (pe_callS (E := WE Wx) h5 hr hg h2 h3 h4 (fun σ => passAt tk σ) ha hdb (star_cons hs'.1) (back_plain hs'.2)).imp fun σ H Q q => ?_
  rcases q with ⟨H0, F, σd, C, d, C', rl, q, k⟩ | ⟨H0, F, σd, C, c, xA, C', rl, q, xa, k⟩
  · simp only [ev] at q
    obtain ⟨ds, C1, e1, q⟩ := R.bind_ok q
    refine .inl ⟨H0, F, σd, C, ds, C1, rl, e1, fun F1 H1 vs t r => ?_⟩
    exact ⟨F1, C1, ds, t.sub, t.cell, r, .inl ⟨d, C', q, fun F' H' v t' p => k F' H' v (t.trans t') (FrR.back t (show FrR W H1 F' H' d v by simpa [PostF] using p))⟩⟩
  · simp only [ev] at q
    rcases R.bind_ex q with e1 | ⟨ds, C1, e1, q⟩
    · exact .inr ⟨H0, F, σd, C, c, xA, C', rl, e1, xa, k⟩
    · refine .inl ⟨H0, F, σd, C, ds, C1, rl, e1, fun F1 H1 vs t r => ?_⟩
      exact ⟨F1, C1, ds, t.sub, t.cell, r, .inr ⟨c, xA, C', q, xa, fun F' H' t' => k F' H' (t.trans t')⟩⟩
theorem fn_of {x : D} {g : Nat → R D} {r : R D} (hr : r ≠ .bad) (h : (match x with
    | .fn f => g f
    | _ => .bad) = r) : ∃ f, x = .fn f ∧ g f = r := by
  cases x with
  | fn f => exact ⟨f, rfl, h⟩
  | _ => exact absurd h.symm hr
/-- a local name holds the def -/
theorem pe_callLS {CX : CXT} {k i : Nat} {f : Addr} {fd : FuncData} {ps : List Str} {sp : Sp} {E : L2.St → XK} {x : Str} {p pos : Pos} {e : Expr} {es : List Expr} {t : TA} (F : FnOk X.prog X.w X.K X.mg X.base CX k f fd ps sp) (hr : Room k X.A) (hN : X.N[i]? = some x) (hv : Vis X.env.scope x) (hk : PySem.W.keepIn X.K (.ref f) = true) (hb : Binds X.K fd ps []) (hx : ∀ σ, PassesAt CX X σ (E σ)) (ha : PA X (e :: es) t)
    (hdb : (x == ("__debug__" : Str)) = false) (hcd : (x == ("__classdict__" : Str)) = false)
    (he : starEach (e :: es) X.env = (false, eval e X.env) :: starEach es X.env) (hpl : (backTo pos (starEach es X.env)).any (·.1) = false) : PE X (.Call (.Name x p) (e :: es) [] pos) (fun σ H Q => σ[i]? = some (some (.ref f)) ∧ tCallS sp E t σ H Q) := by
  refine ⟨fun pins s σ H Q I h => ?_⟩
  obtain ⟨hs, ht⟩ := h
  refine wpAny_Call_Name_kw (thn ((pe_var (pos := p) hN hv hdb hcd).run pins s σ H (fun v H1 => v = .ref f ∧ H1 = H) I ⟨.ref f, hs, rfl, rfl⟩) fun u s1 ⟨v, H1, I1, r1, q1⟩ => ?_)
  obtain ⟨rfl, rfl⟩ := q1
  cases r1
  refine PySem.W.callWith_K (h₀ := X.base) I.ok.mod.kin hk (thn (ha.run pos pins s1 σ _ _ I1 ht) fun us s2 ⟨vs, H2, I2, r, q⟩ => ⟨I2.kIn, ?_⟩) he hpl
  exact run_fnS F hr hb (hx σ) I2 r q
theorem wp_froz {pins : List (Addr × Obj)} {σ : L2.St} {H F : Hp} {C' : Cells} {d : D} {s : Shared} {e : Expr} (h : ∀ Q : VK, (∀ F' H' v, Stp W F H F' C' H' → FrR W H F' H' d v → Q v H') → wpAny (model X.prog X.w) X.A (eval e X.env) (EP X pins σ Q) X.xe s) {Q : VK}
    (k : ∀ F' H' v, Stp W F H F' C' H' → Rep W F' d v → Q v H') : wpAny (model X.prog X.w) X.A (eval e X.env) (EP X pins σ Q) X.xe s := by
  refine thn (h (fun v H' => ∃ F', Stp W F H F' C' H' ∧ FrR W H F' H' d v) (fun F' H' v t fr => ⟨F', t, fr⟩)) fun u s1 ⟨v, H1, I1, r1, F', t, p, o, ev', h1, h2, h3, h4, h5⟩ => ?_
  subst ev'
  cases h5 with
  | lst h5 => exact ⟨_, H1, I1, r1, k _ _ _ (t.frz h1 h2 h3 h4) (.lst upd_same (h5.ext (Ext.upd h3)))⟩
  | dK a b c =>
    obtain ⟨od, I2⟩ := I1.lock h2 trivial
    exact ⟨_, _, I2, r1, k _ _ _ (t.frzD h1 h2 h3 h4) (.dct upd_same (.dK a b (c.ext (Ext.upd h3))))⟩
  | dT a b c =>
    obtain ⟨od, I2⟩ := I1.lock h2 trivial
    exact ⟨_, _, I2, r1, k _ _ _ (t.frzD h1 h2 h3 h4) (.dct upd_same (.dT a b (c.ext (Ext.upd h3))))⟩
theorem xfroz {m : E} {e : Expr} (h : PE X e (tFX W cl Wx m)) : PE X e (tSX W cl Wx m) := ⟨fun pins s σ H Q I q => by
  rcases q with ⟨H0, F, σd, C, d, C', rl, q, k⟩ | q
  · exact wp_froz (fun Q' k' => h.run pins s σ H Q' I (.inl ⟨H0, F, σd, C, d, C', rl, q, k'⟩)) k
  · exact h.run pins s σ H Q I (.inr q)⟩
theorem xs_callv {n i : Nat} {x : Str} {ms : Es} {e : Expr} {es : List Expr} {p pos : Pos} (tk : Takes X Wx) (hall : ∀ f, (∀ ds C, cl f ds C = .bad) ∨ ∃ nm fr, FnAt W cl n X fr f nm) (hr : Room n X.A) (hN : X.N[i]? = some x) (hv : Vis X.env.scope x) (hn : ∀ σd C, NoX (evs cl ms σd C)) (ha : PA X (e :: es) (tSs W cl ms)) (hs : (e :: es).all notStar = true) (hdb : (x == ("__debug__" : Str)) = false) (hcd : (x == ("__classdict__" : Str)) = false) :
    PE X (.Call (.Name x p) (e :: es) [] pos) (tSX W cl Wx (.callv (.v i) ms)) := by
  have hs' := hs
  rw [List.all_cons, Bool.and_eq_true] at hs'
  have slot : ∀ {H0 F : Hp} {σd : List Sl} {C : Cells} {σ : L2.St} {H : Hp} {f : Nat}, Rel W H0 F σd C σ H → slotD σd[i]? = some (.fn f) → ∃ a, W.fa f = some a ∧ σ[i]? = some (some (.ref a)) := fun {H0 F σd C σ H f} rl h => by
    cases e : σd[i]? with
    | none => rw [e] at h; cases h
    | some sl =>
      rw [e] at h
      cases sl <;> first | (cases h; done) | skip
      rename_i d
      cases h
      obtain ⟨v, g1, g2⟩ := rl.val i _ e
      cases g2 with
      | fn g3 => exact ⟨_, g3, g1⟩
  have rule := fun (f : Nat) (nm : Str) (fr : Bool) (hf : FnAt W cl n X fr f nm) => show ∀ a, W.fa f = some a → PE X (.Call (.Name x p) (e :: es) [] pos) (fun σ H Q => σ[i]? = some (some (.ref a)) ∧ tCallS (spF W cl fr f) (WE Wx) (tSs W cl ms) σ H Q) from fun a ea => by
    obtain ⟨a', fd, ps, h1, h2, h3, h4, h5⟩ := hf.ex
    rw [ea] at h1; cases h1
    exact pe_callLS (E := WE Wx) h5 hr hN hv h3 h4 (fun σ => passAt tk σ) ha hdb hcd (star_cons hs'.1) (back_plain hs'.2)
  refine ⟨fun pins s σ H Q I q => ?_⟩
  rcases q with ⟨H0, F, σd, C, d, C', rl, q, k⟩ | ⟨H0, F, σd, C, c, xA, C', rl, q, xa, k⟩
  · simp only [ev] at q
    obtain ⟨df, C0, e0, q1⟩ := R.bind_ok q
    clear q
    obtain ⟨e0', e0''⟩ := R.of_ok e0
    clear e0
    subst e0''
    obtain ⟨ds, C1, e1, q2⟩ := R.bind_ok (show (evs cl ms σd C0).bind (fun xs C => match df with
      | .fn f => cl f xs C
      | _ => .bad) = _ from q1)
    obtain ⟨f, rfl, q3⟩ := fn_of (g := fun f => cl f ds C1) (fun z => by cases z) q2
    rcases hall f with hb | ⟨nm, fr, hf⟩
    · rw [hb] at q3; cases q3
    · obtain ⟨a, ea, es⟩ := slot rl e0'
      cases fr with
      | false =>
        refine (rule f nm false hf a ea).run pins s σ H Q I ⟨es, ⟨H0, F, σd, C0, ds, C1, rl, e1, fun F1 H1 vs t r => ?_⟩⟩
        exact ⟨F1, C1, ds, t.sub, t.cell, r, .inl ⟨d, C', q3, fun F' H' v t' p => k F' H' v (t.trans t') (by simpa [PostF] using p)⟩⟩
      | true =>
        refine wp_froz (F := F) (C' := C') (d := d) (fun Q' k' => ?_) k
        refine (rule f nm true hf a ea).run pins s σ H Q' I ⟨es, ⟨H0, F, σd, C0, ds, C1, rl, e1, fun F1 H1 vs t r => ?_⟩⟩
        exact ⟨F1, C1, ds, t.sub, t.cell, r, .inl ⟨d, C', q3, fun F' H' v t' p => k' F' H' v (t.trans t') (FrR.back t (show FrR W H1 F' H' d v by simpa [PostF] using p))⟩⟩
  · simp only [ev] at q
    rcases R.bind_ex q with e0 | ⟨df, C0, e0, q1⟩
    · exact (R.of_ex e0).elim
    · clear q
      obtain ⟨e0', e0''⟩ := R.of_ok e0
      clear e0
      subst e0''
      rcases R.bind_ex (show (evs cl ms σd C0).bind (fun xs C => match df with
        | .fn f => cl f xs C
        | _ => .bad) = _ from q1) with e1 | ⟨ds, C1, e1, q2⟩
      · exact (hn _ _ _ _ _ e1).elim
      · obtain ⟨f, rfl, q3⟩ := fn_of (g := fun f => cl f ds C1) (fun z => by cases z) q2
        rcases hall f with hb | ⟨nm, fr, hf⟩
        · rw [hb] at q3; cases q3
        · obtain ⟨a, ea, es⟩ := slot rl e0'
          refine (rule f nm fr hf a ea).run pins s σ H Q I ⟨es, ⟨H0, F, σd, C0, ds, C1, rl, e1, fun F1 H1 vs t r => ?_⟩⟩
          exact ⟨F1, C1, ds, t.sub, t.cell, r, .inr ⟨c, xA, C', q3, xa, fun F' H' t' => k F' H' (t.trans t')⟩⟩
end
end Mi

set_option Elab.async false
set_option linter.all false
set_option maxRecDepth 100000
set_option maxHeartbeats 4000000
namespace Mi
open PySem PySem.Spec PyProof.Rows L2
/-! ## Statements that may raise -/
section
variable {W : Wd} {X : Cx} {cl : Call} {fr : Bool} {Ek : XK}
abbrev WE0 (Ek : XK) : WX := fun cls d _ H => Ek cls d H
def tXst (W : Wd) (cl : Call) (Ek : XK) (s : S) : L2.St → Hp → Prop := fun σ H => ∃ F0 H0 F σd C c a C', Bd W F0 H0 F σd C σ H ∧ evS cl s σd C = .ex c none C' ∧ W.xa c = some a ∧ ∀ F' H', Stp W F0 H0 F' C' H' → Ek (.ref a) none H'
def tXsts (W : Wd) (cl : Call) (Ek : XK) (s : Ss) : L2.St → Hp → Prop := fun σ H => ∃ F0 H0 F σd C c a C', Bd W F0 H0 F σd C σ H ∧ evSs cl s σd C = .ex c none C' ∧ W.xa c = some a ∧ ∀ F' H', Stp W F0 H0 F' C' H' → Ek (.ref a) none H'
def tStX (W : Wd) (cl : Call) (fr : Bool) (Ek : XK) (s : S) : TS := fun D σ H => tSt W cl fr s D σ H ∨ tXst W cl Ek s σ H
def tStsX (W : Wd) (cl : Call) (fr : Bool) (Ek : XK) (s : Ss) : TS := fun D σ H => tSts W cl fr s D σ H ∨ tXsts W cl Ek s σ H
theorem sx_lift {s : S} {st : Stmt} (hn : ∀ σd C, NoX (evS cl s σd C)) (h : PS X st (tSt W cl fr s)) : PS X st (tStX W cl fr Ek s) := h.imp fun D σ H q => by
  rcases q with q | ⟨F0, H0, F, σd, C, c, a, C', b, q, _⟩
  · exact q
  · exact (hn σd C c none C' q).elim
theorem sxs_lift {s : Ss} {st : List Stmt} (hn : ∀ σd C, NoX (evSs cl s σd C)) (h : PSs X st (tSts W cl fr s)) : PSs X st (tStsX W cl fr Ek s) := h.imp fun D σ H q => by
  rcases q with q | ⟨F0, H0, F, σd, C, c, a, C', b, q, _⟩
  · exact q
  · exact (hn σd C c none C' q).elim
theorem sx_cons {s : S} {r : Ss} {st : Stmt} {rest : List Stmt} (h1 : PS X st (tStX W cl fr Ek s)) (h2 : PSs X rest (tStsX W cl fr Ek r)) : PSs X (st :: rest) (tStsX W cl fr Ek (.cons s r)) :=
  (pss_cons h1 h2).imp fun D σ H q => by
    rcases q with ⟨F0, H0, F, σd, C, o, C', b, q, k⟩ | ⟨F0, H0, F, σd, C, c, a, C', b, q, xa, k⟩
    · simp only [evSs] at q
      obtain ⟨o1, C1, e1, q⟩ := R.bind_ok q
      refine .inl ⟨F0, H0, F, σd, C, o1, C1, b, e1, ?_⟩
      cases o1 with
      | nx σ1 => exact fun F' σ' H' b' x => .inl ⟨F0, H0, F', σ1, C1, o, C', b', q, k.ext x⟩
      | rt d => cases q; exact k
      | bk d => cases q; exact k
      | ct d => cases q; exact k
    · simp only [evSs] at q
      rcases R.bind_ex q with e1 | ⟨o1, C1, e1, q⟩
      · exact .inr ⟨F0, H0, F, σd, C, c, a, C', b, e1, xa, k⟩
      · refine .inl ⟨F0, H0, F, σd, C, o1, C1, b, e1, ?_⟩
        cases o1 with
        | nx σ1 => exact fun F' σ' H' b' x => .inr ⟨F0, H0, F', σ1, C1, c, a, C', b', q, xa, k⟩
        | rt d => cases q
        | bk d => cases q
        | ct d => cases q
theorem sx_ret {m : E} {e : Expr} {pos : Pos} (hf : fr = false) (h : PE X e (tSX W cl (WE0 Ek) m)) : PS X (.Return (some e) pos) (tStX W cl fr Ek (.ret m)) := (ps_ret h).imp fun D σ H q => by
  subst hf
  rcases q with ⟨F0, H0, F, σd, C, o, C', b, q, k⟩ | ⟨F0, H0, F, σd, C, c, a, C', b, q, xa, k⟩
  · simp only [evS] at q
    obtain ⟨d, C1, e1, q⟩ := R.bind_ok q
    cases q
    exact .inl ⟨H0, F, σd, C, d, C', b.rel, e1, fun F' H' v t r => k F' H' v (b.st.trans t) r⟩
  · simp only [evS] at q
    rcases R.bind_ex q with e1 | ⟨d, C1, e1, q⟩
    · exact .inr ⟨H0, F, σd, C, c, a, C', b.rel, e1, xa, fun F' H' t => k F' H' (b.st.trans t)⟩
    · cases q
theorem sx_asg {m : E} {t : Tg} {tg e : Expr} {pos : Pos} (he : PE X e (tSX W cl (WE0 Ek) m)) (hg : PG X tg (tT W t)) (hs : swapsWithSole [tg] e pos.line X.env = pure false) (hw : swappedStores [tg] e X.env = pure none) (hn : notStar tg = true) : PS X (.Assign [tg] e pos) (tStX W cl fr Ek (.asg t m)) :=
  (ps_asg he hg hs hw (by rw [aE_cons hn]; rfl)).imp fun D σ H q => by
    rcases q with ⟨F0, H0, F, σd, C, o, C', b, q, k⟩ | ⟨F0, H0, F, σd, C, c, a, C', b, q, xa, k⟩
    · simp only [evS] at q
      obtain ⟨d, C1, e1, q⟩ := R.bind_ok q
      cases eb : bindT t d σd with
      | none => rw [eb] at q; cases q
      | some σd' =>
        rw [eb] at q
        cases q
        refine .inl ⟨H0, F, σd, C, d, C', b.rel, e1, fun F1 H1 v t1 rv => ?_⟩
        have bb := b.stp t1
        exact ⟨H0, F1, σd, C', d, σd', bb.rel, rv, eb, fun σ' hR _ _ => k F1 σ' H1 ⟨hR F1 C' H1 (Ext.refl _) bb.rel, bb.st⟩ t1.ext⟩
    · simp only [evS] at q
      rcases R.bind_ex q with e1 | ⟨d, C1, e1, q⟩
      · exact .inr ⟨H0, F, σd, C, c, a, C', b.rel, e1, xa, fun F' H' t => k F' H' (b.st.trans t)⟩
      · exact (R.of_ex q).elim
theorem sx_ifs {m : E} {a b : Ss} {c : Expr} {p q : List Stmt} {pos : Pos} (hn : ∀ σd C, NoX (ev cl m σd C)) (hc : PT X c (tB W cl m)) (ha : PSs X p (tStsX W cl fr Ek a)) (hb : PSs X q (tStsX W cl fr Ek b)) : PS X (.If c p q pos) (tStX W cl fr Ek (.ifs m a b)) :=
  (ps_if hc ha hb).imp fun D σ H q => by
    rcases q with ⟨F0, H0, F, σd, C, o, C', b, q, k⟩ | ⟨F0, H0, F, σd, C, cc, aa, C', b, q, xa, k⟩
    · simp only [evS] at q
      obtain ⟨d, C1, e1, q⟩ := R.bind_ok q
      cases e2 : truthD d with
      | none => rw [e2] at q; cases q
      | some kb =>
        rw [e2] at q
        refine ⟨H0, F, σd, C, d, C1, kb, b.rel, e1, e2, fun F' H' t => ?_⟩
        cases kb with
        | true => exact .inl ⟨F0, H0, F', σd, C1, o, C', b.stp t, q, k.ext t.ext⟩
        | false => exact .inl ⟨F0, H0, F', σd, C1, o, C', b.stp t, q, k.ext t.ext⟩
    · simp only [evS] at q
      rcases R.bind_ex q with e1 | ⟨d, C1, e1, q⟩
      · exact (hn _ _ _ _ _ e1).elim
      · cases e2 : truthD d with
        | none => rw [e2] at q; cases q
        | some kb =>
          rw [e2] at q
          refine ⟨H0, F, σd, C, d, C1, kb, b.rel, e1, e2, fun F' H' t => ?_⟩
          cases kb with
          | true => exact .inr ⟨F0, H0, F', σd, C1, cc, aa, C', b.stp t, q, xa, k⟩
          | false => exact .inr ⟨F0, H0, F', σd, C1, cc, aa, C', b.stp t, q, xa, k⟩

/-! ### the classes -/
def clsN : Nat → Str
  | 0 => "TooMany"
  | 1 => "Unfit"
  | _ => "CanNot"
structure Cls1 (K : PySem.W.Frag) (a : Addr) : Prop where
  xP : PySem.W.excIn K a [.type "ValueError", .type "Exception", .type "BaseException", .type "object"] "ValueError.__new__" = true
  kP : PySem.W.keepIn K (.ref a) = true
  bP : PySem.W.subIn K (.ref a) (.type "BaseException") = some true
  tP : PySem.W.typeIn K (.ref a) = some (.type "type")
  ec : ExcC K a
  ve : PySem.W.kitOne K (.ref a) (.type "ValueError") = some true
structure ClsOk (W : Wd) (K : PySem.W.Frag) (mg : Str → Option Value) : Prop where
  one : ∀ c a, W.xa c = some a → c < 3 ∧ mg (clsN c) = some (.ref a) ∧ Cls1 K a
  two : ∀ c a c' a', W.xa c = some a → W.xa c' = some a' → PySem.W.exmOne K (.ref a) (.ref a') = some (c == c')
  all : ∀ c, c < 3 → ∃ a, W.xa c = some a
  ven : mg "ValueError" = none
theorem sx_raise {c : Nat} {x : Str} {p pos pos2 : Pos} (hk : ClsOk W X.K X.mg) (hc : X.calm = true) (tk : Takes X (WE0 Ek)) (h3 : c < 3) (hx : x = clsN c) (hg : Gl X x) (hdb : (x == ("__debug__" : Str)) = false) : PS X (.Raise (some (.Call (.Name x p) [] [] pos)) none pos2) (tStX W cl fr Ek (.raise c .nil)) := by
  obtain ⟨a, ha⟩ := hk.all c h3
  obtain ⟨_, h1, h2⟩ := hk.one c a ha
  subst hx
  refine (ps_raise hc tk (pmk_own0 PySem.F.excBase_ValueError h2.xP h1 h2.kP (raises_own h2.bP h2.tP) hg hdb)).imp fun D σ H q => ?_
  rcases q with ⟨F0, H0, F, σd, C, o, C', b, q, k⟩ | ⟨F0, H0, F, σd, C, cc, aa, C', b, q, xa, k⟩
  · simp only [evS, evs] at q
    cases q
  · simp only [evS, evs] at q
    cases q
    rw [ha] at xa; cases xa
    exact k F H b.st

/-! ### told of what a call raises -/
def tIsE (i : Nat) (txt : Str) (K : PySem.W.Frag) : Addr → Value → Option Addr → TS := fun a cls d D σ H => ∃ Da, cls = .ref Da ∧ d = none ∧ σ[i]? = some (some (.ref a)) ∧ ExcC K Da ∧ PySem.W.kitOne K (.ref Da) (.type "ValueError") = some true ∧ D.rt (.str txt) H
theorem sts_isE {a : Addr} {oe : Obj} {cls : Value} {d : Option Addr} {pn : List (Addr × Obj)} {i : Nat} {n : Str} {txt odd : Str} {j1 j2 p0 p1 p2 p3 p4 p5 p6 p7} (hz : Zc cls d oe) (hf : ∃ vs, oe.data = .fields vs) (hgi : Gl X "isinstance") (hmi : X.mg "isinstance" = none) (hgv : Gl X "ValueError") (hmv : X.mg "ValueError" = none) (hN : X.N[i]? = some n) (hv : Vis X.env.scope n) (hdb : (n == ("__debug__" : Str)) = false) (hcd : (n == ("__classdict__" : Str)) = false) :
    PSs (X.suite a ((a, oe) :: pn)) [.Return (some (.IfExp (.Call (.Name "isinstance" p0) [.Name n p1, .Name "ValueError" p2] [] p3) (.Constant (.str txt) j1 p4) (.Constant (.str odd) j2 p5) p6)) p7] (tIsE i txt X.K a cls d) := by
  refine ⟨fun pins s σ H D I ⟨Da, h1, h2, h3, h4, h5, h6⟩ => ?_⟩
  subst h1 h2
  have hb := pe_callB (X := X.suite a ((a, oe) :: pn)) (p := p0) (pos := p3) (call_isE h4 hz hf) hgi hmi (by decide +kernel) (pa_cons (pe_var (pos := p1) hN hv hdb hcd) (pa_cons (pe_bltn (pos := p2) (v := .ty "ValueError") (u := .type "ValueError") hgv hmv (by decide +kernel) rfl (by decide) (by decide)) pa_nil rfl) rfl) (by decide) (by decide) rfl rfl
  refine (pss_cons (ps_ret (pe_ifExp (pt_val hb) pe_str pe_str)) pss_nil).run pins s σ H D I ?_
  refine ⟨.ref a, h3, .ty "ValueError", .type "ValueError", true, rfl, fun u hu => hu, h5, ?_⟩
  exact ⟨true, rfl, h6⟩
end
end Mi

set_option Elab.async false
set_option linter.all false
set_option maxRecDepth 100000
set_option maxHeartbeats 4000000
namespace Mi
open PySem PySem.Spec PyProof.Rows L2
/-! ## slip: a call, and what is told of what it raises -/
def txU : List Nat := [117, 110, 102, 105, 116]
def txC : List Nat := [99, 97, 110, 32, 110, 111, 116]
def txM : List Nat := [109, 97, 110, 121]
section
variable {W : Wd} {X : Cx} {cl : Call} {fr : Bool}
theorem st_slip {f : Nat} {ms : Es} {e : Expr} {h1 h2 h3 : ExceptHandler} {pe pos : Pos} {aU aC aT : Addr} {i1 i2 i3 : Nat} (hfr : fr = false) (hk : ClsOk W X.K X.mg) (hs : X.stack = X.env :: X.outer) (hf : X.env.frame = some X.env.locals) (hN : X.N.Nodup)
    (eU : W.xa 1 = some aU) (eC : W.xa 2 = some aC) (eT : W.xa 0 = some aT)
    (hh : HdsN X [h1, h2, h3] [(.ref aU, i1, tIsE i1 (toS txU) X.K), (.ref aC, i2, tIsE i2 (toS txC) X.K), (.ref aT, i3, tIsE i3 (toS txM) X.K)]) (l1 : i1 < X.N.length) (l2 : i2 < X.N.length) (l3 : i3 < X.N.length)
    (hb : ∀ (pn : List (Addr × Obj)) (xe : Value → Shared → Prop) (Wx : WX), Takes (X.tr pn xe) Wx → PE (X.tr pn xe) e (tSX W cl Wx (.call f ms))) (hn : ∀ σd C, NoX (evs cl ms σd C)) (hsw : swapsWith e none pe.line X.env = pure false) :
    PS X (.Try [.Expr e pe] [h1, h2, h3] [] [] pos) (tSt W cl fr (.slip f ms)) := by
  have rule := ps_try_manyN (pos := pos) (tb := fun Wx => tSeq (tDrop (tSX W cl Wx (.call f ms))) tNext) (Wout := fun _ _ _ _ => False) hs hf hN takes_none5 (fun Wx pn xe tk _ => pss_cons (ps_expr (hb pn xe Wx tk) hsw) pss_nil) hh
  subst hfr
  refine ⟨fun pins s σ H D I ⟨F0, H0, F, σd, C, o, C', b, q, k⟩ => rule.run pins s σ H D I ?_⟩
  have hlen := I.len
  simp only [evS] at q
  obtain ⟨ds, C1, e1, q⟩ := R.bind_ok q
  have ec : ev cl (.call f ms) σd C = cl f ds C1 := by
    simp only [ev]
    rw [e1]
  have rt : ∀ {tx : List Nat} {F' H' : Hp} {C' : Cells}, strV tx = true → Stp W F H F' C' H' → EndF W false F0 H0 F D (.rt (.str tx)) C' → D.rt (.str (toS tx)) H' := fun {tx F' H' C'} hv t k => k F' H' _ (b.st.trans t) (Rep.str (W := W) (F := F') tx hv)
  have sg : ∀ {i : Nat} {a : Addr}, i < X.N.length → (σ.set i (some (V.ref a)))[i]? = some (some (.ref a)) := fun {i a} h => List.getElem?_set_self (by rw [hlen]; exact h)
  have x11 := hk.two 1 aU 1 aU eU eU
  have x21 := hk.two 2 aC 1 aU eC eU
  have x22 := hk.two 2 aC 2 aC eC eC
  have x01 := hk.two 0 aT 1 aU eT eU
  have x02 := hk.two 0 aT 2 aC eT eC
  have x00 := hk.two 0 aT 0 aT eT eT
  have kU := (hk.one 1 aU eU).2.2
  have kC := (hk.one 2 aC eC).2.2
  have kT := (hk.one 0 aT eT).2.2
  cases er : cl f ds C1 with
  | ok d C2 =>
    rw [er] at q
    simp only [slipR] at q
    cases q
    exact .inl ⟨H0, F, σd, C, d, C', b.rel, ec.trans er, fun F' H' v t r => k F' σ H' ⟨b.rel.stp t, b.st.trans t⟩ t.ext⟩
  | ex c ag C2 =>
    rw [er] at q
    unfold slipR at q
    split at q
    · rename_i h; cases h
    · rename_i h; cases h
      cases q
      refine .inr ⟨H0, F, σd, C, 1, aU, C', b.rel, ec.trans er, eU, fun F' H' t => ⟨true, x11, fun _ a ha => ⟨aU, rfl, rfl, sg l1, kU.ec, kU.ve, rt rfl t k⟩, (fun z => nomatch z)⟩⟩
    · rename_i h; cases h
      cases q
      refine .inr ⟨H0, F, σd, C, 2, aC, C', b.rel, ec.trans er, eC, fun F' H' t => ⟨false, x21, (fun z => nomatch z), fun _ => ⟨true, x22, fun _ a ha => ⟨aC, rfl, rfl, sg l2, kC.ec, kC.ve, rt rfl t k⟩, (fun z => nomatch z)⟩⟩⟩
    · rename_i h; cases h
      cases q
      refine .inr ⟨H0, F, σd, C, 0, aT, C', b.rel, ec.trans er, eT, fun F' H' t => ⟨false, x01, (fun z => nomatch z), fun _ => ⟨false, x02, (fun z => nomatch z), fun _ => ⟨true, x00, fun _ a ha => ⟨aT, rfl, rfl, sg l3, kT.ec, kT.ve, rt rfl t k⟩, (fun z => nomatch z)⟩⟩⟩⟩
    · cases q
  | bad =>
    rw [er] at q
    cases q
end
end Mi

set_option Elab.async false
set_option linter.all false
set_option maxRecDepth 100000
set_option maxHeartbeats 4000000
namespace Mi
open PySem PySem.Spec PyProof.Rows L2

section
variable {W : Wd} {X : Cx} {cl : Call}
def plainBase : Expr → Bool
  | .Name .. => true
  | .Subscript .. => true
  | .Constant .. => true
  | .ListComp .. => true
  | .List .. => true
  | _ => false
theorem base_of {o : Expr} (h : plainBase o = true) (m : Str) (env : Env) : attributeBase o m env (eval o env) = eval o env := by
  cases o <;> first | rfl | cases h
theorem s_get {md mk mx : E} {o e f : Expr} {apos cpos : Pos} (hu : X.A.units + 1 < cLine) (ho : PE X o (tR W cl md)) (he : PE X e (tR W cl mk)) (hf : PE X f (tS W cl mx)) (hb : plainBase o = true) (hs : notStar e = true) (hs2 : notStar f = true) (hl : (apos.endLine == cpos.line) = true) :
    PE X (.Call (.Attribute o "get" apos) [e, f] [] cpos) (tS W cl (.bi .get (.cons md (.cons mk (.cons mx .nil))))) :=
  (pe_dget2 hu ho he hf ⟨base_of hb _ _, by rw [star_cons hs, star_cons hs2]; rfl, hl, by rw [star_cons hs, star_cons hs2]; rfl⟩).imp fun σ H Q ⟨H0, F, σd, C, d, C', rl, q, k⟩ => by
    simp only [ev, evs] at q
    obtain ⟨ds, C1, e1, q⟩ := R.bind_ok q
    obtain ⟨ef, rfl⟩ := R.of_ok q
    obtain ⟨d1, C2, e2, e1⟩ := R.bind_ok e1
    obtain ⟨ds2, C3, e3, e1⟩ := R.bind_ok e1
    cases e1
    obtain ⟨d2, C4, e4, e3⟩ := R.bind_ok e3
    obtain ⟨ds3, C5, e5, e3⟩ := R.bind_ok e3
    cases e3
    obtain ⟨d3, C6, e6, e5⟩ := R.bind_ok e5
    cases e5
    match d1, ef, e2 with
    | .dct t ks vs, ef, e2 =>
      have ef' : (if keyOk t d2 then some ((lookD ks vs d2).getD d3) else none) = some d := ef
      split at ef'
      · rename_i hk
        cases ef'
        refine ⟨H0, F, σd, C, _, C2, rl, e2, fun F1 H1 x t1 r1 => ?_⟩
        obtain ⟨a, o', rfl, h1, h2⟩ := r1.dct_inv t1.sub
        refine ⟨a, rfl, ?_, H0, F1, σd, C2, d2, C4, rl.stp t1, e4, fun F2 H2 y t2 r2 => ⟨H0, F2, σd, C4, d3, _, (rl.stp t1).stp t2, e6, fun F3 H3 z t3 r3 => ?_⟩⟩
        · cases h2 with
          | dK _ _ _ => exact .inl ⟨_, h1⟩
          | dT _ _ _ => exact .inr ⟨_, h1⟩
        · have r1' := (r1.stp t2).stp t3
          obtain ⟨a', o2, ea, g1, g2⟩ := r1'.dct_inv t3.sub
          cases ea
          rcases dget_of t3.sub g2 g1 hk (r2.stp t3) with ⟨p1, p2, p3⟩ | ⟨d', v', p1, p2, p3, p4⟩
          · refine ⟨none, p3, k F3 H3 _ ((t1.trans t2).trans t3) ?_⟩
            rw [p1]; exact r3
          · refine ⟨some v', p3, k F3 H3 _ ((t1.trans t2).trans t3) ?_⟩
            rw [p1]; exact p4
      · cases ef'
theorem s_count {mx mk : E} {o e : Expr} {apos cpos : Pos} (hK : X.K = W.K) (ho : PE X o (tR W cl mx)) (he : PE X e (tR W cl mk)) (hb : plainBase o = true) (hs : notStar e = true) (hl : (apos.endLine == cpos.line) = true) :
    PE X (.Call (.Attribute o "count" apos) [e] [] cpos) (tS W cl (.bi .count (.cons mx (.cons mk .nil)))) :=
  (pe_bm PySem.F.plainAttrs_list PySem.F.slot_list_count PySem.F.type_list_count mt_lcount ho (ar_cons he ar_nil hs) (base_of hb _ _) (by rw [star_cons hs]; rfl) hl (star_cons hs) rfl).imp fun σ H Q ⟨H0, F, σd, C, d, C', rl, q, k⟩ => by
    simp only [ev, evs] at q
    obtain ⟨ds, C1, e1, q⟩ := R.bind_ok q
    obtain ⟨ef, rfl⟩ := R.of_ok q
    obtain ⟨d1, C2, e2, e1⟩ := R.bind_ok e1
    obtain ⟨ds2, C3, e3, e1⟩ := R.bind_ok e1
    cases e1
    obtain ⟨d2, C4, e4, e3⟩ := R.bind_ok e3
    cases e3
    match d1, d2, ef, e2, e4 with
    | .lst xs, .int kk, ef, e2, e4 =>
      have ef' : (intsD xs).map (fun ns => D.int (ns.count kk : Nat)) = some d := ef
      cases ex : intsD xs with
      | none => rw [ex] at ef'; cases ef'
      | some ns =>
        rw [ex] at ef'
        cases ef'
        refine ⟨H0, F, σd, C, _, C2, rl, e2, fun F1 H1 x t1 r1 => ?_⟩
        obtain ⟨a, vs, rfl, h1, h2⟩ := r1.lst_inv t1.sub
        have hv := h2.ints ex
        subst hv
        refine ⟨.inl ⟨rfl, _, SqL.of h1⟩, H0, F1, σd, C2, [.int kk], _, rl.stp t1, by simp only [evs]; rw [e4], fun F2 H2 ys t2 r2 => ?_⟩
        obtain ⟨y, rfl, r3⟩ := r2.one_inv
        obtain ⟨a', vs', ea, g1, g2⟩ := (r1.stp t2).lst_inv t2.sub
        cases ea
        have hv := g2.ints ex
        subst hv
        exact ⟨a, ns, kk, rfl, by rw [r3.int_inv], SqL.of g1, k F2 H2 _ (t1.trans t2) (.int _)⟩
/-! ### sorted -/
theorem insI_perm (x : Int) : ∀ l : List Int, (insI x l).Perm (x :: l)
  | [] => List.Perm.refl _
  | y :: ys => by
    unfold insI
    split
    · exact List.Perm.refl _
    · exact ((insI_perm x ys).cons y).trans (List.Perm.swap x y ys)
theorem sortI_perm : ∀ l : List Int, (sortI l).Perm l
  | [] => List.Perm.refl _
  | x :: xs => (insI_perm x _).trans ((sortI_perm xs).cons x)
theorem insI_pw (x : Int) : ∀ {l : List Int}, l.Pairwise (· ≤ ·) → (insI x l).Pairwise (· ≤ ·)
  | [], _ => List.pairwise_singleton _ _
  | y :: ys, h => by
    unfold insI
    rw [List.pairwise_cons] at h
    split
    · rename_i hxy
      refine List.pairwise_cons.mpr ⟨fun z hz => ?_, List.pairwise_cons.mpr h⟩
      rcases List.mem_cons.mp hz with rfl | hz
      · exact hxy
      · exact Int.le_trans hxy (h.1 z hz)
    · rename_i hxy
      refine List.pairwise_cons.mpr ⟨fun z hz => ?_, insI_pw x h.2⟩
      rcases List.mem_cons.mp ((insI_perm x ys).mem_iff.mp hz) with rfl | hz
      · omega
      · exact h.1 z hz
theorem sortI_pw : ∀ l : List Int, (sortI l).Pairwise (· ≤ ·)
  | [] => List.Pairwise.nil
  | x :: xs => insI_pw x (sortI_pw xs)
theorem sorted_uniq : ∀ {l m : List Int}, l.Pairwise (· ≤ ·) → m.Pairwise (· ≤ ·) → l.Perm m → l = m
  | [], m, _, _, h => (List.Perm.eq_nil h.symm).symm
  | x :: l, [], _, _, h => absurd h.length_eq (by simp)
  | x :: l, y :: m, hl, hm, h => by
    rw [List.pairwise_cons] at hl hm
    have e : x = y := by
      have a1 : x ≤ y := by
        rcases List.mem_cons.mp (h.mem_iff.mpr List.mem_cons_self) with e | e
        · omega
        · exact hl.1 y e
      have a2 : y ≤ x := by
        rcases List.mem_cons.mp (h.mem_iff.mp List.mem_cons_self) with e | e
        · omega
        · exact hm.1 x e
      omega
    subst e
    rw [sorted_uniq hl.2 hm.2 h.cons_inv]
def rSortA (K : PySem.W.Frag) : List V → Hp → VK → Prop := fun xs H Q => rSortedI K xs H Q ∨ (∃ (a : Addr) (kvs : List (Key × V)) (ks : List Int), xs = [.ref a] ∧ Rd H a (.dK kvs) ∧ kvs.map (·.1) = ks.map Sum.inl ∧ ks.length < 64 ∧
    ∀ (ys : List Int) (p : Addr), ys.Perm ks → ys.Pairwise (· ≤ ·) → H p = none → Q (.ref p) (upd H p (.lst (ys.map V.int))))
theorem cr_sortA (hc : X.calm = true) : CallR X (.builtin "sorted") (rSortA X.K) := cr_sortedI.or (call_sortedDI hc)
theorem keys_ints : ∀ {kvs : List (Key × V)} {ns : List Int}, intsD (kvs.map fun p => keyD p.1) = some ns → kvs.map (·.1) = ns.map Sum.inl
  | [], ns, h => by simp [intsD] at h; subst h; rfl
  | (k, v) :: r, ns, h => by
    cases k with
    | inl i =>
      have h' : (intsD (r.map fun p => keyD p.1)).map (i :: ·) = some ns := h
      cases e : intsD (r.map fun p => keyD p.1) with
      | none => rw [e] at h'; cases h'
      | some ms => rw [e] at h'; cases h'; rw [List.map_cons, keys_ints e]; rfl
    | inr z => simp [keyD, intsD] at h
end
end Mi

set_option Elab.async false
set_option linter.all false
set_option maxRecDepth 100000
set_option maxHeartbeats 4000000
namespace Mi
open PySem PySem.Spec PyProof.Rows L2

section
variable {W : Wd} {X : Cx} {cl : Call}
theorem putK_nodup {κ : Type} [DecidableEq κ] (k : κ) (v : V) (kvs : List (κ × V)) (h : (kvs.map (·.1)).Nodup) : ((L2.putK kvs k v).map (·.1)).Nodup := by
  unfold L2.putK
  split
  · rw [List.map_map]
    have : ((fun x : κ × V => x.1) ∘ fun kv : κ × V => if kv.1 = k then (kv.1, v) else kv) = fun kv => kv.1 := by
      funext kv
      show (if kv.1 = k then (kv.1, v) else kv).1 = kv.1
      split <;> rfl
    rw [this]; exact h
  · rename_i hn
    rw [List.map_append, List.nodup_append]
    refine ⟨h, by simp, fun a ha b hb e => ?_⟩
    simp only [List.map_cons, List.map_nil, List.mem_singleton] at hb
    subst hb; subst e
    obtain ⟨p, hp, rfl⟩ := List.mem_map.mp ha
    exact hn (List.any_eq_true.mpr ⟨p, hp, by simp⟩)
theorem putK_mem {κ : Type} [DecidableEq κ] {k : κ} {v : V} {kvs : List (κ × V)} {p : κ × V} (hp : p ∈ L2.putK kvs k v) : p.1 = k ∨ ∃ q ∈ kvs, q.1 = p.1 := by
  unfold L2.putK at hp
  split at hp
  · obtain ⟨q, hq, e⟩ := List.mem_map.mp hp
    subst e
    split
    · exact .inr ⟨q, hq, rfl⟩
    · exact .inr ⟨q, hq, rfl⟩
  · rcases List.mem_append.mp hp with h | h
    · exact .inr ⟨p, h, rfl⟩
    · rw [List.mem_singleton] at h
      subst h
      exact .inl rfl
abbrev StrKeys (kvs : List (Key × V)) : Prop := ∀ p ∈ kvs, ∀ s, p.1 = .inr s → strV s.cps.toList = true
theorem merge_rep {F : Hp} : ∀ {more : List (Key × V)} {acc : List (Key × V)} {vs us : List D}, (acc.map (·.1)).Nodup → Reps W F vs (acc.map (·.2)) → Reps W F us (more.map (·.2)) → StrKeys acc → StrKeys more →
    ∃ vs', mergeD (acc.map fun p => keyD p.1) vs (more.map fun p => keyD p.1) us = ((mergeK acc more).map (fun p => keyD p.1), vs') ∧ Reps W F vs' ((mergeK acc more).map (·.2)) ∧ StrKeys (mergeK acc more)
  | [], acc, vs, us, nd, h1, h2, s1, s2 => by
    cases h2
    exact ⟨vs, rfl, h1, s1⟩
  | (k, v) :: more, acc, vs, us, nd, h1, h2, s1, s2 => by
    rw [List.map_cons] at h2
    cases h2 with
    | @cons d ds _ _ hd h2 =>
      have hk : ∀ s, k = .inr s → strV s.cps.toList = true := s2 (k, v) List.mem_cons_self
      have := merge_rep (more := more) (acc := L2.putK acc k v) (vs := putVs (acc.map fun p => keyD p.1) vs (keyD k) d) (us := ds) (putK_nodup k v acc nd) (putVs_val (g := keyD) keyD_eqD k hd acc nd h1) h2
        (fun p hp s hs => by
          rcases putK_mem hp with e | ⟨q, hq, e⟩
          · exact hk s (by rw [← e]; exact hs)
          · exact s1 q hq s (by rw [e]; exact hs)) (fun p hp => s2 p (List.mem_cons_of_mem _ hp))
      obtain ⟨vs', g1, g2, g3⟩ := this
      refine ⟨vs', ?_, g2, g3⟩
      rw [← putKs_val (g := keyD) keyD_eqD k v acc] at g1
      exact g1
/-! ### displays -/
def trsOf (W : Wd) (cl : Call) : Es → List (TE × TE)
  | .cons k (.cons v r) => (tR W cl k, tS W cl v) :: trsOf W cl r
  | _ => []
inductive PrS (X : Cx) (W : Wd) (cl : Call) : Es → List (Option Expr) → List Expr → Prop
  | nil : PrS X W cl .nil [] []
  | cons {k v : E} {r : Es} {ek ev : Expr} {ks : List (Option Expr)} {vs : List Expr} : PE X ek (tR W cl k) → PE X ev (tS W cl v) → PrS X W cl r ks vs → PrS X W cl (.cons k (.cons v r)) (some ek :: ks) (ev :: vs)
theorem PrS.pps {pos : Pos} : ∀ {ms : Es} {ks : List (Option Expr)} {vs : List Expr}, PrS X W cl ms ks vs → PPs X pos ks vs (trsOf W cl ms) := by
  intro ms ks vs h
  induction h with
  | nil => exact pps_nil
  | cons h1 h2 _ ih => exact pps_cons h1 h2 ih
theorem PrS.lens {ms : Es} {ks : List (Option Expr)} {vs : List Expr} (h : PrS X W cl ms ks vs) : ks.all (·.isSome) = true ∧ ks.length = vs.length := by
  induction h with
  | nil => exact ⟨rfl, rfl⟩
  | cons _ _ _ ih => exact ⟨by rw [List.all_cons, ih.1]; rfl, by rw [List.length_cons, List.length_cons, ih.2]⟩
theorem keyOk_str {F H : Hp} {k : Key} (r : RepR W F H (keyD k) (kV k)) : ∀ s, k = .inr s → strV s.cps.toList = true := fun s e => by
  subst e
  have hz : RepR W F H (.str s.cps.toList) (kV (.inr s)) := r
  exact hz.str_inv.2
theorem pairs_imp : ∀ {ms : Es} {ks : List (Option Expr)} {vs : List Expr}, PrS X W cl ms ks vs → ∀ {σ : L2.St} {H H0 F : Hp} {σd : List Sl} {C C' : Cells} {ds dk dv : List D} {Q : List (V × V) → Hp → Prop}, evs cl ms σd C = .ok ds C' → Rel W H0 F σd C σ H → evensD ds = some (dk, dv) → dk.all (keyOk 0) = true →
    (∀ F' H' kvs, Stp W F H F' C' H' → dk = kvs.map (fun p => keyD p.1) → Reps W F' dv (kvs.map (·.2)) → StrKeys kvs → kvs.length = ks.length → Q (kvs.map fun kv => (kV kv.1, kv.2)) H') → tPairs (trsOf W cl ms) σ H Q := by
  intro ms ks vs h
  induction h with
  | nil =>
    intro σ H H0 F σd C C' ds dk dv Q q rl e hk k
    simp only [evs] at q
    cases q
    simp only [evensD] at e
    cases e
    exact k F H [] (Stp.refl rl.sub rl.cell) rfl .nil (fun _ h => by cases h) rfl
  | @cons mk mv r ek ev ks vs h1 h2 h3 ih =>
    intro σ H H0 F σd C C' ds dk dv Q q rl e hk k
    simp only [evs] at q
    obtain ⟨d1, C1, e1, q⟩ := R.bind_ok q
    obtain ⟨ds1, C2, e2, q⟩ := R.bind_ok q
    cases q
    obtain ⟨d2, C3, e3, e2⟩ := R.bind_ok e2
    obtain ⟨ds2, C4, e4, e2⟩ := R.bind_ok e2
    cases e2
    simp only [evensD] at e
    cases ee : evensD ds2 with
    | none => rw [ee] at e; cases e
    | some p =>
      rw [ee] at e
      cases e
      rw [List.all_cons, Bool.and_eq_true] at hk
      refine ⟨H0, F, σd, C, d1, C1, rl, e1, fun F1 H1 x t1 r1 => ⟨H0, F1, σd, C1, d2, C3, rl.stp t1, e3, fun F2 H2 y t2 r2 => ?_⟩⟩
      obtain ⟨key, rfl, rfl⟩ := key_inv hk.1 r1
      refine ih e4 ((rl.stp t1).stp t2) ee hk.2 fun F3 H3 kvs t3 g1 g2 g3 g4 => ?_
      refine k F3 H3 ((key, y) :: kvs) ((t1.trans t2).trans t3) (by rw [g1]; rfl) (.cons (r2.ext t3.ext) g2) (fun p hp => ?_) (by simp [g4])
      rcases List.mem_cons.mp hp with rfl | hp
      · exact keyOk_str r1
      · exact g3 p hp
theorem f_dsp {ms : Es} {ks : List (Option Expr)} {vs : List Expr} {pos : Pos} (h : PrS X W cl ms ks vs) (h0 : ks ≠ []) (h15 : ks.length ≤ 15) : PE X (.Dict ks vs pos) (tF W cl (.dsp 0 ms)) :=
  (pe_disp h.pps h.lens.1 h.lens.2 h0 h15).imp fun σ H Q ⟨H0, F, σd, C, d, C', rl, q, k⟩ => by
    simp only [ev] at q
    obtain ⟨ds, C1, e1, q⟩ := R.bind_ok q
    obtain ⟨ef, rfl⟩ := R.of_ok q
    cases ee : evensD ds with
    | none => rw [ee] at ef; cases ef
    | some p =>
      rw [ee] at ef
      unfold dictD at ef
      dsimp only at ef
      split at ef
      · rename_i hk
        cases ef
        intro a ha
        have t0 := Stp.tmp (o := .dK []) rl.sub rl.cell ha
        have hF := rl.sub.none_of ha
        have hca := rl.cell.ne ha
        refine pairs_imp h e1 (rl.stp t0) (by rw [ee]) hk fun F1 H1 kvs t1 g1 g2 g3 g4 => ?_
        have k1 := t1.keepR (d := .dct 0 [] []) upd_same hF hca (.dK rfl (fun _ h => by cases h) .nil)
        refine ⟨k1.1, kvs, rfl, by omega, ?_⟩
        obtain ⟨vs', m1, m2, m3⟩ := merge_rep (acc := []) (vs := []) (more := kvs) (us := p.2) List.nodup_nil .nil g2 (fun _ h => by cases h) g3
        have tt := t0.trans t1
        have hm : mergeD [] [] p.1 p.2 = ((mergeK [] kvs).map (fun p => keyD p.1), vs') := by rw [g1]; exact m1
        rw [hm] at k
        exact k F1 _ _ (tt.updO ha k1.2 hca) ⟨a, _, rfl, ha, upd_same, k1.2, hca, .dK rfl m3 m2⟩
      · cases ef
end
end Mi

set_option Elab.async false
set_option linter.all false
set_option maxRecDepth 100000
set_option maxHeartbeats 4000000
namespace L2
open PySem PySem.Spec PyProof.Rows
section
variable {P : Program} {w : World} {A : Around} {E : Value → Shared → Prop} {s : Shared}
/-- set(xs) of a list of ints, with what sorted asks of it -/
theorem mi_set_list {l : Addr} {items : Array Value} (ns : List Int) {Q : Value → Shared → Prop} (hh : A.handled = none) (hl : s.heap.IsList l items) (hit : IntsAre items.toList ns) (hb : ns.length + 1 < scanBound)
    (h : ∀ (h' : Heap) (tk c : Nat), SetR w h' s.heap.objs.size (fun j => decide (j ∈ ns)) c → (∀ b o, s.heap.get? b = some o → h'.get? b = some o) → Q (.ref s.heap.objs.size) { s with heap := h', toks := tk }) :
    wpAny (model P w) A (call (.type "set") [.ref l]) Q E s := by
  have sz : items.size = ns.length := by
    have q := IntsAre.length hit
    rwa [Array.length_toList] at q
  obtain ⟨c, tl, hmro⟩ := F.called_set.mro
  have hmade := F.called_set.made
  have hsub := F.called_set.sub
  have h1 := F.called_set.notType
  have h2 := F.called_set.canCreate
  have hct := F.typeCall_set_1 (.ref l)
  refine wpAny_call (codeAny_of_tree ?_)
  show wpAny _ _ (callAny (.type "set") _) _ _ _
  refine wpAny_pure ⟨Code.quiet_builtin _ (by decide +kernel), codeAny_builtin F.entry_type_call ?_⟩
  rw [Around.under_plain (weight_type_call_type "set" [.ref l] []) rfl]
  repeat (any_goals (first | assumption | wp_step))
  refine codeAny_mono (code_set_led1 (.ref l) (E := E) (Q₁ := fun obj s₁ => obj = .ref s.heap.objs.size ∧ s₁ = { s with heap := s.heap.push { cls := .type "set", dict := none, data := .set #[] 0 (.fresh 0 0 (!w.params.followText "set-order")) } }) ⟨rfl, rfl⟩) fun r s₁ hr => ?_
  match r, hr with
  | .error e, hr => exact hr
  | .ok (.ret obj), hr =>
    obtain ⟨rfl, rfl⟩ := hr
    have hS : (s.heap.push { cls := .type "set", dict := none, data := .set #[] 0 (.fresh 0 0 (!w.params.followText "set-order")) }).get? s.heap.objs.size = some { cls := .type "set", dict := none, data := .set #[] 0 (.fresh 0 0 (!w.params.followText "set-order")) } := Heap.get?_push_size _ rfl
    have hT : Shared.TypeIs { s with heap := s.heap.push { cls := .type "set", dict := none, data := .set #[] 0 (.fresh 0 0 (!w.params.followText "set-order")) } } (.ref s.heap.objs.size) "set" := ⟨_, hS, rfl⟩
    have hli := F.called_set.init.lookup
    have hbi := F.called_set.init.bind (.ref s.heap.objs.size)
    repeat (any_goals (first | assumption | wp_step))
    refine codeAny_mono (codeAny_call_builtin (R := wants (fun r s₂ => r = .none ∧ ∃ h' tk c, s₂ = { s with heap := h', toks := tk } ∧ SetR w h' s.heap.objs.size (fun j => decide (j ∈ ns)) c ∧
        (∀ b o, s.heap.get? b = some o → h'.get? b = some o)) E) F.called_set.init.plain F.entry_set_init (check_set_init_1 hT ?_)) fun r₂ s₂ hr₂ => ?_
    · obtain ⟨⟨ocls, odict, odata, oslots⟩, hol, hcl, nl, hdl⟩ := hl
      simp only at hcl hdl
      subst hcl; subst hdl
      have hlS : l < s.heap.objs.size := Heap.lt_size hol
      have hsz : (s.heap.push { cls := .type "set", dict := none, data := .set #[] 0 (.fresh 0 0 (!w.params.followText "set-order")) }).objs.size = s.heap.objs.size + 1 := Heap.size_push ..
      have hol' : (s.heap.push { cls := .type "set", dict := none, data := .set #[] 0 (.fresh 0 0 (!w.params.followText "set-order")) }).get? l = some { cls := .type "list", dict := odict, data := .seq items nl, slots := oslots } := Heap.get?_push_of_some _ hol
      have hsls := F.sub_list_set
      have hslf := F.sub_list_frozenset
      have hne : (Value.type "list" == Value.type "dict") = false := by decide
      have hl1 : (s.heap.push { cls := .type "set", dict := none, data := .set #[] 0 (.fresh 0 0 (!w.params.followText "set-order")) }).IsList l items := ⟨_, hol', rfl, nl, rfl⟩
      unfold Builtin.«set.__init__» noKeywords Builtin.Frozenset.updateFrom
      generalize hPI : pyIter = PI
      wp_walk
      subst hPI
      refine wpAny_pyIter_list hl1 ?_
      refine wpAny_bind (wpAny_runValue ?_)
      have apart : l ≠ (s.heap.push { cls := .type "set", dict := none, data := .set #[] 0 (.fresh 0 0 (!w.params.followText "set-order")) }).objs.size := by rw [hsz]; exact Nat.ne_of_lt (Nat.lt_succ_of_lt hlS)
      refine set_update_ints ((Walks.list (by simp [hh] : A.in1.in1.in1.handled = none) _ l apart items).toS) s.heap.objs.size (by rw [hsz]; simp only [List.mem_cons, List.not_mem_nil, or_false, not_or]; exact ⟨Nat.ne_of_lt (Nat.lt_succ_self _), Nat.ne_of_gt hlS⟩) ns sz hb (fun i v hv => ?_) (items.size - 0) 0 _ (by omega) (Nat.zero_le _)
        ⟨⟨_, Heap.get?_push_size _ rfl, rfl, rfl⟩, (hl1.push _)⟩ ⟨0, Nat.le_refl 0, setR_new_at (Heap.get?_push_of_some _ hS)⟩ fun s' c' hm hc' hS' => ?_
      · have hi : i < ns.length := by rw [← sz]; exact (Array.getElem?_eq_some_iff.mp hv).1
        obtain ⟨t, e⟩ := PyProof.Rows.IntsAre.int_at hit i v (by rw [Array.getElem?_toList]; exact hv)
        exact ⟨ns[i], t, List.getElem?_eq_getElem hi, by rw [e, List.getD_eq_getElem?_getD, List.getElem?_eq_getElem hi] <;> rfl⟩
      · obtain ⟨h', g2, d', tk', os'⟩ := s'
        obtain rfl : g2 = s.gens := hm.gens
        obtain rfl : d' = s.drawn := hm.drawn
        obtain rfl : os' = s.os := hm.os
        show wpAny _ _ _ _ _ _
        refine wpAny_pure ?_
        show wpAny _ _ (ret Value.none) _ _ _
        refine wpAny_pure ⟨rfl, h', tk', c', rfl, hS', fun b o e => ?_⟩
        have hb0 : b < s.heap.objs.size := Heap.lt_size e
        exact hm.heap b o (by rw [hsz]; simp only [List.mem_cons, List.not_mem_nil, or_false, not_or]; exact ⟨Nat.ne_of_lt hb0, Nat.ne_of_lt (Nat.lt_succ_of_lt hb0)⟩) (Heap.get?_push_of_some _ (Heap.get?_push_of_some _ e))
    · match r₂, hr₂ with
      | .error e, hr₂ => exact hr₂
      | .ok (.ret r), hr₂ =>
        obtain ⟨rfl, h', tk, c', rfl, hS', hk'⟩ := hr₂
        repeat (any_goals (first | assumption | wp_step))
        exact h _ _ _ hS' hk'
      | .ok .next, hr₂ => exact hr₂.elim
      | .ok .brk, hr₂ => exact hr₂.elim
      | .ok .cont, hr₂ => exact hr₂.elim
  | .ok .next, hr => exact hr.elim
  | .ok .brk, hr => exact hr.elim
  | .ok .cont, hr => exact hr.elim
end
end L2

set_option Elab.async false
set_option linter.all false
set_option maxRecDepth 100000
set_option maxHeartbeats 4000000
namespace Mi
open PySem PySem.Spec PyProof.Rows L2

section
variable {W : Wd} {X : Cx} {cl : Call}
theorem dedupI_mem : ∀ (l : List Int) (k : Int), k ∈ dedupI l ↔ k ∈ l
  | [], k => Iff.rfl
  | x :: xs, k => by
    unfold dedupI
    split
    · rename_i h
      rw [List.contains_iff_mem] at h
      rw [dedupI_mem xs k, List.mem_cons]
      refine ⟨.inr, fun h2 => h2.elim (fun e => ?_) id⟩
      subst e
      exact (dedupI_mem xs k).mp h
    · rw [List.mem_cons, List.mem_cons, dedupI_mem xs k]
theorem dedupI_nodup : ∀ l : List Int, (dedupI l).Nodup
  | [] => List.nodup_nil
  | x :: xs => by
    unfold dedupI
    split
    · exact dedupI_nodup xs
    · rename_i h
      rw [List.nodup_cons]
      exact ⟨fun q => h (List.contains_iff_mem.mpr q), dedupI_nodup xs⟩
theorem nodup_perm {l m : List Int} (h1 : l.Nodup) (h2 : m.Nodup) (h : ∀ k, k ∈ l ↔ k ∈ m) : l.Perm m := (List.perm_ext_iff_of_nodup h1 h2).mpr h
theorem setR_len {w : World} {h : Heap} {a : Addr} {ns : List Int} {c : Nat} (R : SetR w h a (fun j => decide (j ∈ ns)) c) : c = (dedupI ns).length := by
  obtain ⟨o, es, ep, t, ho, hex, hd, g, nd, hm, hb, hf, hn, hr, hl⟩ := R
  have := nodup_perm nd (dedupI_nodup ns) fun k => by rw [← hm k, decide_eq_true_eq, dedupI_mem]
  have := this.length_eq
  rw [List.length_map, Array.length_toList] at this
  omega
/-- set(xs) of a list of ints -/
def rSetR (K : PySem.W.Frag) (w : World) : List V → Hp → VK → Prop := fun vs H Q => ∃ (l : Addr) (ns : List Int), vs = [.ref l] ∧ SqL K H l (ns.map V.int) ∧ ns.length < 4000 ∧ ∀ D, H D = none → Q (.ref D) (upd H D (SetO w D (fun j => decide (j ∈ ns)) (dedupI ns).length))
theorem cr_setR (hc : X.calm = true) : CallR X (.type "set") (rSetR X.K X.w) := by
  intro pins s σ H xs us Q I r h
  obtain ⟨l, ns, rfl, hs, h4, q⟩ := h
  rw [Vals.ref1 r]
  obtain ⟨its, rv, pl, hz⟩ := I.list hs
  refine mi_set_list ns (I.ok.hd hc) pl.isList (by simpa using RZ.intsAre_vals rv) (by unfold scanBound; omega) fun h' tk c R hk => ?_
  have hc := setR_len R
  subst hc
  have hn : H s.heap.objs.size = none := I.hok.fresh (Nat.le_refl _)
  exact ⟨.ref s.heap.objs.size, upd H s.heap.objs.size (SetO X.w s.heap.objs.size (fun j => decide (j ∈ ns)) (dedupI ns).length), I.laid (t' := tk) (fun b u e => hk b u e) (Nat.le_refl _) (setO_new R), rfl, q _ hn⟩
theorem f_sortedSet {m : E} {a : Expr} {p p2 q pos : Pos} (hK : X.K = W.K) (hc : X.calm = true) (hg : Gl X "sorted") (hm : X.mg "sorted" = none) (hg2 : Gl X "set") (hm2 : X.mg "set" = none) (ha : PE X a (tR W cl m)) (hs : notStar a = true) :
    PE X (.Call (.Name "sorted" p) [.Call (.Name "set" p2) [a] [] q] [] pos) (tF W cl (.bi .sortedSet (.cons m .nil))) :=
  (pe_callB (cr_sortedSet hc) hg hm (by decide +kernel) (pa_cons (pe_callTy (cr_setR hc) hg2 hm2 (by decide +kernel) (ar_cons ha ar_nil hs) (by decide) (by decide) (star_cons hs) rfl) pa_nil rfl) (by decide) (by decide) rfl rfl).imp fun σ H Q ⟨H0, F, σd, C, d, C', rl, q, k⟩ => by
    simp only [ev, evs] at q
    obtain ⟨ds, C1, e1, q⟩ := R.bind_ok q
    obtain ⟨ef, rfl⟩ := R.of_ok q
    obtain ⟨d1, C2, e2, e1⟩ := R.bind_ok e1
    cases e1
    match d1, ef, e2 with
    | .lst xs, ef, e2 =>
      have ef' : (intsD xs).bind (fun ns => if xs.length < 4000 ∧ (dedupI ns).length < 64 then some (D.lst ((sortI (dedupI ns)).map .int)) else none) = some d := ef
      cases ex : intsD xs with
      | none => rw [ex] at ef'; cases ef'
      | some ns =>
        rw [ex] at ef'
        have ef' : (if xs.length < 4000 ∧ (dedupI ns).length < 64 then some (D.lst ((sortI (dedupI ns)).map .int)) else none) = some d := ef'
        split at ef'
        · rename_i hlt
          cases ef'
          refine ⟨H0, F, σd, C, [.lst xs], _, rl, by simp only [evs]; rw [e2], fun F1 H1 vs t1 r1 => ?_⟩
          obtain ⟨v, rfl, r2⟩ := r1.one_inv
          obtain ⟨l, ws, rfl, h1, h2⟩ := r2.lst_inv t1.sub
          have hv := h2.ints ex
          subst hv
          have hlen : ns.length = xs.length := by rw [h2.len, List.length_map]
          refine ⟨l, ns, rfl, SqL.of h1, by omega, fun D hD => ?_⟩
          refine ⟨D, _, _, rfl, upd_same, hlt.2, fun ys p hp hmem _ hq => ?_⟩
          have t2 := Stp.tmp (o := SetO X.w D (fun j => decide (j ∈ ns)) (dedupI ns).length) t1.sub t1.cell hD
          have : ys = sortI (dedupI ns) := by
            refine sorted_uniq (hp.imp fun h => Int.le_of_lt h) (sortI_pw _) ?_
            refine (nodup_perm (hp.imp fun h => Int.ne_of_lt h) (dedupI_nodup ns) fun j => ?_).trans (sortI_perm _).symm
            rw [hmem j, decide_eq_true_eq, dedupI_mem]
          subst this
          exact fr_new (t1.trans t2) hq (.lst (Reps.of_ints _)) k
        · cases ef'
end
end Mi

set_option Elab.async false
set_option linter.all false
set_option maxRecDepth 100000
set_option maxHeartbeats 4000000
namespace Mi
open PySem PySem.Spec PyProof.Rows L2

/-! ### many new things at once -/
def putM : Hp → List (Addr × HO) → Hp
  | H, [] => H
  | H, p :: r => putM (upd H p.1 p.2) r
theorem putM_off {b : Addr} : ∀ {ps : List (Addr × HO)} {H : Hp}, b ∉ ps.map (·.1) → putM H ps b = H b
  | [], _, _ => rfl
  | p :: r, H, h => by
    rw [List.map_cons, List.mem_cons, not_or] at h
    show putM (upd H p.1 p.2) r b = H b
    rw [putM_off h.2, upd_ne h.1]
theorem putM_at : ∀ {ps : List (Addr × HO)} {H : Hp}, (ps.map (·.1)).Nodup → ∀ p ∈ ps, putM H ps p.1 = some p.2
  | [], _, _, p, hp => by cases hp
  | q :: r, H, h, p, hp => by
    rw [List.map_cons, List.nodup_cons] at h
    show putM (upd H q.1 q.2) r p.1 = some p.2
    rcases List.mem_cons.mp hp with rfl | hp
    · rw [putM_off h.1, upd_same]
    · exact putM_at h.2 p hp
theorem inv_many {X : Cx} {pins : List (Addr × Obj)} {σ : L2.St} {H : Hp} {s : Shared} {h' : Heap} {tk : Nat} {ps : List (Addr × HO)} (I : Inv X pins σ H s) (hk : ∀ b o, s.heap.get? b = some o → h'.get? b = some o) (hn : (ps.map (·.1)).Nodup) (hb : ∀ p ∈ ps, s.heap.objs.size ≤ p.1)
    (ho : ∀ p ∈ ps, ObjOk X.prog X.w (putM H ps) h' p.1 p.2) : Inv X pins σ (putM H ps) { s with heap := h', toks := tk } := by
  have new : ∀ b ∈ ps.map (·.1), H b = none := fun b hm => by
    obtain ⟨p, hp, rfl⟩ := List.mem_map.mp hm
    exact I.hok.fresh (hb p hp)
  have low : ∀ b o, s.heap.get? b = some o → b ∉ ps.map (·.1) := fun b o e hm => by
    obtain ⟨p, hp, rfl⟩ := List.mem_map.mp hm
    exact absurd (Heap.lt_size e) (Nat.not_lt.mpr (hb p hp))
  have kp : ∀ b u, H b = some u → putM H ps b = some u := fun b u e => by
    rw [putM_off fun hm => by rw [new b hm] at e; cases e]
    exact e
  refine I.call' (ch := []) rfl ⟨fun b o q _ _ _ => hk b o q, fun b o q _ _ _ => ⟨o.slots, hk b o q⟩, fun b o q n _ => ?_, fun b o q _ => ⟨o, hk b o q⟩, fun b xs q => kp b _ q, fun b o u q => kp b _ q, fun b ps' q => ⟨#[], by rw [kp b _ q]; simp⟩⟩ (fun b u q => ?_) I.bare fun b z => by simp at z
  · rw [putM_off (low b o q)]
    exact n
  · by_cases hm : b ∈ ps.map (·.1)
    · obtain ⟨p, hp, rfl⟩ := List.mem_map.mp hm
      rw [putM_at hn p hp] at q
      cases q
      exact ho p hp
    · rw [putM_off hm] at q
      exact (I.hok b u q).stay (fun d v _ y => hk d v y) (fun d y => kp d _ y) fun d xs y => kp d _ y

/-! ### the order of pairs -/
theorem lexP_iff {p q : Int × Int} : lexP p q = true ↔ p.1 < q.1 ∨ (p.1 = q.1 ∧ p.2 < q.2) := by
  unfold lexP
  rw [Bool.or_eq_true, Bool.and_eq_true, decide_eq_true_eq, decide_eq_true_eq, decide_eq_true_eq]
theorem lexP_no {p q : Int × Int} : lexP p q = false ↔ ¬ (p.1 < q.1 ∨ (p.1 = q.1 ∧ p.2 < q.2)) := by
  rw [← lexP_iff]
  cases lexP p q <;> simp
theorem lexP_eq (p q : Int × Int) : SrtO.lexB p q = lexP p q := by
  cases h : lexP p q with
  | true => exact SrtO.lexB_iff.mpr (lexP_iff.mp h)
  | false => exact SrtO.lexB_no.mpr (lexP_no.mp h)
theorem insP_perm (x : Int × Int) : ∀ l : List (Int × Int), (insP x l).Perm (x :: l)
  | [] => List.Perm.refl _
  | y :: ys => by
    unfold insP
    split
    · exact ((insP_perm x ys).cons y).trans (List.Perm.swap x y ys)
    · exact List.Perm.refl _
theorem sortP_perm : ∀ l : List (Int × Int), (sortP l).Perm l
  | [] => List.Perm.refl _
  | x :: xs => (insP_perm x _).trans ((sortP_perm xs).cons x)
abbrev SrtP (l : List (Int × Int)) : Prop := l.Pairwise fun x y => lexP y x = false
theorem insP_pw (x : Int × Int) : ∀ {l : List (Int × Int)}, SrtP l → SrtP (insP x l)
  | [], _ => List.pairwise_singleton _ _
  | y :: ys, h => by
    unfold insP
    rw [SrtP, List.pairwise_cons] at h
    split
    · rename_i hxy
      refine List.pairwise_cons.mpr ⟨fun z hz => ?_, insP_pw x h.2⟩
      rcases List.mem_cons.mp ((insP_perm x ys).mem_iff.mp hz) with rfl | hz
      · rw [lexP_no]; have := lexP_iff.mp hxy; omega
      · exact h.1 z hz
    · rename_i hxy
      have hxy := lexP_no.mp (Bool.eq_false_iff.mpr hxy)
      refine List.pairwise_cons.mpr ⟨fun z hz => ?_, List.pairwise_cons.mpr h⟩
      rcases List.mem_cons.mp hz with rfl | hz
      · rw [lexP_no]; omega
      · have := lexP_no.mp (h.1 z hz)
        rw [lexP_no]; omega
theorem sortP_pw : ∀ l : List (Int × Int), SrtP (sortP l)
  | [] => List.Pairwise.nil
  | x :: xs => insP_pw x (sortP_pw xs)
theorem sortedP_uniq : ∀ {l m : List (Int × Int)}, SrtP l → SrtP m → l.Perm m → l = m
  | [], m, _, _, h => (List.Perm.eq_nil h.symm).symm
  | x :: l, [], _, _, h => absurd h.length_eq (by simp)
  | x :: l, y :: m, hl, hm, h => by
    rw [SrtP, List.pairwise_cons] at hl hm
    have e : x = y := by
      have a1 : ¬ (y.1 < x.1 ∨ (y.1 = x.1 ∧ y.2 < x.2)) := by
        rcases List.mem_cons.mp (h.mem_iff.mpr List.mem_cons_self) with e | e
        · rw [e]; omega
        · exact lexP_no.mp (hl.1 y e)
      have a2 : ¬ (x.1 < y.1 ∨ (x.1 = y.1 ∧ x.2 < y.2)) := by
        rcases List.mem_cons.mp (h.mem_iff.mp List.mem_cons_self) with e | e
        · rw [e]; omega
        · exact lexP_no.mp (hm.1 x e)
      exact Prod.ext (by omega) (by omega)
    subst e
    rw [sortedP_uniq hl.2 hm.2 h.cons_inv]
/-- the two ints of a tuple of the heap -/
def kH (h : Heap) (u : Value) : Int × Int := match u with
  | .ref a => match h.get? a with
    | some o => match o.data with
      | .seq its _ => (SrtO.iv (its.getD 0 .none), SrtO.iv (its.getD 1 .none))
      | _ => (0, 0)
    | none => (0, 0)
  | _ => (0, 0)
section
variable {W : Wd} {X : Cx} {cl : Call}
/-- sorted(d.items()), d from ints to ints -/
def tSortItems (te : TE) : TE := fun σ H Q => te σ H fun x H1 => ∃ (d : Addr) (ns ms : List Int), x = .ref d ∧ ns.length = ms.length ∧ Rd H1 d (.dK ((ns.zip ms).map fun p => (Sum.inl p.1, V.int p.2))) ∧
  ∀ (bs : List Addr) (L : Addr), (∀ b ∈ L :: bs, H1 b = none) → (L :: bs).Nodup → bs.length = (ns.zip ms).length →
    Q (.ref L) (putM H1 ((List.zipWith (fun b (p : Int × Int) => (b, HO.tup [V.int p.1, V.int p.2])) bs (sortP (ns.zip ms))) ++ [(L, .lst (bs.map V.ref))]))
theorem keys_zip (ns ms : List Int) (h : ns.length = ms.length) (vs : List (Key × Value)) (kv : KV ((ns.zip ms).map fun p => ((Sum.inl p.1 : Key), V.int p.2)) vs) : ∀ (j : Nat) (k : Key) (x : Value), vs[j]? = some (k, x) → ∃ a b t, (ns.zip ms)[j]? = some (a, b) ∧ k = Sum.inl a ∧ x = .int b t := by
  intro j k x hj
  have hl := Paired.length kv
  have hj' : j < vs.length := (List.getElem?_eq_some_iff.mp hj).1
  cases e : (ns.zip ms)[j]? with
  | none =>
    rw [List.getElem?_eq_none_iff] at e
    rw [List.length_map] at hl
    omega
  | some p =>
    obtain ⟨q, g1, g2, g3⟩ := LiI.paired_get kv (i := j) (x := ((Sum.inl p.1 : Key), V.int p.2)) (by rw [List.getElem?_map, e]; rfl)
    rw [hj] at g1
    cases g1
    obtain ⟨t, rfl⟩ := g3
    exact ⟨p.1, p.2, t, rfl, g2.symm, rfl⟩
theorem pe_sortItems {e : Expr} {te : TE} {p apos cpos pos : Pos} (hc : X.calm = true) (he : PE X e te) (hg : Gl X "sorted") (hm : X.mg "sorted" = none) (hbase : attributeBase e "items" X.env (eval e X.env) = eval e X.env) (hline : (apos.endLine == cpos.line) = true) :
    PE X (.Call (.Name "sorted" p) [.Call (.Attribute e "items" apos) [] [] cpos] [] pos) (tSortItems te) := by
  refine ⟨fun pins s σ H Q I hq => ?_⟩
  refine wpAny_Call_Name_kw (ld_blt I hg hm PyProof.Rows.boot_sorted ?_)
  refine PyProof.Rows.callWith_builtin1 (PyProof.Rows.args_cons ?_ rfl) rfl rfl
  refine wpAny_Call_method (T := "dict") (id := "dict.items") hbase rfl hline PySem.F.plainAttrs_dict PySem.F.slot_dict_items PySem.F.type_dict_items (thn (he.run pins s σ H _ I hq) fun u s1 ⟨x, H1, I1, rx, d, ns, ms, ex, hnm, hd, q⟩ => ?_)
  subst ex
  obtain rfl : u = Value.ref d := rx
  obtain ⟨hz, hs0, vs, kv, hdo⟩ := dk_rd I1.hok hd
  obtain ⟨ep, hat⟩ := hdo.dictAt
  have lk := Paired.length kv
  rw [List.length_map] at lk hz
  have I2 : Inv X pins σ H1 { s1 with heap := s1.heap.push { cls := .type "dict_items", data := .fields #[.ref d] } } := I1.kept (t' := s1.toks) fun b ob q => Heap.get?_push_of_some _ q
  refine ⟨hdo.typeIs, hdo.mapOf.noDict, ?_⟩
  show wpAny _ _ (callWith cpos (.builtin "dict.items") [.ref d] [] []) _ X.xe s1
  refine method_meetsIn PySem.F.slot_dict_items PySem.F.entry_dict_items rfl (PySem.evalArgs_none ⟨rfl, hdo.typeIs, PySem.F.args_dict_items_1 _, _, meets_dict_items (mixKind X.prog X.w) d hs0, ⟨vs, hdo⟩, ?_⟩)
  refine PyProof.Rows.args_nil ?_
  refine Calls.call_function_entry PyProof.Rows.kind_sorted PyProof.Rows.plain_sorted PyProof.Rows.entry_sorted (PyProof.Rows.args_sorted1 _) ?_
  unfold Builtin.«sorted»
  refine wpAny_bind (m := checkCount "sorted" 1 1 _) (wpAny_pure ?_)
  refine wpAny_bind (PySem.W.kdx_collect (knd := mixKind X.prog X.w) (kvs := vs) (ep := ep) (A := X.A.in1) (I1.ok.hd hc) ⟨_, Heap.get?_push_size _ rfl, rfl, rfl⟩ (hat.push _) (by omega) fun h' tk as hk hl hG => ?_)
  generalize hs2 : ({ s1 with heap := s1.heap.push { cls := .type "dict_items", data := .fields #[.ref d] } } : Shared) = s2 at I2 hk hG
  have hs2h : s2.heap = s1.heap.push { cls := .type "dict_items", data := .fields #[.ref d] } := by rw [← hs2]
  have pr : ∀ (j : Nat) (a : Addr), as[j]? = some a → ∃ x y t t', (ns.zip ms)[j]? = some (x, y) ∧ h'.get? a = some { cls := .type "tuple", data := .seq #[.int x t, .int y t'] } := fun j a ha => by
    obtain ⟨key, k, x, f1, f2, f3⟩ := hG.pairs j a ha
    obtain ⟨i, b, t', g1, g2, g3⟩ := keys_zip ns ms hnm vs kv j k x f1
    subst g2; subst g3
    rcases keyIs_shape (show keyIs (Sum.inl i) key = true from f2) with ⟨i', t, ek, ev⟩ | ⟨z, t, ek, ev⟩
    · cases ek
      subst ev
      exact ⟨_, _, t, t', g1, f3⟩
    · cases ek
  have hsz : as.length = (ns.zip ms).length := by omega
  have kas : as.map (fun a => kH h' (.ref a)) = ns.zip ms := by
    apply List.ext_getElem?
    intro j
    rw [List.getElem?_map]
    cases ea : as[j]? with
    | none =>
      rw [List.getElem?_eq_none_iff] at ea
      rw [List.getElem?_eq_none (by omega)]; rfl
    | some a =>
      obtain ⟨x, y, t, t', g1, g2⟩ := pr j a ea
      rw [g1]
      show some (kH h' (.ref a)) = _
      unfold kH
      simp only [g2]
      rfl
  have kget : ∀ {j : Nat} {a : Addr} {x y : Int} {t t' : Tok}, as[j]? = some a → h'.get? a = some { cls := .type "tuple", data := .seq #[.int x t, .int y t'] } → kH h' (.ref a) = (x, y) := fun {j a x y t t'} _ g2 => by
    unfold kH
    simp only [g2]
    rfl
  have hrise : as.Nodup := List.Pairwise.imp (fun {a b} (h : a < b) => Nat.ne_of_lt h) hG.rise
  have habove : ∀ a ∈ as, s2.heap.objs.size ≤ a := fun a ha => Nat.le_of_lt (hG.above a ha)
  have hbelow : ∀ a ∈ as, a < h'.objs.size := fun a ha => hG.there ha
  have hLge : s2.heap.objs.size ≤ h'.objs.size := by
    cases e0 : as with
    | nil =>
      obtain ⟨o, ho⟩ : ∃ o, s2.heap.get? s1.heap.objs.size = some o := ⟨_, by rw [hs2h]; exact Heap.get?_push_size _ rfl⟩
      have := Heap.lt_size (hk _ _ ho)
      rw [hs2h, Heap.size_push]
      exact this
    | cons a r =>
      have h1 := habove a (by rw [e0]; exact List.mem_cons_self)
      have h2 := hbelow a (by rw [e0]; exact List.mem_cons_self)
      exact Nat.le_trans h1 (Nat.le_of_lt h2)
  refine wpAny_bind (wpAny_newList ?_ (by rw [List.length_map, hsz]; omega))
  have hoL : (h'.push (seqObj "list" (as.map Value.ref).toArray 0)).get? h'.objs.size = some (seqObj "list" (as.map Value.ref).toArray 0) := Heap.get?_push_size _ rfl
  show wpAny _ _ _ _ _ { s2 with heap := h'.push (seqObj "list" (as.map Value.ref).toArray 0), toks := tk }
  have hpair : ∀ v ∈ as.map Value.ref, Srt.IsPair (h'.push (seqObj "list" (as.map Value.ref).toArray 0)) v (kH h' v).1 (kH h' v).2 := fun v hv => by
    obtain ⟨a, ha, rfl⟩ := List.mem_map.mp hv
    obtain ⟨j, hj⟩ := List.mem_iff_getElem?.mp ha
    obtain ⟨x, y, t, t', _, g2⟩ := pr j a hj
    rw [kget hj g2]
    exact ⟨a, _, t, t', _, rfl, Heap.get?_push_of_some _ g2, rfl, rfl⟩
  refine wpAny_bind (wpAny_holding (wpAny_call_entry PyProof.Rows.slot_list_sort ⟨_, hoL, rfl⟩ PyProof.Rows.entry_list_sort
    (SrtO.list_sort_ord (s := { s2 with heap := h'.push (seqObj "list" (as.map Value.ref).toArray 0), toks := tk }) (SrtO.swo_lex (kH h')) hoL (by rw [List.length_map, hsz]; omega) (fun h2 => SrtO.pairs_sortableO (by omega) hpair fun o eo => ?_) fun out o1 o2 => ⟨_, rfl, ?_⟩) (PyProof.Rows.args_list_sort _)))
  · have e' : some o = some (seqObj "list" (as.map Value.ref).toArray 0) := eo.symm.trans hoL
    cases e'
    intro c
    exact absurd (Value.type.inj c) (by decide)
  · obtain ⟨e', he'⟩ := PyProof.Rows.sortedHeap_at (vs := as.map Value.ref) (out := out.toArray) hoL
    obtain ⟨bs, rfl⟩ : ∃ bs : List Addr, out = bs.map Value.ref := by
      refine ⟨out.map fun u => match u with | .ref a => a | _ => 0, ?_⟩
      rw [List.map_map]
      conv => lhs; rw [← List.map_id out]
      refine List.map_congr_left fun u hu => ?_
      obtain ⟨a, _, rfl⟩ := List.mem_map.mp (o2.perm.mem_iff.mp hu)
      rfl
    have hperm : bs.Perm as := by
      have := o2.perm.map (fun u : Value => match u with | .ref a => a | _ => (0 : Addr))
      rw [List.map_map, List.map_map] at this
      have id2 : ((fun u : Value => match u with | .ref a => a | _ => (0 : Addr)) ∘ Value.ref) = id := rfl
      rw [id2, List.map_id, List.map_id] at this
      exact this
    have hkb : bs.map (fun a => kH h' (.ref a)) = sortP (ns.zip ms) := by
      refine sortedP_uniq ?_ (sortP_pw _) ((hperm.map _).trans (by rw [kas]; exact (sortP_perm _).symm))
      have := o1
      rw [SrtO.Srtd, List.pairwise_map] at this
      rw [SrtP, List.pairwise_map]
      exact this.imp fun h => by rw [← lexP_eq]; exact h
    have hbl : bs.length = (ns.zip ms).length := by rw [hperm.length_eq, hsz]
    have hmem : ∀ b ∈ bs, b ∈ as := fun b hb => hperm.mem_iff.mp hb
    have hLn : h'.objs.size ∉ bs := fun hm => Nat.lt_irrefl _ (hbelow _ (hmem _ hm))
    have hnd : (h'.objs.size :: bs).Nodup := List.nodup_cons.mpr ⟨hLn, (hperm.nodup_iff).mpr hrise⟩
    have fresh : ∀ b ∈ h'.objs.size :: bs, s2.heap.objs.size ≤ b := fun b hb => by
      rcases List.mem_cons.mp hb with rfl | hb
      · exact hLge
      · exact habove b (hmem b hb)
    have hz1 : List.map (fun x : Addr × HO => x.1) (List.zipWith (fun b (p : Int × Int) => (b, HO.tup [V.int p.1, V.int p.2])) bs (sortP (ns.zip ms))) = bs := by
      rw [List.map_zipWith]
      apply List.ext_getElem?
      intro j
      rw [List.getElem?_zipWith]
      have hl2 : (sortP (ns.zip ms)).length = bs.length := by rw [(sortP_perm _).length_eq, hbl]
      cases e1 : bs[j]? with
      | none => rfl
      | some b =>
        have hj : j < (sortP (ns.zip ms)).length := by rw [hl2]; exact (List.getElem?_eq_some_iff.mp e1).1
        rw [List.getElem?_eq_getElem hj]
    have old : ∀ b o, h'.get? b = some o → (sortedHeap (h'.push (seqObj "list" (as.map Value.ref).toArray 0)) h'.objs.size (as.map Value.ref) (bs.map Value.ref).toArray).get? b = some o := fun b o eb => by
      have hb : b < h'.objs.size := Heap.lt_size eb
      rw [PyProof.Rows.sortedHeap_old (Nat.ne_of_lt hb) (by rw [Heap.size_push]; exact Nat.lt_succ_of_lt hb)]
      exact Heap.get?_push_of_some _ eb
    refine wpAny_pure ⟨_, rfl, .ref h'.objs.size, _, inv_many (s := s2) (tk := tk) I2 (fun b o eb => old b o (hk b o eb)) ?_ ?_ ?_, rfl, q bs h'.objs.size (fun b hb => I2.hok.fresh (fresh b hb)) hnd hbl⟩
    · rw [List.map_append, hz1]
      exact (List.perm_append_comm.nodup_iff).mp hnd
    · intro p hp
      refine fresh p.1 ?_
      rcases List.mem_append.mp hp with hp | hp
      · exact List.mem_cons_of_mem _ (by rw [← hz1]; exact List.mem_map_of_mem hp)
      · rw [List.mem_singleton] at hp
        subst hp
        exact List.mem_cons_self
    · intro p hp
      rcases List.mem_append.mp hp with hp | hp
      · obtain ⟨j, hj⟩ := List.mem_iff_getElem?.mp hp
        rw [List.getElem?_zipWith] at hj
        cases e1 : bs[j]? with
        | none => rw [e1] at hj; cases hj
        | some b =>
          cases e2 : (sortP (ns.zip ms))[j]? with
          | none => rw [e1, e2] at hj; cases hj
          | some xy =>
            rw [e1, e2] at hj
            cases hj
            have hb := hmem b (List.mem_of_getElem? e1)
            obtain ⟨i, hi⟩ := List.mem_iff_getElem?.mp hb
            obtain ⟨x, y, t, t', _, g2⟩ := pr i b hi
            have hk2 : kH h' (.ref b) = xy := by
              have := congrArg (fun l => l[j]?) hkb
              simp only [List.getElem?_map, e1, e2] at this
              exact Option.some.inj this
            rw [kget hi g2] at hk2
            subst hk2
            exact ⟨by show 2 ≤ sizeLine; decide, [.int x t, .int y t'], .cons ⟨t, rfl⟩ (.cons ⟨t', rfl⟩ .nil), ⟨_, old b _ g2, rfl, _, rfl⟩⟩
      · rw [List.mem_singleton] at hp
        subst hp
        exact ⟨by rw [List.length_map, hbl]; omega, bs.map Value.ref, e', LiI.vals_refs bs, he'⟩
theorem zip_kvs : ∀ {kvs : List (Key × V)} {ks vs : List D} {ns ms : List Int} {F : Hp}, ks = kvs.map (fun p => keyD p.1) → Reps W F vs (kvs.map (·.2)) → intsD ks = some ns → intsD vs = some ms → kvs = (ns.zip ms).map (fun p => (Sum.inl p.1, V.int p.2)) ∧ ns.length = ms.length
  | kvs, ks, vs, ns, ms, F, h1, h2, h3, h4 => by
    subst h1
    have e1 := keys_ints h3
    have e2 := h2.ints h4
    have l1 : kvs.length = ns.length := by have := congrArg List.length e1; rwa [List.length_map, List.length_map] at this
    have l2 : kvs.length = ms.length := by have := congrArg List.length e2; rwa [List.length_map, List.length_map] at this
    refine ⟨?_, by omega⟩
    apply List.ext_getElem?
    intro j
    have c1 := congrArg (fun l : List Key => l[j]?) e1
    have c2 := congrArg (fun l : List V => l[j]?) e2
    simp only [List.getElem?_map] at c1 c2
    rw [List.getElem?_map]
    show _ = Option.map _ (List.zipWith Prod.mk ns ms)[j]?
    rw [List.getElem?_zipWith]
    cases e : kvs[j]? with
    | none =>
      rw [List.getElem?_eq_none_iff] at e
      rw [List.getElem?_eq_none (by omega : ns.length ≤ j)]
      rfl
    | some p =>
      rw [e] at c1 c2
      cases f1 : ns[j]? with
      | none => rw [f1] at c1; cases c1
      | some a =>
        cases f2 : ms[j]? with
        | none => rw [f2] at c2; cases c2
        | some b =>
          rw [f1] at c1
          rw [f2] at c2
          have d1 := Option.some.inj c1
          have d2 := Option.some.inj c2
          have d1 : p.1 = Sum.inl a := d1
          have d2 : p.2 = V.int b := d2
          show some p = some (Sum.inl a, V.int b)
          rw [← d1, ← d2]
theorem putM_app {H : Hp} : ∀ (ps qs : List (Addr × HO)) (H : Hp), putM H (ps ++ qs) = putM (putM H ps) qs
  | [], _, _ => rfl
  | p :: r, qs, H => putM_app (H := H) r qs (upd H p.1 p.2)
theorem f_sortedItems {m : E} {e : Expr} {p apos cpos pos : Pos} (hK : X.K = W.K) (hc : X.calm = true) (he : PE X e (tR W cl m)) (hg : Gl X "sorted") (hm : X.mg "sorted" = none) (hb : plainBase e = true) (hline : (apos.endLine == cpos.line) = true) :
    PE X (.Call (.Name "sorted" p) [.Call (.Attribute e "items" apos) [] [] cpos] [] pos) (tF W cl (.bi .sortedItems (.cons m .nil))) :=
  (pe_sortItems hc he hg hm (base_of hb _ _) hline).imp fun σ H Q ⟨H0, F, σd, C, d, C', rl, q, k⟩ => by
    simp only [ev, evs] at q
    obtain ⟨ds, C1, e1, q⟩ := R.bind_ok q
    obtain ⟨ef, rfl⟩ := R.of_ok q
    obtain ⟨d1, C2, e2, e1⟩ := R.bind_ok e1
    cases e1
    match d1, ef, e2 with
    | .dct 0 ks vs, ef, e2 =>
      have ef' : (intsD ks).bind (fun ns => (intsD vs).bind fun ms => some (D.lst ((sortP (List.zip ns ms)).map fun p => .tup [.int p.1, .int p.2]))) = some d := ef
      cases ex : intsD ks with
      | none => rw [ex] at ef'; cases ef'
      | some ns =>
        cases ey : intsD vs with
        | none => rw [ex, ey] at ef'; cases ef'
        | some ms =>
          rw [ex, ey] at ef'
          cases ef'
          refine ⟨H0, F, σd, C, _, _, rl, e2, fun F1 H1 x t1 r1 => ?_⟩
          obtain ⟨a, o, rfl, g1, g2⟩ := r1.dct_inv t1.sub
          cases g2 with
          | @dK _ _ kvs x1 x2 x3 =>
            obtain ⟨z1, z2⟩ := zip_kvs x1 x3 ex ey
            subst z1
            refine ⟨a, ns, ms, rfl, z2, g1, fun bs L hn hnd hl => ?_⟩
            have hl2 : (sortP (ns.zip ms)).length = bs.length := by rw [(sortP_perm _).length_eq, hl]
            generalize hps : List.zipWith (fun b (p : Int × Int) => (b, HO.tup [V.int p.1, V.int p.2])) bs (sortP (ns.zip ms)) = ps
            have hz1 : ps.map (·.1) = bs := by
              rw [← hps, List.map_zipWith]
              apply List.ext_getElem?
              intro j
              rw [List.getElem?_zipWith]
              cases e1 : bs[j]? with
              | none => rfl
              | some b =>
                have hj : j < (sortP (ns.zip ms)).length := by rw [hl2]; exact (List.getElem?_eq_some_iff.mp e1).1
                rw [List.getElem?_eq_getElem hj]
            rw [List.nodup_cons] at hnd
            have hnp : (ps.map (·.1)).Nodup := by rw [hz1]; exact hnd.2
            have hLp : L ∉ ps.map (·.1) := by rw [hz1]; exact hnd.1
            have hnF : ∀ b ∈ L :: bs, F1 b = none := fun b hb => t1.sub.none_of (hn b hb)
            have hca : ∀ b ∈ L :: bs, W.ca ≠ some b := fun b hb => t1.cell.ne (hn b hb)
            have offb : ∀ b, H1 b ≠ none → b ∉ ps.map (·.1) := fun b h1 hm => h1 (hn b (List.mem_cons_of_mem _ (by rw [← hz1]; exact hm)))
            have offF : ∀ b, F1 b ≠ none → b ∉ ps.map (·.1) := fun b h1 hm => h1 (hnF b (List.mem_cons_of_mem _ (by rw [← hz1]; exact hm)))
            rw [putM_app (H := H1)]
            show Q (.ref L) (upd (putM H1 ps) L (.lst (bs.map V.ref)))
            have atH : ∀ b u, H1 b = some u → upd (putM H1 ps) L (.lst (bs.map V.ref)) b = some u := fun b u e => by
              rw [upd_ne (ne_of_none e (hn L List.mem_cons_self)), putM_off (offb b (by rw [e]; simp))]; exact e
            have sub : Sub (putM F1 ps) (upd (putM H1 ps) L (.lst (bs.map V.ref))) := fun b u e => by
              by_cases hm : b ∈ ps.map (·.1)
              · obtain ⟨p, hp, rfl⟩ := List.mem_map.mp hm
                rw [putM_at hnp p hp] at e
                cases e
                rw [upd_ne (fun z => hLp (by rw [← z]; exact hm)), putM_at hnp p hp]
              · rw [putM_off hm] at e
                exact atH b u (t1.sub b u e)
            have st : Stp W F1 H1 (putM F1 ps) C' (upd (putM H1 ps) L (.lst (bs.map V.ref))) := by
              refine ⟨fun b u e _ => atH b u e, fun b u e => by rw [putM_off (offF b (by rw [e]; simp))]; exact e, sub, fun b u e => ?_, ⟨fun c e => ⟨atH c _ (t1.cell.at_ c e).1, ?_⟩⟩, fun c e => ⟨_, (t1.cell.at_ c e).1⟩⟩
              · by_cases hm : b ∈ ps.map (·.1)
                · exact .inr (.inl (hn b (List.mem_cons_of_mem _ (by rw [← hz1]; exact hm))))
                · rw [putM_off hm] at e; exact .inl e
              · rw [putM_off (offb c (by rw [(t1.cell.at_ c e).1]; simp))]
                exact (t1.cell.at_ c e).2
            refine k _ _ _ (t1.trans st) ⟨L, _, rfl, t1.none_back (hn L List.mem_cons_self), upd_same, by rw [putM_off hLp]; exact hnF L List.mem_cons_self, hca L List.mem_cons_self, .lst ?_⟩
            have all : ∀ (bs' : List Addr) (l : List (Int × Int)), l.length = bs'.length → (∀ q ∈ List.zipWith (fun b (p : Int × Int) => (b, HO.tup [V.int p.1, V.int p.2])) bs' l, putM F1 ps q.1 = some q.2) → Reps W (putM F1 ps) (l.map fun p => .tup [.int p.1, .int p.2]) (bs'.map V.ref) := by
              intro bs'
              induction bs' with
              | nil =>
                intro l h1 _
                cases l with
                | nil => exact .nil
                | cons => cases h1
              | cons b bs' ih =>
                intro l h1 h2
                cases l with
                | nil => cases h1
                | cons p l =>
                  refine .cons (.tup (h2 (b, _) List.mem_cons_self) (.cons (.int _) (.one (.int _)))) (ih l (by simpa using h1) fun q hq => h2 q (List.mem_cons_of_mem _ hq))
            exact all bs _ hl2 fun q hq => putM_at hnp q (by rw [← hps]; exact hq)
end
end Mi

set_option Elab.async false
set_option linter.all false
set_option maxRecDepth 100000
set_option maxHeartbeats 4000000
namespace Mi
open PySem PySem.W PySem.SeqAt PyProof.Rows

/-! ## sorted: tuples of which some are empty; dicts -/
section
variable {prog : Program} {w : World} {A : Around} {E : Value → Shared → Prop} {s : Shared}
theorem call_tuple_lt {Q : Value → Shared → Prop} {l b : Addr} {items items2 : Array Value} {e r : Nat → Bool} (hl : s.heap.IsTuple l items) (hb : s.heap.IsTuple b items2)
    (he : ∀ j (h1 : j < items.size) (h2 : j < items2.size), EqAt A.in1 s items[j] items2[j] (e j)) (hr : ∀ j (h1 : j < items.size) (h2 : j < items2.size), e j = false → RcLt A.in1 s items[j] items2[j] (r j))
    (h : Q (.bool (firstLt e r (decide (items.size < items2.size)) (List.range (min items.size items2.size)))) s) : wpAny (model prog w) A (call (.builtin "tuple.__lt__") [.ref l, .ref b]) Q E s := by
  obtain ⟨⟨cls, dd, data, sl⟩, ho, hc, n, hd⟩ := id hl
  obtain ⟨⟨cls2, dd2, data2, sl2⟩, ho2, hc2, n2, hd2⟩ := id hb
  simp only at hc hd hc2 hd2
  subst hc hd hc2 hd2
  exact call_meets F.slot_tuple_lt ⟨_, ho, rfl⟩ F.entry_tuple_lt (F.args_tuple_lt_2 _ _) (tuple_ltAt l b items items2 n n2 dd dd2 sl sl2 e r) ⟨ho, ho2, he, hr, h⟩
theorem oneLt_tups {xs ys : List PyData} {a b : Value} {as bs : List Addr} {Q : Bool → Shared → Prop} (ra : Reads s.heap a (.tuple xs) as) (rb : Reads s.heap b (.tuple ys) bs) (h : alike (.tuple xs) (.tuple ys) = true)
    (hu : A.units + min (PyData.tuple xs).depth (PyData.tuple ys).depth < cLine) (hq : Q (dataLt (.tuple xs) (.tuple ys)) s) : wpAny (model prog w) A (oneLt' true a b) Q E s := by
  have hal : alikeAll xs ys = true := by simpa [alike] using h
  cases ra with
  | @tuple l o vs n _ as₁ h1 h2 h3 h4 =>
    cases rb with
    | @tuple l' o' vs' n' _ bs₁ k1 k2 k3 k4 =>
      have n1 : vs.size = xs.length := by simpa using ReadsAll.length _ _ _ h4
      have n2 : vs'.size = ys.length := by simpa using ReadsAll.length _ _ _ k4
      rw [dataLt_tuple, ← firstLt_toks xs ys hal, ← n1, ← n2] at hq
      rw [oneLt'_eq]
      simp only [if_true]
      refine wpAny_bind (wpAny_cRoomFor (room_here hu) ?_)
      refine wpAny_bind (wpAny_callSpecialIfBound?_slot (T := "tuple") ⟨_, h1, h2⟩ F.slot_tuple_lt (call_tuple_lt (e := pairEq xs ys) (r := fun j => dataLt (xs.getD j .none) (ys.getD j .none)) ⟨_, h1, h2, _, h3⟩ ⟨_, k1, k2, _, k3⟩ (fun j j1 j2 => ?_) (fun j j1 j2 hj => ?_) ?_))
      · have := eqAt_alikeAll xs ys A.in1 s vs.toList vs'.toList _ _ h4 k4 hal (room_in hu) j (by simpa using j1) (by simpa using j2)
        simpa using this
      · have := rcLt_alikeAll xs ys A.in1 s vs.toList vs'.toList _ _ h4 k4 hal (room_in hu) j (by simpa using j1) (by simpa using j2) hj
        simpa using this
      · exact wpAny_truthy_bool hq
/-- has a first item -/
def neB : PyData → Bool
  | .tuple (_ :: _) => true
  | _ => false
theorem firsts_tups : ∀ {vs : List Value} {ds : List PyData} {Q : List (Option Value) → Shared → Prop}, EachIs (fun v d => ∃ as, Reads s.heap v d as) vs ds → (∀ d ∈ ds, ∃ xs, d = .tuple xs) →
    (∀ fs : List (Option Value), fs.map (·.isSome) = ds.map neB → Q fs s) → wpAny (model prog w) A (vs.mapM firstOfTuple') Q E s
  | _, _, Q, .nil, _, h => by rw [List.mapM_nil]; exact wpAny_pure (h [] rfl)
  | _, _, Q, .cons (b := d) ⟨as, r⟩ t, ht, h => by
    obtain ⟨xs, rfl⟩ := ht d List.mem_cons_self
    rw [List.mapM_cons]
    refine wpAny_bind ?_
    rw [kas_first_eq]
    cases r with
    | @tuple a o ws n _ _ ho hc hd hr =>
      refine wpAny_bind (Looks.here (show Looks (model prog w) s.heap (typeOf (.ref a)) o.cls from (Looks.ld ho).andThen .now) ?_)
      rw [hc, if_neg (by first | decide | simp)]
      refine wpAny_bind (listItems_at ho hd (wpAny_pure ?_))
      refine wpAny_bind (firsts_tups (Q := fun bs s' => wpAny (model prog w) A (pure (ws[0]? :: bs)) Q E s') t (fun d hd => ht d (List.mem_cons_of_mem _ hd)) fun fs hf => wpAny_pure (h _ ?_))
      rw [List.map_cons, List.map_cons, hf]
      congr 1
      have hl := ReadsAll.length _ _ _ hr
      cases xs with
      | nil =>
        have : ws[0]? = none := by
          have e : ws.toList = [] := List.eq_nil_of_length_eq_zero hl
          rw [← Array.getElem?_toList, e]
          rfl
        rw [this]; rfl
      | cons x r =>
        have : ws[0]?.isSome = true := by
          have e : 0 < ws.toList.length := by rw [hl]; exact Nat.succ_pos _
          rw [← Array.getElem?_toList, List.getElem?_eq_getElem e]
          rfl
        rw [this]; rfl
/-- tuples, some of them empty -/
theorem sorts_tups {vs : List Value} {ds : List PyData} (e : EachIs (fun v d => ∃ as, Reads s.heap v d as) vs ds) (hal : AllAlike ds) (ht : ∀ d ∈ ds, ∃ xs, d = .tuple xs) (hu : ∀ d, d ∈ ds → A.units + d.depth < cLine) : SortsAt prog w A s (dataKind s.heap ds) vs := by
  by_cases hne : ∀ d ∈ ds, ∃ x r, d = .tuple (x :: r)
  · exact SortsAt.data e hal (.inl hne) hu
  have room : ∀ {d d' : PyData}, d ∈ ds → A.units + min d.depth d'.depth < cLine := fun {d d'} hd => Nat.lt_of_le_of_lt (Nat.add_le_add_left (Nat.min_le_left _ _) _) (hu d hd)
  have hall : (ds.all neB) = false := by
    cases hq : ds.all neB with
    | false => rfl
    | true =>
      refine absurd (fun d hd => ?_) hne
      have := List.all_eq_true.mp hq d hd
      obtain ⟨xs, rfl⟩ := ht d hd
      cases xs with
      | nil => cases this
      | cons x r => exact ⟨x, r, rfl⟩
  refine ⟨fun v hv => ?_, ?_⟩
  · obtain ⟨d, hd, as, r⟩ := e.left v hv
    exact ⟨_, dataKind_some hal hd r⟩
  · refine ⟨if ((ds[0]?).map neB).getD false = true then general' else oneType', fun E x y a b Q ha hb hq => ?_, fun h2 E Q hq => ?_⟩
    · obtain ⟨d, as, hd, ra, rfl⟩ := dataKind_inv ha
      obtain ⟨d', as', hd', rb, rfl⟩ := dataKind_inv hb
      obtain ⟨xs, rfl⟩ := ht d hd
      obtain ⟨ys, rfl⟩ := ht d' hd'
      split
      · exact oneLt_alike (f := false) (fun h => by cases h) ra rb (hal _ hd _ hd') (by simp) (room hd) hq
      · rw [keyLt'_oneType]
        exact oneLt_tups ra rb (hal _ hd _ hd') (room hd) hq
    · rw [keyKind'_eq, List.mapM_toArray, map_eq_pure_bind]
      refine wpAny_bind (wpAny_bind (firsts_tups e ht fun fs hf => wpAny_pure ?_))
      have h1 : (fs.toArray.all fun x => x.isSome) = false := by
        rw [List.all_toArray]
        have : fs.all (fun x => x.isSome) = (fs.map (·.isSome)).all id := by rw [List.all_map]; rfl
        rw [this, hf, List.all_map]
        exact hall
      rw [if_neg (by rw [h1]; simp)]
      have h0 : (fs.toArray[0]?.bind id).isSome = ((ds[0]?).map neB).getD false := by
        have := congrArg (fun l => l[0]?) hf
        simp only [List.getElem?_map] at this
        rw [List.getElem?_toArray]
        cases hfs : fs[0]? with
        | none =>
          rw [hfs] at this
          cases hds : ds[0]? with
          | none => rfl
          | some d => rw [hds] at this; cases this
        | some f =>
          rw [hfs] at this
          cases hds : ds[0]? with
          | none => rw [hds] at this; cases this
          | some d => rw [hds] at this; simpa using this
      rw [h0]
      split
      · rename_i hc
        rw [if_pos hc] at hq
        exact wpAny_pure hq
      · rename_i hc
        rw [if_neg hc] at hq
        rw [oneTypeOnly'_eq, List.mapM_toArray, map_eq_pure_bind]
        refine wpAny_bind (wpAny_bind (wpAny_bind (kas_mapM (r := Value.type "tuple") _ (fun v hv Q' hq => ?_) (wpAny_pure ?_))))
        · obtain ⟨d, hd, as, r⟩ := e.left v hv
          obtain ⟨xs, rfl⟩ := ht d hd
          exact (looks_reads r).here hq
        · have hall2 : ((List.map (fun _ => Value.type "tuple") vs).toArray.all fun x => x == Value.type "tuple") = true := by
            simp only [List.all_toArray, List.all_map, List.all_eq_true]
            intro _ _
            rfl
          have hv0 : (List.map (fun _ => Value.type "tuple") vs).toArray[0]? = some (Value.type "tuple") := by
            rw [List.getElem?_toArray, List.getElem?_map]
            cases vs with
            | nil => simp at h2
            | cons v vs => rfl
          rw [hv0]
          simp only [hall2, if_true]
          exact wpAny_pure (wpAny_pure hq)
end
end Mi

set_option Elab.async false
set_option linter.all false
set_option maxRecDepth 100000
set_option maxHeartbeats 4000000
namespace Mi
open PySem PySem.W PySem.SeqAt PyProof.Rows L2

/-! ### the order of data -/
mutual
theorem py_alike : ∀ a b : D, alikeD a b = true → okD a = true → okD b = true → alike (toPy a) (toPy b) = true
  | .non, b, h, _, _ => by cases b <;> first | rfl | (cases h)
  | .bl _, b, h, _, _ => by cases b <;> first | rfl | (cases h)
  | .int _, b, h, _, _ => by cases b <;> first | rfl | (cases h)
  | .str _, b, h, _, _ => by cases b <;> first | rfl | (cases h)
  | .tup xs, b, h, ha, hb => by
    cases b <;> first | (cases h; done) | skip
    rename_i ys
    show alikeAll (toPys xs) (toPys ys) = true
    exact py_alikes xs ys (by simpa [alikeD] using h) (by simpa [okD] using ha) (by simpa [okD] using hb)
  | .lst xs, b, h, ha, hb => by
    cases b <;> first | (cases h; done) | skip
    rename_i ys
    show alikeAll (toPys xs) (toPys ys) = true
    exact py_alikes xs ys (by simpa [alikeD] using h) (by simpa [okD] using ha) (by simpa [okD] using hb)
  | .dct _ _ _, _, _, h, _ => by cases h
  | .fn _, _, _, h, _ => by cases h
  | .cell, _, _, h, _ => by cases h
  | .frl _, _, _, h, _ => by cases h
  | .frt _, _, _, h, _ => by cases h
  | .frd _ _, _, _, h, _ => by cases h
theorem py_alikes : ∀ as bs : List D, alikeDs as bs = true → okDs as = true → okDs bs = true → alikeAll (toPys as) (toPys bs) = true
  | [], _, _, _, _ => by simp [toPys, alikeAll]
  | _ :: _, [], _, _, _ => by simp [toPys, alikeAll]
  | a :: as, b :: bs, h, ha, hb => by
    rw [alikeDs, Bool.and_eq_true] at h
    rw [okDs, Bool.and_eq_true] at ha hb
    rw [toPys, toPys, alikeAll, py_alike a b h.1 ha.1 hb.1, py_alikes as bs h.2 ha.2 hb.2]; rfl
end
mutual
theorem py_lt : ∀ a b : D, alikeD a b = true → okD a = true → okD b = true → dataLt (toPy a) (toPy b) = ltB a b
  | .non, b, h, ha, hb => by
    cases b <;> first | (cases h; done) | skip
    exact lex_irrefl _
  | .bl x, b, h, ha, hb => by
    cases b <;> first | (cases h; done) | skip
    rename_i y
    show dataLt (.bool x) (.bool y) = _
    rw [dataLt_bool]
    cases x <;> cases y <;> rfl
  | .int x, b, h, ha, hb => by
    cases b <;> first | (cases h; done) | skip
    rename_i y
    exact dataLt_int x y
  | .str x, b, h, ha, hb => by
    cases b <;> first | (cases h; done) | skip
    rename_i y
    show dataLt (.str (toS x)) (.str (toS y)) = _
    rw [dataLt_str, ltB]
    show decide ((toS x).cps.toList < (toS y).cps.toList) = _
    have e : ∀ z : List Nat, (toS z).cps.toList = z := fun z => by simp [toS]
    rw [e, e]
  | .tup xs, b, h, ha, hb => by
    cases b <;> first | (cases h; done) | skip
    rename_i ys
    show dataLt (.tuple (toPys xs)) (.tuple (toPys ys)) = _
    rw [dataLt_tuple, ltB]
    exact py_lts xs ys (by simpa [alikeD] using h) (by simpa [okD] using ha) (by simpa [okD] using hb)
  | .lst xs, b, h, ha, hb => by
    cases b <;> first | (cases h; done) | skip
    rename_i ys
    show dataLt (.list (toPys xs)) (.list (toPys ys)) = _
    rw [dataLt_list, ltB]
    exact py_lts xs ys (by simpa [alikeD] using h) (by simpa [okD] using ha) (by simpa [okD] using hb)
  | .dct _ _ _, _, _, h, _ => by cases h
  | .fn _, _, _, h, _ => by cases h
  | .cell, _, _, h, _ => by cases h
  | .frl _, _, _, h, _ => by cases h
  | .frt _, _, _, h, _ => by cases h
  | .frd _ _, _, _, h, _ => by cases h
theorem py_lts : ∀ as bs : List D, alikeDs as bs = true → okDs as = true → okDs bs = true → PyProof.Rows.lexLt itemOrd (keyToksAll (toPys as)) (keyToksAll (toPys bs)) = ltBs as bs
  | [], [], _, _, _ => by simp [toPys, keyToksAll, ltBs, lex_irrefl]
  | [], b :: bs, _, _, _ => by
    rw [toPys, toPys, toks_all_cons]
    simp only [keyToksAll]
    rw [lex_diff (O := itemOrd) (by simp)]
    simp [itemLt, ltBs]
  | a :: as, [], _, _, _ => by
    rw [toPys, toPys, toks_all_cons]
    simp only [keyToksAll]
    rw [lex_diff (O := itemOrd) (by simp)]
    simp [itemLt, ltBs]
  | a :: as, b :: bs, h, ha, hb => by
    rw [alikeDs, Bool.and_eq_true] at h
    rw [okDs, Bool.and_eq_true] at ha hb
    rw [toPys, toPys, dataLt_cons (py_alike a b h.1 ha.1 hb.1), py_eqv a b ha.1 hb.1, py_lt a b h.1 ha.1 hb.1, py_lts as bs h.2 ha.2 hb.2, ltBs]
end
mutual
/-- equal and alike: the same -/
theorem eq_alike : ∀ a b : D, alikeD a b = true → okD a = true → okD b = true → eqD a b = true → a = b
  | .non, b, h, _, _, _ => by cases b <;> first | rfl | (cases h)
  | .bl x, b, h, _, _, e => by
    cases b <;> first | (cases h; done) | skip
    simp only [eqD, beq_iff_eq] at e
    rw [e]
  | .int x, b, h, _, _, e => by
    cases b <;> first | (cases h; done) | skip
    simp only [eqD, beq_iff_eq] at e
    rw [e]
  | .str x, b, h, _, _, e => by
    cases b <;> first | (cases h; done) | skip
    simp only [eqD, beq_iff_eq] at e
    rw [e]
  | .tup xs, b, h, ha, hb, e => by
    cases b <;> first | (cases h; done) | skip
    rename_i ys
    rw [eq_alikes xs ys (by simpa [alikeD] using h) (by simpa [okD] using ha) (by simpa [okD] using hb) (by simpa [eqD] using e)]
  | .lst xs, b, h, ha, hb, e => by
    cases b <;> first | (cases h; done) | skip
    rename_i ys
    rw [eq_alikes xs ys (by simpa [alikeD] using h) (by simpa [okD] using ha) (by simpa [okD] using hb) (by simpa [eqD] using e)]
  | .dct _ _ _, _, _, h, _, _ => by cases h
  | .fn _, _, _, h, _, _ => by cases h
  | .cell, _, _, h, _, _ => by cases h
  | .frl _, _, _, h, _, _ => by cases h
  | .frt _, _, _, h, _, _ => by cases h
  | .frd _ _, _, _, h, _, _ => by cases h
theorem eq_alikes : ∀ as bs : List D, alikeDs as bs = true → okDs as = true → okDs bs = true → eqDs as bs = true → as = bs
  | [], [], _, _, _, _ => rfl
  | [], _ :: _, _, _, _, e => by cases e
  | _ :: _, [], _, _, _, e => by cases e
  | a :: as, b :: bs, h, ha, hb, e => by
    rw [alikeDs, Bool.and_eq_true] at h
    rw [okDs, Bool.and_eq_true] at ha hb
    rw [eqDs, Bool.and_eq_true] at e
    rw [eq_alike a b h.1 ha.1 hb.1 e.1, eq_alikes as bs h.2 ha.2 hb.2 e.2]
end
mutual
theorem eqD_comm : ∀ a b : D, eqD a b = eqD b a
  | .non, b => by cases b <;> rfl
  | .bl x, b => by
    cases b <;> first | rfl | skip
    · rename_i y; cases x <;> cases y <;> rfl
    · rename_i y; cases x <;> simp only [eqD] <;> exact Bool.beq_comm
  | .int x, b => by
    cases b <;> first | rfl | skip
    · rename_i y; cases y <;> simp only [eqD] <;> exact Bool.beq_comm
    · rename_i y; simp only [eqD]; exact Bool.beq_comm
  | .str x, b => by
    cases b <;> first | rfl | skip
    simp only [eqD]; exact Bool.beq_comm
  | .tup xs, b => by
    cases b <;> first | rfl | skip
    rename_i ys; simp only [eqD]; exact eqDs_comm xs ys
  | .lst xs, b => by
    cases b <;> first | rfl | skip
    rename_i ys; simp only [eqD]; exact eqDs_comm xs ys
  | .dct _ _ _, b => by cases b <;> rfl
  | .fn _, b => by cases b <;> rfl
  | .cell, b => by cases b <;> rfl
  | .frl _, b => by cases b <;> rfl
  | .frt _, b => by cases b <;> rfl
  | .frd _ _, b => by cases b <;> rfl
theorem eqDs_comm : ∀ as bs : List D, eqDs as bs = eqDs bs as
  | [], [] => rfl
  | [], _ :: _ => rfl
  | _ :: _, [] => rfl
  | a :: as, b :: bs => by rw [eqDs, eqDs, eqD_comm a b, eqDs_comm as bs]
end
mutual
/-- neither less: equal -/
theorem lt_tri : ∀ a b : D, alikeD a b = true → ltB a b = false → ltB b a = false → eqD a b = true
  | .non, b, h, _, _ => by cases b <;> first | rfl | (cases h)
  | .bl x, b, h, h1, h2 => by
    cases b <;> first | (cases h; done) | skip
    rename_i y
    cases x <;> cases y <;> first | rfl | (cases h1; done) | (cases h2; done)
  | .int x, b, h, h1, h2 => by
    cases b <;> first | (cases h; done) | skip
    simp only [ltB, decide_eq_false_iff_not] at h1 h2
    simp only [eqD, beq_iff_eq]
    omega
  | .str x, b, h, h1, h2 => by
    cases b <;> first | (cases h; done) | skip
    rename_i y
    simp only [ltB, decide_eq_false_iff_not] at h1 h2
    simp only [eqD, beq_iff_eq]
    exact List.le_antisymm (List.not_lt.mp h2) (List.not_lt.mp h1)
  | .tup xs, b, h, h1, h2 => by
    cases b <;> first | (cases h; done) | skip
    rename_i ys
    rw [eqD]
    exact lt_tris xs ys (by simpa [alikeD] using h) (by simpa [ltB] using h1) (by simpa [ltB] using h2)
  | .lst xs, b, h, h1, h2 => by
    cases b <;> first | (cases h; done) | skip
    rename_i ys
    rw [eqD]
    exact lt_tris xs ys (by simpa [alikeD] using h) (by simpa [ltB] using h1) (by simpa [ltB] using h2)
  | .dct _ _ _, b, h, _, _ => by cases b <;> cases h
  | .fn _, b, h, _, _ => by cases b <;> cases h
  | .cell, b, h, _, _ => by cases b <;> cases h
  | .frl _, b, h, _, _ => by cases b <;> cases h
  | .frt _, b, h, _, _ => by cases b <;> cases h
  | .frd _ _, b, h, _, _ => by cases b <;> cases h
theorem lt_tris : ∀ as bs : List D, alikeDs as bs = true → ltBs as bs = false → ltBs bs as = false → eqDs as bs = true
  | [], [], _, _, _ => rfl
  | [], _ :: _, _, h1, _ => by cases h1
  | _ :: _, [], _, _, h2 => by cases h2
  | a :: as, b :: bs, h, h1, h2 => by
    rw [alikeDs, Bool.and_eq_true] at h
    rw [ltBs] at h1 h2
    rw [eqDs]
    by_cases e : eqD a b = true
    · have e2 : eqD b a = true := by rw [eqD_comm]; exact e
      rw [if_pos e] at h1
      rw [if_pos e2] at h2
      rw [e, lt_tris as bs h.2 h1 h2]; rfl
    · have e2 : ¬ eqD b a = true := by rw [eqD_comm]; exact e
      rw [if_neg e] at h1
      rw [if_neg e2] at h2
      exact absurd (lt_tri a b h.1 h1 h2) e
end
end Mi

set_option Elab.async false
set_option linter.all false
set_option maxRecDepth 100000
set_option maxHeartbeats 4000000
namespace Mi
open PySem PySem.Spec PySem.W PySem.SeqAt PyProof.Rows L2

/-! ### insertion sort is the sort -/
theorem insG_perm (lt : D → D → Bool) (x : D) : ∀ ys : List D, (insG lt x ys).Perm (x :: ys)
  | [] => List.Perm.refl _
  | y :: ys => by
    unfold insG
    split
    · exact ((insG_perm lt x ys).cons y).trans (List.Perm.swap x y ys)
    · exact List.Perm.refl _
theorem sortG_perm (lt : D → D → Bool) : ∀ xs : List D, (sortG lt xs).Perm xs
  | [] => List.Perm.refl _
  | x :: xs => (insG_perm lt x _).trans ((sortG_perm lt xs).cons x)
theorem insG_congr {lt lt' : D → D → Bool} (x : D) : ∀ ys : List D, (∀ y ∈ ys, lt y x = lt' y x) → insG lt x ys = insG lt' x ys
  | [], _ => rfl
  | y :: ys, h => by
    unfold insG
    rw [h y List.mem_cons_self, insG_congr x ys fun z hz => h z (List.mem_cons_of_mem _ hz)]
theorem sortG_congr {lt lt' : D → D → Bool} : ∀ xs : List D, (∀ a ∈ xs, ∀ b ∈ xs, lt a b = lt' a b) → sortG lt xs = sortG lt' xs
  | [], _ => rfl
  | x :: xs, h => by
    unfold sortG
    rw [sortG_congr xs fun a ha b hb => h a (List.mem_cons_of_mem _ ha) b (List.mem_cons_of_mem _ hb)]
    exact insG_congr x _ fun y hy => h y (List.mem_cons_of_mem _ ((sortG_perm lt' xs).mem_iff.mp hy)) x List.mem_cons_self
theorem insG_pw {lt : D → D → Bool} (ht : ∀ a b c, lt b a = false → lt c b = false → lt c a = false) (ha : ∀ a b, lt a b = true → lt b a = false) (x : D) : ∀ ys : List D, ys.Pairwise (fun a b => lt b a = false) → (insG lt x ys).Pairwise fun a b => lt b a = false
  | [], _ => by
    unfold insG
    exact List.pairwise_singleton _ _
  | y :: ys, h => by
    rw [List.pairwise_cons] at h
    unfold insG
    split
    · rename_i hlt
      rw [List.pairwise_cons]
      refine ⟨fun z hz => ?_, insG_pw ht ha x ys h.2⟩
      rcases List.mem_cons.mp ((insG_perm lt x ys).mem_iff.mp hz) with e | hz
      · rw [e]; exact ha y x hlt
      · exact h.1 z hz
    · rename_i hlt
      have hlt : lt y x = false := by simpa using hlt
      rw [List.pairwise_cons]
      refine ⟨fun z hz => ?_, List.pairwise_cons.mpr h⟩
      rcases List.mem_cons.mp hz with e | hz
      · rw [e]; exact hlt
      · exact ht x y z hlt (h.1 z hz)
theorem sortG_pw {lt : D → D → Bool} (ht : ∀ a b c, lt b a = false → lt c b = false → lt c a = false) (ha : ∀ a b, lt a b = true → lt b a = false) : ∀ xs : List D, (sortG lt xs).Pairwise fun a b => lt b a = false
  | [] => List.Pairwise.nil
  | x :: xs => insG_pw ht ha x _ (sortG_pw ht ha xs)
theorem le_total (a b : D) : dataLe false toPy a b = true ∨ dataLe false toPy b a = true := by
  have := (sortLe_total (O := listOrd itemOrd) (rev := false) (k := fun d => keyToks (toPy d)))
  exact this.total a b
theorem le_trans (a b c : D) (h1 : dataLe false toPy a b = true) (h2 : dataLe false toPy b c = true) : dataLe false toPy a c = true := by
  have := (sortLe_total (O := listOrd itemOrd) (rev := false) (k := fun d => keyToks (toPy d)))
  exact this.trans a b c h1 h2
theorem le_iff (a b : D) : dataLe false toPy a b = !dataLt (toPy b) (toPy a) := by rw [dataLe_eq]; rfl
theorem sortB_eq {xs : List D} (ho : okDs xs = true) (hal : (xs.all fun x => xs.all (alikeD x)) = true) : xs.mergeSort (dataLe false toPy) = sortB xs := by
  have ok : ∀ x ∈ xs, okD x = true := by
    clear hal
    induction xs with
    | nil => intro x hx; cases hx
    | cons y ys ih =>
      rw [okDs, Bool.and_eq_true] at ho
      intro x hx
      rcases List.mem_cons.mp hx with e | hx
      · rw [e]; exact ho.1
      · exact ih ho.2 x hx
  have al : ∀ x ∈ xs, ∀ y ∈ xs, alikeD x y = true := fun x hx y hy => List.all_eq_true.mp (List.all_eq_true.mp hal x hx) y hy
  let lt : D → D → Bool := fun a b => dataLt (toPy a) (toPy b)
  have e1 : sortB xs = sortG lt xs := sortG_congr xs fun a ha b hb => (py_lt a b (al a ha b hb) (ok a ha) (ok b hb)).symm
  have p1 := sortG_perm lt xs
  have s1 : (sortG lt xs).Pairwise fun a b => dataLe false toPy a b = true := by
    refine List.Pairwise.imp (fun {a b} h => ?_) (sortG_pw (lt := lt) (fun a b c h1 h2 => ?_) (fun a b h => ?_) xs)
    · rw [le_iff]; show (!lt b a) = true; rw [h]; rfl
    · have := le_trans a b c (by rw [le_iff]; show (!lt b a) = true; rw [h1]; rfl) (by rw [le_iff]; show (!lt c b) = true; rw [h2]; rfl)
      rw [le_iff] at this
      simpa [lt] using this
    · rcases le_total a b with q | q
      · rw [le_iff] at q; simpa [lt] using q
      · rw [le_iff] at q; have h : dataLt (toPy a) (toPy b) = true := h; rw [h] at q; cases q
  rw [e1]
  refine List.Perm.eq_of_pairwise (le := fun a b => dataLe false toPy a b = true) (fun a b ha hb h1 h2 => ?_) (List.pairwise_mergeSort (fun a b c => le_trans a b c) (fun a b => by simpa using le_total a b) xs) s1 ((List.mergeSort_perm _ _).trans p1.symm)
  have ha' := (List.mergeSort_perm xs (dataLe false toPy)).mem_iff.mp ha
  have hb' := p1.mem_iff.mp hb
  rw [le_iff] at h1 h2
  have l1 : ltB b a = false := by rw [← py_lt b a (al b hb' a ha') (ok b hb') (ok a ha')]; simpa using h1
  have l2 : ltB a b = false := by rw [← py_lt a b (al a ha' b hb') (ok a ha') (ok b hb')]; simpa using h2
  exact eq_alike a b (al a ha' b hb') (ok a ha') (ok b hb') (lt_tri a b (al a ha' b hb') l2 l1)

/-! ### sorted(xs), as a rule -/
section
variable {W : Wd} {X : Cx} {cl : Call}
def rSortD (K : PySem.W.Frag) : List V → Hp → VK → Prop := fun us H Q => ∃ (a : Addr) (vs : List V) (xs : List D) (R : V → D → Prop), us = [V.ref a] ∧ SqL K H a vs ∧ EachIs R vs xs ∧ DpAll K H vs (toPys xs) ∧ sortOk xs = true ∧ ∀ ws p, EachIs R ws (sortB xs) → H p = none → Q (.ref p) (upd H p (.lst ws))
theorem each_vals {R : V → D → Prop} : ∀ {vs : List V} {us : List Value} {xs : List D}, Vals vs us → EachIs R vs xs → EachIs (fun u d => ∃ v, RelV v u ∧ R v d) us xs
  | _, _, _, .nil, .nil => .nil
  | _, _, _, .cons r t, .cons h q => .cons ⟨_, r, h⟩ (each_vals t q)
theorem vals_each {R : V → D → Prop} : ∀ {us : List Value} {xs : List D}, EachIs (fun u d => ∃ v, RelV v u ∧ R v d) us xs → ∃ vs, Vals vs us ∧ EachIs R vs xs
  | _, _, .nil => ⟨[], .nil, .nil⟩
  | _, _, .cons ⟨v, r, h⟩ q => by
    obtain ⟨vs, h1, h2⟩ := vals_each q
    exact ⟨v :: vs, .cons r h1, .cons h h2⟩
theorem sortOk_inv {xs : List D} (h : sortOk xs = true) : okDs xs = true ∧ deps xs ≤ 100 ∧ (xs.all fun x => xs.all (alikeD x)) = true ∧ ((∀ x ∈ xs, ∃ ys, x = .tup ys) ∨ ∀ x ∈ xs, x ≠ .non ∧ ∀ ys, x ≠ .tup ys) ∧ xs.length ≤ sizeMost := by
  unfold sortOk at h
  simp only [Bool.and_eq_true, decide_eq_true_eq, Bool.or_eq_true] at h
  obtain ⟨⟨⟨⟨h1, h2⟩, h3⟩, h4⟩, h5⟩ := h
  refine ⟨h1, h2, h3, ?_, h5⟩
  rcases h4 with h4 | h4
  · refine .inl fun x hx => ?_
    have := List.all_eq_true.mp h4 x hx
    cases x <;> first | exact ⟨_, rfl⟩ | (cases this)
  · refine .inr fun x hx => ?_
    have := List.all_eq_true.mp h4 x hx
    refine ⟨fun e => ?_, fun ys e => ?_⟩
    · rw [e] at this; cases this
    · rw [e] at this; cases this
theorem dep_le : ∀ {xs : List D} {x : D}, x ∈ xs → dep x ≤ deps xs
  | y :: ys, x, h => by
    rw [deps]
    rcases List.mem_cons.mp h with e | h
    · rw [e]; exact Nat.le_max_left _ _
    · exact Nat.le_trans (dep_le h) (Nat.le_max_right _ _)
theorem ok_mem : ∀ {xs : List D} {x : D}, okDs xs = true → x ∈ xs → okD x = true
  | y :: ys, x, ho, h => by
    rw [okDs, Bool.and_eq_true] at ho
    rcases List.mem_cons.mp h with e | h
    · rw [e]; exact ho.1
    · exact ok_mem ho.2 h
theorem toPy_non {x : D} (ho : okD x = true) (h : x ≠ .non) : toPy x ≠ .none := by
  cases x <;> first | (cases ho; done) | (intro e; cases e; done) | exact absurd rfl h
theorem toPy_tup {x : D} (h : ∀ ys, x ≠ .tup ys) (zs : List PyData) : toPy x ≠ .tuple zs := by
  cases x <;> first | (intro e; cases e; done) | exact absurd rfl (h _)
/-- what is there can be sorted -/
theorem sorts_D {prog : Program} {w : World} {A : Around} {s : Shared} {us : List Value} {xs : List D} (hu : A.units + 100 < cLine) (ok : sortOk xs = true) (e : EachIs (fun v d => ∃ as, Reads s.heap v d as) us (xs.map toPy)) : SortsAt prog w A s (dataKind s.heap (xs.map toPy)) us := by
  obtain ⟨h1, h2, h3, h4, h5⟩ := sortOk_inv ok
  have hal : AllAlike (xs.map toPy) := fun d hd d' hd' => by
    obtain ⟨x, hx, rfl⟩ := List.mem_map.mp hd
    obtain ⟨y, hy, rfl⟩ := List.mem_map.mp hd'
    exact py_alike x y (List.all_eq_true.mp (List.all_eq_true.mp h3 x hx) y hy) (ok_mem h1 hx) (ok_mem h1 hy)
  have hd : ∀ d, d ∈ xs.map toPy → A.units + d.depth < cLine := fun d hd => by
    obtain ⟨x, hx, rfl⟩ := List.mem_map.mp hd
    rw [py_dep x (ok_mem h1 hx)]
    have := dep_le hx
    omega
  rcases h4 with h4 | h4
  · refine sorts_tups e hal (fun d hd => ?_) hd
    obtain ⟨x, hx, rfl⟩ := List.mem_map.mp hd
    obtain ⟨ys, rfl⟩ := h4 x hx
    exact ⟨_, rfl⟩
  · refine SortsAt.data e hal (.inr fun d hd => ?_) hd
    obtain ⟨x, hx, rfl⟩ := List.mem_map.mp hd
    exact ⟨toPy_non (ok_mem h1 hx) (h4 x hx).1, toPy_tup (h4 x hx).2⟩
theorem allAlike_of {xs : List D} (ok : sortOk xs = true) : AllAlike (xs.map toPy) := fun d hd d' hd' => by
  obtain ⟨h1, h2, h3, h4, h5⟩ := sortOk_inv ok
  obtain ⟨x, hx, rfl⟩ := List.mem_map.mp hd
  obtain ⟨y, hy, rfl⟩ := List.mem_map.mp hd'
  exact py_alike x y (List.all_eq_true.mp (List.all_eq_true.mp h3 x hx) y hy) (ok_mem h1 hx) (ok_mem h1 hy)
theorem cr_sortD (hu : X.A.units + 201 < cLine) : CallR X (.builtin "sorted") (rSortD X.K) := by
  intro pins s σ H us0 us Q I r h
  obtain ⟨a, vs, xs, R, rfl, hs, hR, hd, ok, q⟩ := h
  obtain ⟨its, rv, hl, hz⟩ := I.list hs
  obtain ⟨u, rfl, ru⟩ := vals1 r
  obtain rfl : u = Value.ref a := ru
  obtain ⟨as, ra⟩ := Dp.readsAll I (toPys xs) vs its hd rv
  rw [toPys_map] at ra
  have er := readsAll_each toPy ra
  have er' : EachIs (fun v b => ∃ as, Reads (sortingHeap (copyHeap s.heap its) (s.heap.objs.size + 1) its) v (toPy b) as) its xs := er.mono fun _ _ ⟨as, r⟩ => ⟨as, PyProof.Rows.Reads.keeps (fun _ _ => sorting_copy_old) r⟩
  have S : SortsAt X.prog X.w X.A.in1.in1 { s with heap := sortingHeap (copyHeap s.heap its) (s.heap.objs.size + 1) its } (dataKind (sortingHeap (copyHeap s.heap its) (s.heap.objs.size + 1) its) (xs.map toPy)) its :=
    sorts_D (s := { s with heap := sortingHeap (copyHeap s.heap its) (s.heap.objs.size + 1) its }) (by show X.A.units + 1 + 1 + 100 < cLine; omega) ok (each_map (R := fun v d => ∃ as, Reads (sortingHeap (copyHeap s.heap its) (s.heap.objs.size + 1) its) v d as) toPy er')
  have hL : its.length ≤ sizeLine := by rw [← rv.length]; exact hz
  have eo := sortVals_data false (each_vals rv hR) er' (allAlike_of ok)
  obtain ⟨h1, h2, h3, h4, h5⟩ := sortOk_inv ok
  rw [sortB_eq h1 h3] at eo
  refine sorted_vals hl.isList S hL ?_
  generalize sortVals (dataKind (sortingHeap (copyHeap s.heap its) (s.heap.objs.size + 1) its) (xs.map toPy)) false its its = out at eo
  obtain ⟨ws, w1, w2⟩ := vals_each eo
  obtain ⟨n, hn⟩ := sortedAll_at s.heap its out.toArray
  have hsz : ws.length ≤ sizeLine := by
    have a1 := w2.length
    have a2 := hR.length
    have a3 : (sortB xs).length = xs.length := (sortG_perm ltB xs).length_eq
    rw [a1, a3, ← a2]; exact hz
  exact ⟨.ref (s.heap.objs.size + 1), upd H (s.heap.objs.size + 1) (.lst ws), I.laid (t' := s.toks) (fun b o e => sortedAll_old e) (Nat.le_succ _) ⟨hsz, out, n, w1, hn⟩, rfl, q ws _ w2 (I.hok.fresh (Nat.le_succ _))⟩
end
end Mi

set_option Elab.async false
set_option linter.all false
set_option maxRecDepth 100000
set_option maxHeartbeats 4000000
namespace Mi
open PySem PySem.Spec PySem.W PySem.SeqAt PyProof.Rows L2

section
variable {W : Wd} {X : Cx} {cl : Call}
theorem dp_keys {K : PySem.W.Frag} {H : Hp} : ∀ k : List L2.Key, DpAll K H (k.map kV) (toPys (k.map keyD))
  | [] => .nil
  | .inl i :: r => .cons (.int i) (dp_keys r)
  | .inr s :: r => by
    refine .cons ?_ (dp_keys r)
    have : toPy (keyD (.inr s)) = .str s := by
      show PyData.str (toS s.cps.toList) = PyData.str s
      unfold toS
      simp
    rw [this]
    exact .str s
abbrev KeyR (H : Hp) (kvs : List (List L2.Key × V)) : V → D → Prop := fun v x => ∃ (b : Addr) (k : List L2.Key), v = V.ref b ∧ H b = some (.tup (k.map kV)) ∧ x = D.tup (k.map keyD) ∧ ∃ v', (k, v') ∈ kvs
def rSortDT : List V → Hp → VK → Prop := fun us H Q => ∃ (d : Addr) (kvs : List (List L2.Key × V)), us = [.ref d] ∧ Rd H d (.dT kvs) ∧ sortOk (kvs.map fun p => D.tup (p.1.map keyD)) = true ∧
  ∀ ws p, EachIs (KeyR H kvs) ws (sortB (kvs.map fun p => D.tup (p.1.map keyD))) → H p = none → Q (.ref p) (upd H p (.lst ws))
theorem keys_each {H : Hp} {kvs0 : List (List L2.Key × V)} : ∀ {kvs : List (List L2.Key × V)} {bs : List Addr}, (∀ p ∈ kvs, p ∈ kvs0) → IsKeys H kvs bs → EachIs (KeyR H kvs0) (bs.map V.ref) (kvs.map fun p => D.tup (p.1.map keyD))
  | [], [], _, _ => .nil
  | [], _ :: _, _, h => by cases h
  | _ :: _, [], _, h => by cases h
  | p :: kvs, b :: bs, hm, h => by
    cases h with
    | cons h1 h2 => exact .cons ⟨b, p.1, rfl, h1, rfl, p.2, hm _ List.mem_cons_self⟩ (keys_each (fun q hq => hm q (List.mem_cons_of_mem _ hq)) h2)
theorem call_sortedDT (hc : X.calm = true) (hu : X.A.units + 201 < cLine) : CallR X (.builtin "sorted") rSortDT := by
  intro pins s σ H us0 us Q I r h
  obtain ⟨d, kvs, rfl, hd, ok, q⟩ := h
  obtain ⟨u, rfl, rx⟩ := r.one
  cases rx
  obtain ⟨h1, h2, h3, h4, h5⟩ := sortOk_inv ok
  obtain ⟨z, hs, ks, pr, o, es, ep, ho, hx, hdt, he, hn⟩ := (show ObjOk X.prog X.w H s.heap d (.dT kvs) from hd.ok I.hok)
  have l1 : es.size = ks.length := size_of_entries he
  have l2 : kvs.length = ks.length := Paired.length pr
  have hL : kvs.length ≤ sizeLine := by rw [List.length_map] at h5; exact h5
  refine Calls.call_function_entry PyProof.Rows.kind_sorted PyProof.Rows.plain_sorted PyProof.Rows.entry_sorted (PyProof.Rows.args_sorted1 _) ?_
  unfold Builtin.«sorted»
  refine wpAny_bind (m := checkCount "sorted" 1 1 _) (wpAny_pure ?_)
  refine wpAny_bind (PySem.W.kdu_collect (A := X.A.in1) (kdl_raw hs hx hdt) (I.ok.hd hc) ho (by omega) fun h' tk acc hk hacc => ?_)
  have ea : acc.toList = ks.map fun x => Value.ref x.2.1 := by
    have hl : acc.toList.length = ks.length := by rw [Array.length_toList, hacc.1]; exact l1
    apply List.ext_getElem?
    intro j
    rw [List.getElem?_map]
    cases hj : acc.toList[j]? with
    | none =>
      have h1 := List.getElem?_eq_none_iff.mp hj
      rw [List.getElem?_eq_none (by omega)]
      all_goals rfl
    | some v =>
      obtain ⟨en, hen, hv⟩ := hacc.2 j v (by rw [← Array.getElem?_toList]; exact hj)
      have qe := entry_at he j
      rw [hen] at qe
      cases hb : ks[j]? with
      | none =>
        rw [hb] at qe
        exact nomatch (show some en = none from qe)
      | some b =>
        rw [hb] at qe
        have e2 : en = entryOfKey (tupleKind (mixKind X.prog X.w)) b := Option.some.inj qe
        rw [hv, e2]
        all_goals rfl
  have eb : acc.toList = (ks.map fun x => x.2.1).map Value.ref := by rw [ea, List.map_map]; all_goals rfl
  have rv : Vals ((ks.map fun x => x.2.1).map V.ref) acc.toList := by rw [eb]; exact vals_refs _
  have hal : acc.toList.length = kvs.length := by rw [← rv.length, List.length_map, List.length_map, l2]
  have hR := keys_each (H := H) (kvs0 := kvs) (fun p hp => hp) (isKeys_of pr)
  have I1 : Inv X pins σ H { s with heap := h', toks := tk } := I.kept hk
  refine wpAny_bind (wpAny_newList ?_ (by rw [hal]; exact hL))
  have hoL : (h'.push (seqObj "list" acc.toList.toArray 0)).get? h'.objs.size = some (seqObj "list" acc.toList.toArray 0) := Heap.get?_push_size _ rfl
  show wpAny _ _ _ _ _ { s with heap := h'.push (seqObj "list" acc.toList.toArray 0), toks := tk }
  have er : EachIs (fun v b => ∃ as, Reads (sortingHeap (h'.push (seqObj "list" acc.toList.toArray 0)) h'.objs.size acc.toList) v (toPy b) as) acc.toList (kvs.map fun p => D.tup (p.1.map keyD)) := by
    refine (each_vals rv hR).mono fun u x ⟨v, r1, b, k, e1, e2, e3, _⟩ => ?_
    subst e1 e3
    obtain ⟨as, g⟩ := Dp.reads I1 (toPy (.tup (k.map keyD))) (.ref b) u (.tup (.inl (.inl e2)) (dp_keys k)) r1
    refine ⟨as, PyProof.Rows.Reads.keeps (fun c ob hc => ?_) g⟩
    have hlt : c < h'.objs.size := Heap.lt_size hc
    exact sortingHeap_old (Nat.ne_of_lt hlt) (Heap.get?_push_of_some _ hc)
  have S : SortsAt X.prog X.w X.A.in1.in1 { s with heap := sortingHeap (h'.push (seqObj "list" acc.toList.toArray 0)) h'.objs.size acc.toList, toks := tk } (dataKind (sortingHeap (h'.push (seqObj "list" acc.toList.toArray 0)) h'.objs.size acc.toList) ((kvs.map fun p => D.tup (p.1.map keyD)).map toPy)) acc.toList :=
    sorts_D (s := { s with heap := sortingHeap (h'.push (seqObj "list" acc.toList.toArray 0)) h'.objs.size acc.toList, toks := tk }) (by show X.A.units + 1 + 1 + 100 < cLine; omega) ok (each_map (R := fun v d => ∃ as, Reads (sortingHeap (h'.push (seqObj "list" acc.toList.toArray 0)) h'.objs.size acc.toList) v d as) toPy er)
  have eo := sortVals_data false (each_vals rv hR) er (allAlike_of ok)
  rw [sortB_eq h1 h3] at eo
  refine wpAny_bind (wpAny_holding (wpAny_call_entry PyProof.Rows.slot_list_sort ⟨_, hoL, rfl⟩ PyProof.Rows.entry_list_sort
    (list_sort_vals (s := { s with heap := h'.push (seqObj "list" acc.toList.toArray 0), toks := tk }) hoL S (by rw [hal]; exact hL) ⟨_, rfl, ?_⟩) (PyProof.Rows.args_list_sort _)))
  generalize sortVals (dataKind (sortingHeap (h'.push (seqObj "list" acc.toList.toArray 0)) h'.objs.size acc.toList) ((kvs.map fun p => D.tup (p.1.map keyD)).map toPy)) false acc.toList acc.toList = out at eo
  obtain ⟨ws, w1, w2⟩ := vals_each eo
  obtain ⟨e', he'⟩ := PyProof.Rows.sortedHeap_at (vs := acc.toList) (out := out.toArray) hoL
  have hsz : ws.length ≤ sizeLine := by
    have a1 := w2.length
    have a3 : (sortB (kvs.map fun p => D.tup (p.1.map keyD))).length = kvs.length := by unfold sortB; rw [(sortG_perm ltB _).length_eq, List.length_map]
    rw [a1, a3]; exact hL
  refine wpAny_pure ⟨_, rfl, .ref h'.objs.size, upd H h'.objs.size (.lst ws), I1.laid (t' := tk) (fun b u e => ?_) (Nat.le_refl _)
    (show ObjOk X.prog X.w _ _ _ (.lst ws) from ⟨hsz, out, e', w1, he'⟩), rfl, q ws _ w2 (I1.hok.fresh (Nat.le_refl _))⟩
  have hb : b < h'.objs.size := Heap.lt_size e
  rw [PyProof.Rows.sortedHeap_old (Nat.ne_of_lt hb) (by rw [size_push']; exact Nat.lt_succ_of_lt hb)]
  exact Heap.get?_push_of_some _ e

/-! ### sorted, all together -/
def rSortAll (K : PySem.W.Frag) : List V → Hp → VK → Prop := fun xs H Q => (rSortA K xs H Q ∨ rSortD K xs H Q) ∨ rSortDT xs H Q
theorem cr_sortAll (hc : X.calm = true) (hu : X.A.units + 201 < cLine) : CallR X (.builtin "sorted") (rSortAll X.K) := ((cr_sortA hc).or (cr_sortD hu)).or (call_sortedDT hc hu)
theorem each_reps {F : Hp} : ∀ {vs : List V} {ds : List D}, EachIs (fun v d => Rep W F d v) vs ds → Reps W F ds vs
  | _, _, .nil => .nil
  | _, _, .cons h t => .cons h (each_reps t)
theorem reps_each {F : Hp} : ∀ {vs : List V} {ds : List D}, Reps W F ds vs → EachIs (fun v d => Rep W F d v) vs ds
  | _, _, .nil => .nil
  | _, _, .cons h t => .cons h (reps_each t)
/-- key tuples that stand there are taken among what is frozen -/
theorem adopt_keys {H : Hp} {C : Cells} {kvs : List (List L2.Key × V)} (hs : ∀ p ∈ kvs, ∀ k ∈ p.1, ∀ s, k = .inr s → strV s.cps.toList = true) : ∀ {ws : List V} {xs : List D} {F : Hp}, Sub F H → CellOk W F C H → EachIs (KeyR H kvs) ws xs → ∃ F', Stp W F H F' C H ∧ Reps W F' xs ws
  | _, _, F, s, c, .nil => ⟨F, Stp.refl s c, .nil⟩
  | _, _, F, s, c, .cons ⟨b, k, e1, e2, e3, v', hm⟩ t => by
    subst e1 e3
    obtain ⟨F1, t1, hF⟩ := Stp.adopt s c e2
    obtain ⟨F2, t2, r⟩ := adopt_keys hs t1.sub t1.cell t
    exact ⟨F2, t1.trans t2, .cons (.tup (t2.ext _ _ hF) (reps_keys fun x hx s e => hs _ hm x hx s e)) r⟩
theorem bi_sorted (hK : X.K = W.K) : BiF W .sorted (rSortAll X.K) := by
  intro F H C vs ds d Q s c r e k
  match ds, e with
  | [.lst xs], e =>
    cases ex : intsD xs with
    | none =>
      have e' : (if sortOk xs = true then some (D.lst (sortB xs)) else none) = some d := by
        have := e
        simp only [biD, ex] at this
        exact this
      split at e'
      · rename_i ok
        cases e'
        obtain ⟨v, rfl, h0⟩ := r.one_inv
        obtain ⟨p, ws, rfl, h1, h2⟩ := h0.lst_inv s
        have hok := (sortOk_inv ok).1
        refine .inl (.inr ⟨p, ws, xs, fun v d => Rep W F d v, rfl, SqL.of h1, reps_each h2, hK ▸ dps_of s hok h2, ok, fun ys q hy hq => ?_⟩)
        exact fr_new (Stp.refl s c) hq (.lst (each_reps hy)) k
      · cases e'
    | some ns =>
      have e' : some (D.lst ((sortI ns).map .int)) = some d := by
        have := e
        simp only [biD, ex] at this
        exact this
      cases e'
      obtain ⟨v, rfl, h0⟩ := r.one_inv
      obtain ⟨p, ws, rfl, h1, h2⟩ := h0.lst_inv s
      have hv := h2.ints ex
      subst hv
      refine .inl (.inl (.inl ⟨p, ns, rfl, SqL.of h1, fun ys q hp hw hq => ?_⟩))
      have := sorted_uniq hw (sortI_pw ns) (hp.trans (sortI_perm ns).symm)
      subst this
      exact fr_new (Stp.refl s c) hq (.lst (Reps.of_ints _)) k
  | [.dct 0 ks us], e =>
    have e' : (if ks.length < 64 then (intsD ks).map (fun ns => D.lst ((sortI ns).map .int)) else none) = some d := e
    split at e'
    · rename_i hlt
      cases ex : intsD ks with
      | none => rw [ex] at e'; cases e'
      | some ns =>
        rw [ex] at e'
        cases e'
        obtain ⟨v, rfl, h0⟩ := r.one_inv
        obtain ⟨p, o, rfl, h1, h2⟩ := h0.dct_inv s
        cases h2 with
        | @dK _ _ kvs hk _ hr =>
          rw [hk] at ex
          have hks := keys_ints ex
          have hl : ns.length = kvs.length := by
            have := congrArg List.length hks
            rw [List.length_map, List.length_map] at this
            exact this.symm
          refine .inl (.inl (.inr ⟨p, kvs, ns, rfl, h1, hks, by rw [hl]; rw [hk, List.length_map] at hlt; exact hlt, fun ys q hp hw hq => ?_⟩))
          have := sorted_uniq hw (sortI_pw ns) (hp.trans (sortI_perm ns).symm)
          subst this
          exact fr_new (Stp.refl s c) hq (.lst (Reps.of_ints _)) k
    · cases e'
  | [.dct 1 ks us], e =>
    have e' : (if sortOk ks = true then some (D.lst (sortB ks)) else none) = some d := e
    split at e'
    · rename_i ok
      cases e'
      obtain ⟨v, rfl, h0⟩ := r.one_inv
      obtain ⟨p, o, rfl, h1, h2⟩ := h0.dct_inv s
      cases h2 with
      | @dT _ _ kvs hk hs hr =>
        subst hk
        refine .inr ⟨p, kvs, rfl, h1, ok, fun ws q hw hq => ?_⟩
        obtain ⟨F', t, hr'⟩ := adopt_keys hs s c hw
        exact fr_new t hq (.lst hr') k
    · cases e'
end
end Mi

set_option Elab.async false
set_option linter.all false
set_option maxRecDepth 100000
set_option maxHeartbeats 4000000
namespace Mi
open PySem PySem.Spec PySem.W PyProof.Rows L2

/-! ## dict(pairs) of a list, keys tuples of ints and texts -/
theorem tk_keep {prog : Program} {w : World} {h h' : Heap} {ks : List L2.Key} {a : Addr} (x : (tupleKind (mixKind prog w)).is h ks a) (k : ∀ o, h.get? a = some o → h'.get? a = some o) : (tupleKind (mixKind prog w)).is h' ks a := by
  obtain ⟨o, its, n, h1, h2, h3, h4⟩ := x
  exact ⟨o, its, n, k o h1, h2, h3, h4⟩
/-- what is gone through, from the heap alone: the iterator at I, its places -/
structure NxSrc (prog : Program) (w : World) (A : Around) (S I : Addr) (items : Array Value) (St : Nat → Heap → Prop) : Prop where
  item : ∀ (i : Nat) (s : Shared) (x : Value) (Q : Option Value → Shared → Prop) (E : Value → Shared → Prop), St i s.heap → items[i]? = some x → (∀ h', St (i + 1) h' → Heap.SameBut I s.heap h' → Q (some x) { s with heap := h' }) → wpAny (model prog w) A (pyNext (.ref I)) Q E s
  stop : ∀ (i : Nat) (s : Shared) (Q : Option Value → Shared → Prop) (E : Value → Shared → Prop), St i s.heap → items[i]? = none → (∀ h', Heap.ExtBut I s.heap h' → Q none { s with heap := h' }) → wpAny (model prog w) A (pyNext (.ref I)) Q E s
  frame : ∀ i h h', St i h → (∀ b o, b ≠ S → h.get? b = some o → h'.get? b = some o) → St i h'
theorem NxSrc.list {prog : Program} {w : World} {A : Around} {S I l : Addr} {items : Array Value} (hh : A.handled = none) (hlI : l ≠ I) (hSI : S ≠ I) (hSl : S ≠ l) : NxSrc prog w A S I items (fun i h => h.IsListIter I l i ∧ h.IsList l items) where
  item := fun i s x Q E ⟨h1, h2⟩ hx k => wpAny_pyNext_list_item h1 h2 hx fun h' g1 g2 => k h' ⟨g1, h2.extBut g2.extBut hlI⟩ g2
  stop := fun i s Q E ⟨h1, h2⟩ hx k => wpAny_pyNext_list_end hh h1 h2 hx fun h' g => k h' g
  frame := fun i h h' ⟨h1, h2⟩ k => ⟨h1.at fun o e => k I o (Ne.symm hSI) e, h2.at fun o e => k l o (Ne.symm hSl) e⟩
section
variable {prog : Program} {w : World} {A : Around} {E : Value → Shared → Prop}
def mergedH (acc : List (List L2.Key × Addr × Value)) : List (List L2.Key × Addr × Value) → List (List L2.Key × Addr × Value)
  | [] => acc
  | q :: r => mergedH (storedH acc q.1 q.2.1 q.2.2) r
theorem storedH_le (acc : List (List L2.Key × Addr × Value)) (k : List L2.Key) (a : Addr) (v : Value) : (storedH acc k a v).length ≤ acc.length + 1 := by
  unfold storedH
  split
  · rw [List.length_map]; omega
  · rw [List.length_append]; simp
/-- the walk over the pairs: keys tuples of ints, texts -/
theorem updT_loop {R : Result → Shared → Prop} {S I : Addr} {items : Array Value} {res : Value} {St : Nat → Heap → Prop} (N : NxSrc prog w A.in1 S I items St) (hSI : S ≠ I) (hu : (tupleKind (mixKind prog w)).room A.in1) :
    ∀ (rest : List (List L2.Key × Addr × Value)) (i : Nat) (acc : List (List L2.Key × Addr × Value)) (ix : Int) (t : Tok) (s : Shared), items.size = i + rest.length → acc.length + rest.length ≤ sizeLine →
      (∀ (j : Nat) (q : List L2.Key × Addr × Value), rest[j]? = some q → ∃ (b : Addr), items[i + j]? = some (.ref b) ∧ b ≠ S ∧ b ≠ I ∧ IsTup s.heap b #[.ref q.2.1, q.2.2] ∧ q.2.1 ≠ S ∧ q.2.1 ≠ I ∧ (tupleKind (mixKind prog w)).is s.heap q.1 q.2.1) →
      (∀ q ∈ acc, q.2.1 ≠ S ∧ q.2.1 ≠ I) → St i s.heap → s.heap.DictOfH (tupleKind (mixKind prog w)) S acc →
      (∀ h' tk, h'.DictOfH (tupleKind (mixKind prog w)) S (mergedH acc rest) → (∀ b o, b ≠ S → b ≠ I → s.heap.get? b = some o → h'.get? b = some o) → R (.ok (.ret res)) { s with heap := h', toks := tk }) →
      codeAny (model prog w) A (.builtin "dict.update.loop" ⟨[.ref S, .ref I, .int ix t, res], []⟩) R s
  | [], i, acc, ix, t, s, hsz, hln, ht, ha, hit, hm, hR => by
    refine codeAny_builtin ud_entry ?_
    rw [Around.under_plainId ud_plain _]
    show wpAny _ A.in1 (pyNext (.ref I) >>= _) _ _ s
    refine wpAny_bind (N.stop i s _ _ hit (Array.getElem?_eq_none (by rw [List.length_nil] at hsz; omega)) fun h' he => ?_)
    show wpAny _ A.in1 (Builtin.Dict.addKeywords S [] >>= _) _ _ _
    refine wpAny_bind (wpAny_pure (wpAny_pure ?_))
    refine hR h' s.toks ?_ fun b o _ hb e => he b o hb e
    obtain ⟨o, es, ep, g1, g2, g3, g4, g5, g6⟩ := hm
    exact ⟨o, es, ep, he _ _ hSI g1, g2, g3, g4, fun x hx => tk_keep (g5 x hx) fun o e => he _ o (ha x hx).2 e, g6⟩
  | q :: rest, i, acc, ix, t, s, hsz, hln, ht, ha, hit, hm, hR => by
    obtain ⟨b, hb, hbS, hbI, htup, hkS, hkI, hk⟩ := ht 0 q rfl
    rw [List.length_cons] at hsz hln
    refine codeAny_builtin ud_entry ?_
    rw [Around.under_plainId ud_plain _]
    show wpAny _ A.in1 (pyNext (.ref I) >>= _) _ _ s
    refine wpAny_bind (N.item i s (.ref b) _ _ hit (by simpa using hb) fun h1 hit1 hs1 => ?_)
    have ht1 : IsTup h1 b #[.ref q.2.1, q.2.2] := htup.extBut hs1.extBut hbI
    have hm1 : h1.DictOfH (tupleKind (mixKind prog w)) S acc := by
      obtain ⟨o, es, ep, g1, g2, g3, g4, g5, g6⟩ := hm
      exact ⟨o, es, ep, hs1.extBut _ _ hSI g1, g2, g3, g4, fun x hx => tk_keep (g5 x hx) fun o e => hs1.extBut _ o (ha x hx).2 e, g6⟩
    have hk1 : (tupleKind (mixKind prog w)).is h1 q.1 q.2.1 := tk_keep hk fun o e => hs1.extBut _ o hkI e
    obtain ⟨o, ho, hc, n, hd⟩ := id ht1
    show wpAny _ A.in1 (holding [Value.ref b] _ >>= _) _ _ _
    refine wpAny_bind (wpAny_holding ?_)
    refine wpAny_bind (wpAny_tryCatch ?_)
    unfold Builtin.Dict.pairItems
    refine wpAny_bind (wpAny_typeOf (T := "tuple") ⟨o, ho, hc⟩ ?_)
    rw [if_pos (by first | decide | rfl | simp)]
    refine wpAny_bind (wpAny_seqItems ho hd (wpAny_pure ?_))
    show wpAny _ A.in1 (holding [.ref q.2.1, q.2.2] (dictSet S (.ref q.2.1) q.2.2)) _ _ _
    refine wpAny_holding (wpAny_dictSet_heap (knd := tupleKind (mixKind prog w)) (k := q.1) hu hk1 hm1 (fun h2 hm2 hs2 => ?_) (by omega))
    refine wpAny_pure ⟨plainId_quiet ud_plain _, updT_loop N hSI hu rest (i + 1) (storedH acc q.1 q.2.1 q.2.2) (ix + 1) 0 _ (show items.size = i + 1 + rest.length by omega) ?_ (fun j q' e => ?_) (fun x hx => ?_) ?_ hm2 fun h' tk hd' k => ?_⟩
    · have z := storedH_le acc q.1 q.2.1 q.2.2
      omega
    · obtain ⟨b', hb', hbS', hbI', htup', hkS', hkI', hk'⟩ := ht (j + 1) q' (by simpa using e)
      refine ⟨b', ?_, hbS', hbI', (htup'.extBut hs1.extBut hbI').extBut hs2.extBut hbS', hkS', hkI', tk_keep (tk_keep hk' fun o e => hs1.extBut _ o hkI' e) fun o e => hs2.extBut _ o hkS' e⟩
      rw [show i + 1 + j = i + (j + 1) by omega]
      exact hb'
    · unfold storedH at hx
      split at hx
      · obtain ⟨y, hy, e⟩ := List.mem_map.mp hx
        have := ha y hy
        subst e
        unfold putAt
        split
        · exact this
        · exact this
      · rcases List.mem_append.mp hx with h | h
        · exact ha x h
        · rw [List.mem_singleton] at h
          subst h
          exact ⟨hkS, hkI⟩
    · exact N.frame _ _ _ hit1 fun c o hc e => hs2.extBut c o hc e
    · exact hR h' tk hd' fun c oc h3 h4 e => k c oc h3 h4 (hs2.extBut c oc h3 (hs1.extBut c oc h4 e))
end
end Mi

set_option Elab.async false
set_option linter.all false
set_option maxRecDepth 100000
set_option maxHeartbeats 4000000
namespace Mi
open PySem PySem.Spec PySem.W PyProof.Rows L2

section
variable {W : Wd} {X : Cx} {cl : Call}
def mergeT (kvs more : List (List L2.Key × V)) : List (List L2.Key × V) := more.foldl (fun acc kv => putK acc kv.1 kv.2) kvs
theorem length_mergeT : ∀ (more kvs : List (List L2.Key × V)), (mergeT kvs more).length ≤ kvs.length + more.length
  | [], kvs => by show kvs.length ≤ kvs.length + 0; omega
  | p :: r, kvs => by
    have h1 := length_mergeT r (putK kvs p.1 p.2)
    have h2 := length_putK kvs p.1 p.2
    show (mergeT (putK kvs p.1 p.2) r).length ≤ _
    rw [List.length_cons]; omega
theorem KT.merge {H : Hp} : ∀ {more : List (List L2.Key × V)} {rs : List (List L2.Key × Addr × Value)} {kvs : List (List L2.Key × V)} {vs : List (List L2.Key × Addr × Value)}, KT H more rs → KT H kvs vs → KT H (mergeT kvs more) (mergedH vs rs)
  | _, _, _, _, .nil, q => q
  | _, _, kvs, vs, .cons (a := p) (b := r) h t, q => by
    obtain ⟨h1, h2, h3⟩ := h
    have := KT.put q p.1 (b := r.2.1) h2 h3
    have e := KT.merge t this
    rw [h1] at e
    show KT H (mergeT (putK kvs p.1 p.2) _) (mergedH (storedH vs r.1 r.2.1 r.2.2) _)
    rw [h1]
    exact e
/-- the pairs, with tuples as keys -/
abbrev PrT (K : PySem.W.Frag) (H : Hp) : Addr → List L2.Key × V → Prop := fun p kv => ∃ kb, SqT K H p [.ref kb, kv.2] ∧ H kb = some (.tup (kv.1.map kV))
theorem pairsT_of {pins : List (Addr × Obj)} {σ : L2.St} {H : Hp} {s : Shared} (I : Inv X pins σ H s) : ∀ {ps : List Addr} {kvs : List (List L2.Key × V)}, Paired (PrT X.K H) ps kvs →
    ∃ prs : List (List L2.Key × Addr × Value), KT H kvs prs ∧ prs.length = ps.length ∧ ∀ (j : Nat) (q : List L2.Key × Addr × Value), prs[j]? = some q → ∃ (b : Addr), ps[j]? = some b ∧ IsTup s.heap b #[.ref q.2.1, q.2.2] ∧ (tupleKind (mixKind X.prog X.w)).is s.heap q.1 q.2.1
  | _, _, .nil => ⟨[], .nil, rfl, fun j q e => by simp at e⟩
  | _, _, .cons (a := p) (b := kv) ⟨kb, h, hk⟩ t => by
    obtain ⟨prs, r, hl, hp⟩ := pairsT_of I t
    obtain ⟨its, rv, ht, _⟩ := I.tuple h
    obtain ⟨u, y, ei, ru, ry⟩ := vals2 rv
    cases ru
    subst ei
    refine ⟨(kv.1, kb, y) :: prs, .cons ⟨rfl, hk, ry⟩ r, by rw [List.length_cons, List.length_cons, hl], fun j q e => ?_⟩
    cases j with
    | zero =>
      have e' : (kv.1, kb, y) = q := Option.some.inj e
      subst e'
      exact ⟨p, rfl, ht, key_of I.hok hk⟩
    | succ j =>
      obtain ⟨b, e1, e2, e3⟩ := hp j q (by simpa using e)
      exact ⟨b, by simpa using e1, e2, e3⟩
theorem obj_dT {pins : List (Addr × Obj)} {σ : L2.St} {H : Hp} {s : Shared} (I : Inv X pins σ H s) {h' : Heap} {kvs : List (List L2.Key × V)} {xs : List (List L2.Key × Addr × Value)} (hl : kvs.length ≤ sizeLine) (r : KT H kvs xs) (d : h'.DictOfH (tupleKind (mixKind X.prog X.w)) s.heap.objs.size xs) :
    ObjOk X.prog X.w (upd H s.heap.objs.size (.dT kvs)) h' s.heap.objs.size (.dT kvs) := by
  obtain ⟨o, es, ep, g1, g2, g3, g4, g5, g6⟩ := d
  refine ⟨hl, beq_eq_false_iff_ne.mpr (Nat.ne_of_gt I.big), xs, r.keeps fun c ys ec => ?_, o, es, ep, g1, g2, g3, g4, g6⟩
  have : c < s.heap.objs.size := by
    by_cases hc : c < s.heap.objs.size
    · exact hc
    · have := I.hok.fresh (Nat.le_of_not_lt hc)
      rw [this] at ec; cases ec
  rw [upd_ne (Nat.ne_of_lt this)]
  exact ec
def rDictT (K : PySem.W.Frag) : List V → Hp → VK → Prop := fun xs H Q => ∃ (a : Addr) (ps : List Addr) (kvs : List (List L2.Key × V)), xs = [.ref a] ∧ SqL K H a (ps.map V.ref) ∧ Paired (PrT K H) ps kvs ∧
    ∀ p, H p = none → Q (.ref p) (upd H p (.dT (mergeT [] kvs)))
theorem call_dictT (hc : X.calm = true) (hu : X.A.units + 201 < cLine) : CallR X (.type "dict") (rDictT X.K) := by
  intro pins s σ H xs us Q I r q
  obtain ⟨a, ps, kvs, ex, hq, hp, q⟩ := q
  subst ex
  obtain ⟨u, eu, rx⟩ := vals1 r
  subst eu
  cases rx
  obtain ⟨its, rv, pl, hz⟩ := I.list hq
  have ei := refs_at rv
  subst ei
  rw [List.length_map] at hz
  obtain ⟨prs, rel, hl, hpr⟩ := pairsT_of I hp
  obtain ⟨o, n, ho, hcl, hdn, hdat⟩ := pl
  have hlt : a < s.heap.objs.size := Heap.lt_size ho
  have hlen : (mergeT [] kvs).length ≤ sizeLine := by
    refine Nat.le_trans (length_mergeT kvs []) ?_
    rw [List.length_nil, Nat.zero_add, Paired.length rel, hl]
    exact hz
  refine callType_codes (Q₁ := fun obj s₁ => obj = .ref s.heap.objs.size ∧ s₁ = { s with heap := s.heap.push { cls := .type "dict", data := .dict #[] } }) PySem.F.kt_called_dict (PySem.F.kt_typeCall_dict_1 _) PySem.F.entry_dict_init (kt_code_dict_new _ ⟨rfl, rfl⟩) ?_
  rintro obj s₁ ⟨rfl, rfl⟩
  have hnew : (s.heap.push { cls := .type "dict", data := .dict #[] }).DictOf (mixKind X.prog X.w) s.heap.objs.size [] := Heap.DictOf.new s.heap
  have k0 : ∀ b o, s.heap.get? b = some o → (s.heap.push { cls := .type "dict", data := .dict #[] }).get? b = some o := fun b o e => Heap.get?_push_of_some _ e
  refine ⟨hnew.typeIs, PySem.F.args_dict_init_2 _ _, ?_⟩
  unfold Builtin.«dict.__init__»
  refine wpAny_bind ?_
  unfold Builtin.Dict.selfAndRest
  refine wpAny_bind (wpAny_notOrdered_dict hnew.typeIs ?_)
  show wpAny _ _ (pure (s.heap.objs.size, [Value.ref a])) _ _ _
  refine wpAny_pure ?_
  show wpAny _ _ (Builtin.Dict.updateFrom "dict.__init__" s.heap.objs.size (.ref a) [] .none) _ _ _
  unfold Builtin.Dict.updateFrom
  refine wpAny_bind (wpAny_typeOf (T := "list") ⟨o, k0 _ _ ho, hcl⟩ ?_)
  rw [if_pos (by first | decide | rfl | simp)]
  refine wpAny_bind (miss_list (k0 _ _ ho) hcl hdat hdn (I.ok.hd hc) fun h1 tk1 hk1 => ?_)
  rw [if_pos (show (none : Option Value).isNone = true from rfl)]
  refine wpAny_bind (wpAny_rule ?_)
  have hl1 : h1.IsList a (ps.map Value.ref).toArray := ⟨o, hk1 _ _ (k0 _ _ ho), hcl, n, hdat⟩
  have hS0 : h1.get? s.heap.objs.size = some { cls := .type "dict", data := .dict #[] } := hk1 _ _ (Heap.get?_push_size _ rfl)
  have hS1 : s.heap.objs.size < h1.objs.size := Heap.lt_size hS0
  refine wpAny_bind (wpAny_pyIter_list hl1 ?_)
  have k2 : ∀ b o, h1.get? b = some o → (h1.push { cls := .type "list_iterator", data := .fields #[.ref a, .int 0 0] }).get? b = some o := fun b o e => Heap.get?_push_of_some _ e
  have kk : ∀ b o, s.heap.get? b = some o → (h1.push { cls := .type "list_iterator", data := .fields #[.ref a, .int 0 0] }).get? b = some o := fun b o e => k2 _ _ (hk1 _ _ (k0 _ _ e))
  have key := updT_loop (prog := X.prog) (w := X.w) (A := X.A.in1) (R := wants (fun r s₂ => r = .none ∧ (∃ v H', Inv X pins σ H' s₂ ∧ RelV v (.ref s.heap.objs.size) ∧ Q v H')) X.xe) (S := s.heap.objs.size) (I := h1.objs.size) (items := (ps.map Value.ref).toArray) (res := Value.none)
    (NxSrc.list (I.ok.hd hc) (Nat.ne_of_lt (Nat.lt_trans hlt hS1)) (Nat.ne_of_lt hS1) (Nat.ne_of_gt hlt)) (Nat.ne_of_lt hS1) (by show X.A.units + 1 + 1 < cLine; omega) prs 0 [] 0 0
    { s with heap := h1.push { cls := .type "list_iterator", data := .fields #[.ref a, .int 0 0] }, toks := tk1 } (by simp [hl]) (by rw [List.length_nil, Nat.zero_add, hl]; exact hz)
    (fun j q' e => by
      obtain ⟨b, e1, e2, e3⟩ := hpr j q' e
      have hb : b < s.heap.objs.size := e2.lt
      obtain ⟨ok, ik, nk, g1, g2⟩ := id e3
      have hk : q'.2.1 < s.heap.objs.size := Heap.lt_size g1
      exact ⟨b, by rw [Nat.zero_add]; simp [e1], Nat.ne_of_lt hb, Nat.ne_of_lt (Nat.lt_trans hb hS1), e2.keeps fun c o z => kk c o z, Nat.ne_of_lt hk, Nat.ne_of_lt (Nat.lt_trans hk hS1), tk_keep e3 fun o z => kk _ o z⟩)
    (fun q hq => by cases hq) ⟨⟨_, Heap.get?_push_size _ rfl, rfl, rfl⟩, hl1.at fun o e => k2 _ _ e⟩
    ⟨_, #[], _, k2 _ _ hS0, ⟨rfl, rfl, rfl⟩, rfl, rfl, fun x hx => by (cases hx), List.nodup_nil⟩
    (fun h' tk hd' k => ⟨rfl, .ref s.heap.objs.size, upd H s.heap.objs.size (.dT (mergeT [] kvs)), I.laid (t' := tk) (fun b o e => k b o (Nat.ne_of_lt (Heap.lt_size e)) (Nat.ne_of_lt (Nat.lt_trans (Heap.lt_size e) hS1)) (kk b o e)) (Nat.le_refl _) (obj_dT I hlen (KT.merge rel .nil) hd'), rfl, q _ (I.hok.fresh (Nat.le_refl _))⟩)
  first
    | exact wpAny_pure ⟨plainId_quiet ud_plain _, key⟩
    | exact wpAny_bind (wpAny_pure (wpAny_pure ⟨plainId_quiet ud_plain _, key⟩))
end
end Mi

set_option Elab.async false
set_option linter.all false
set_option maxRecDepth 100000
set_option maxHeartbeats 4000000
namespace Mi
open PySem PySem.Spec PyProof.Rows L2

section
variable {W : Wd} {X : Cx} {cl : Call}
theorem pairsD_cons {x : D} {xs ks vs : List D} (h : pairsD (x :: xs) = some (ks, vs)) : ∃ k v ks' vs', x = .tup [k, v] ∧ pairsD xs = some (ks', vs') ∧ ks = k :: ks' ∧ vs = v :: vs' := by
  unfold pairsD at h
  split at h
  · rename_i e; cases e
  · rename_i k v r e
    cases e
    cases e2 : pairsD xs with
    | none => rw [e2] at h; cases h
    | some p => rw [e2] at h; cases h; exact ⟨k, v, p.1, p.2, rfl, rfl, rfl, rfl⟩
  · cases h
theorem pairsK_inv {F H : Hp} : ∀ {xs : List D} {us : List V} {ks vs : List D}, pairsD xs = some (ks, vs) → ks.all (keyOk 0) = true → Reps W F xs us → ∃ (ps : List Addr) (kvs : List (L2.Key × V)), us = ps.map V.ref ∧ Paired (fun p kv => F p = some (.tup [kV kv.1, kv.2])) ps kvs ∧
    ks = kvs.map (fun p => keyD p.1) ∧ Reps W F vs (kvs.map (·.2)) ∧ StrKeys kvs
  | [], us, ks, vs, h, _, r => by
    cases r
    cases h
    exact ⟨[], [], rfl, .nil, rfl, .nil, fun p hp => by cases hp⟩
  | x :: xs, us, ks, vs, h, hk, r => by
    obtain ⟨k, v, ks', vs', rfl, h2, rfl, rfl⟩ := pairsD_cons h
    rw [List.all_cons, Bool.and_eq_true] at hk
    cases r with
    | cons r0 r =>
      obtain ⟨ps, kvs, e1, e2, e3, e4, e5⟩ := pairsK_inv (H := H) h2 hk.2 r
      obtain ⟨a, ws, rfl, g1, g2⟩ := r0.tup_inv
      cases g2 with
      | cons rk g2 =>
        cases g2 with
        | cons rv g2 =>
          cases g2
          obtain ⟨key, rfl, rfl⟩ := key_inv (H := F) (show keyK k = true from hk.1) (.inl rk)
          refine ⟨a :: ps, (key, _) :: kvs, by rw [e1]; rfl, .cons g1 e2, by rw [e3]; rfl, .cons rv e4, fun p hp => ?_⟩
          rcases List.mem_cons.mp hp with e | hp
          · subst e; exact keyOk_str (.inl rk : RepR W F F _ _)
          · exact e5 p hp
abbrev StrKeysT (kvs : List (List L2.Key × V)) : Prop := ∀ p ∈ kvs, ∀ k ∈ p.1, ∀ s, k = .inr s → strV s.cps.toList = true
theorem pairsT_inv {F H : Hp} : ∀ {xs : List D} {us : List V} {ks vs : List D}, pairsD xs = some (ks, vs) → ks.all (keyOk 1) = true → Reps W F xs us → ∃ (ps : List Addr) (kvs : List (List L2.Key × V)), us = ps.map V.ref ∧ Paired (fun p kv => ∃ kb, F p = some (.tup [.ref kb, kv.2]) ∧ F kb = some (.tup (kv.1.map kV))) ps kvs ∧
    ks = kvs.map (fun p => D.tup (p.1.map keyD)) ∧ Reps W F vs (kvs.map (·.2)) ∧ StrKeysT kvs
  | [], us, ks, vs, h, _, r => by
    cases r
    cases h
    exact ⟨[], [], rfl, .nil, rfl, .nil, fun p hp => by cases hp⟩
  | x :: xs, us, ks, vs, h, hk, r => by
    obtain ⟨k, v, ks', vs', rfl, h2, rfl, rfl⟩ := pairsD_cons h
    rw [List.all_cons, Bool.and_eq_true] at hk
    cases r with
    | cons r0 r =>
      obtain ⟨ps, kvs, e1, e2, e3, e4, e5⟩ := pairsT_inv (H := H) h2 hk.2 r
      obtain ⟨a, ws, rfl, g1, g2⟩ := r0.tup_inv
      cases g2 with
      | cons rk g2 =>
        cases g2 with
        | cons rv g2 =>
          cases g2
          have hk1 : keyT k = true := hk.1
          cases k with
          | tup zs =>
            obtain ⟨b, ws2, rfl, f1, f2⟩ := rk.tup_inv
            obtain ⟨key, rfl, rfl, f3⟩ := keys_inv (H := F) (by simpa [keyT] using hk1) f2
            refine ⟨a :: ps, (key, _) :: kvs, by rw [e1]; rfl, .cons ⟨b, g1, f1⟩ e2, by rw [e3]; rfl, .cons rv e4, fun p hp => ?_⟩
            rcases List.mem_cons.mp hp with e | hp
            · subst e; exact f3
            · exact e5 p hp
          | _ => cases hk1
theorem merge_repT {F : Hp} : ∀ {more : List (List L2.Key × V)} {acc : List (List L2.Key × V)} {vs us : List D}, (acc.map (·.1)).Nodup → Reps W F vs (acc.map (·.2)) → Reps W F us (more.map (·.2)) → StrKeysT acc → StrKeysT more →
    ∃ vs', mergeD (acc.map fun p => D.tup (p.1.map keyD)) vs (more.map fun p => D.tup (p.1.map keyD)) us = ((mergeT acc more).map (fun p => D.tup (p.1.map keyD)), vs') ∧ Reps W F vs' ((mergeT acc more).map (·.2)) ∧ StrKeysT (mergeT acc more)
  | [], acc, vs, us, nd, h1, h2, s1, s2 => by
    cases h2
    exact ⟨vs, rfl, h1, s1⟩
  | (k, v) :: more, acc, vs, us, nd, h1, h2, s1, s2 => by
    rw [List.map_cons] at h2
    cases h2 with
    | @cons d ds _ _ hd h2 =>
      have hk : ∀ x ∈ k, ∀ s, x = .inr s → strV s.cps.toList = true := s2 (k, v) List.mem_cons_self
      have := merge_repT (more := more) (acc := L2.putK acc k v) (vs := putVs (acc.map fun p => D.tup (p.1.map keyD)) vs (D.tup (k.map keyD)) d) (us := ds) (putK_nodup k v acc nd) (putVs_val (g := fun k : List L2.Key => D.tup (k.map keyD)) tupD_eqD k hd acc nd h1) h2
        (fun p hp x hx s hs => by
          rcases putK_mem hp with e | ⟨q, hq, e⟩
          · exact hk x (by rw [← e]; exact hx) s hs
          · exact s1 q hq x (by rw [e]; exact hx) s hs) (fun p hp => s2 p (List.mem_cons_of_mem _ hp))
      obtain ⟨vs', g1, g2, g3⟩ := this
      refine ⟨vs', ?_, g2, g3⟩
      rw [← putKs_val (g := fun k : List L2.Key => D.tup (k.map keyD)) tupD_eqD k v acc] at g1
      exact g1
def rDictAll (K : PySem.W.Frag) : List V → Hp → VK → Prop := fun xs H Q => ((∃ (a : Addr) (ps : List Addr) (kvs : List (L2.Key × V)), xs = [.ref a] ∧ SqL K H a (ps.map V.ref) ∧ Paired (fun p kv => SqT K H p [kV kv.1, kv.2]) ps kvs ∧
    ∀ p, H p = none → Q (.ref p) (upd H p (.dK (mergeK [] kvs)))) ∨ rDictT K xs H Q) ∨ (∃ (a : Addr) (kvs : List (L2.Key × V)), xs = [.ref a] ∧ Rd H a (.dK kvs) ∧ ∀ p, H p = none → Q (.ref p) (upd H p (.dK kvs)))
theorem cr_dictAll (hc : X.calm = true) (hu : X.A.units + 201 < cLine) : CallR X (.type "dict") (rDictAll X.K) := ((call_dictP hc).or (call_dictT hc hu)).or call_dictD
theorem paired_imp {α β : Type} {R R' : α → β → Prop} (h : ∀ a b, R a b → R' a b) : ∀ {as : List α} {bs : List β}, Paired R as bs → Paired R' as bs
  | _, _, .nil => .nil
  | _, _, .cons x t => .cons (h _ _ x) (paired_imp h t)
theorem dict_lst {t : Nat} {xs : List D} {d : D} (e : dictD t (pairsD xs) = some d) : ∃ ks us, pairsD xs = some (ks, us) ∧ ks.all (keyOk t) = true ∧ d = .dct t (mergeD [] [] ks us).1 (mergeD [] [] ks us).2 := by
  cases ep : pairsD xs with
  | none => rw [ep] at e; cases e
  | some pr =>
    obtain ⟨ks, us⟩ := pr
    rw [ep] at e
    have e' : (if ks.all (keyOk t) then some (D.dct t (mergeD [] [] ks us).1 (mergeD [] [] ks us).2) else none) = some d := e
    split at e'
    · rename_i hk
      cases e'
      exact ⟨ks, us, rfl, hk, rfl⟩
    · cases e'
theorem bi_dict0 (hK : X.K = W.K) : BiF W (.dict 0) (rDictAll X.K) := by
  intro F H C vs ds d Q s c r e k
  match ds, e with
  | [.lst xs], e =>
    obtain ⟨ks, us, ep, hk, rfl⟩ := dict_lst (show dictD 0 (pairsD xs) = some d from e)
    obtain ⟨v, rfl, h0⟩ := r.one_inv
    obtain ⟨p, ws, rfl, h1, h2⟩ := h0.lst_inv s
    obtain ⟨ps, kvs, rfl, g1, rfl, g3, g4⟩ := pairsK_inv (H := H) ep hk h2
    obtain ⟨vs', m1, m2, m3⟩ := merge_rep (W := W) (F := F) (acc := []) (vs := []) List.nodup_nil .nil g3 (fun p hp => by cases hp) g4
    rw [show mergeD [] [] (kvs.map fun p => keyD p.1) us = _ from m1] at k
    exact .inl (.inl ⟨p, ps, kvs, rfl, SqL.of h1, paired_imp (fun a b q => SqT.of (s.tup q)) g1, fun q hq => fr_new (Stp.refl s c) hq (.dK rfl m3 m2) k⟩)
  | [.dct 0 ks us], e =>
    cases e
    obtain ⟨v, rfl, h0⟩ := r.one_inv
    obtain ⟨p, o, rfl, h1, h2⟩ := h0.dct_inv s
    cases h2 with
    | dK hk hs hr => exact .inr ⟨p, _, rfl, h1, fun q hq => fr_new (Stp.refl s c) hq (.dK hk hs hr) k⟩
theorem bi_dict1 (hK : X.K = W.K) : BiF W (.dict 1) (rDictAll X.K) := by
  intro F H C vs ds d Q s c r e k
  match ds, e with
  | [.lst xs], e =>
    obtain ⟨ks, us, ep, hk, rfl⟩ := dict_lst (show dictD 1 (pairsD xs) = some d from e)
    obtain ⟨v, rfl, h0⟩ := r.one_inv
    obtain ⟨p, ws, rfl, h1, h2⟩ := h0.lst_inv s
    obtain ⟨ps, kvs, rfl, g1, rfl, g3, g4⟩ := pairsT_inv (H := H) ep hk h2
    obtain ⟨vs', m1, m2, m3⟩ := merge_repT (W := W) (F := F) (acc := []) (vs := []) List.nodup_nil .nil g3 (fun p hp => by cases hp) g4
    rw [show mergeD [] [] (kvs.map fun p => D.tup (p.1.map keyD)) us = _ from m1] at k
    exact .inl (.inr ⟨p, ps, kvs, rfl, SqL.of h1, paired_imp (fun a b ⟨kb, q1, q2⟩ => ⟨kb, SqT.of (s.tup q1), s.tup q2⟩) g1, fun q hq => fr_new (Stp.refl s c) hq (.dT rfl m3 m2) k⟩)
end
end Mi

set_option Elab.async false
set_option linter.all false
set_option maxRecDepth 100000
set_option maxHeartbeats 4000000
namespace Mi
open PySem PySem.Spec PySem.W PyProof.Rows L2

/-! ## enumerate of a tuple -/
theorem meets_enumerate_new1 {v : Value} {o : Obj} {H : Heap → Prop} (B : Begins v o H) :
    Meets (Builtin.«enumerate.__new__» ⟨[.type "enumerate", v], []⟩) (fun _ R s => H s.heap ∧
      R (.ok (.ret (.ref (s.heap.push o).objs.size))) { s with heap := (s.heap.push o).push { cls := .type "enumerate", data := .fields #[.none, .bool false, .ref s.heap.objs.size, rawInt 0, .none, .none] } }) :=
  .of_wp fun prog w A R s h => by
    obtain ⟨hp, g, d, tk, os⟩ := s; obtain ⟨h1, h⟩ := h
    have hsub := sub_enumerate
    have q1 : ∀ {A' : Around} {E : Value → Shared → Prop} {Q : Value → Shared → Prop}, Q (.ref hp.objs.size) ⟨hp.push o, g, d, tk, os⟩ → wpAny (model prog w) A' (pyIter v) Q E ⟨hp, g, d, tk, os⟩ :=
      fun q => B.iter prog w _ _ ⟨hp, g, d, tk, os⟩ _ h1 q
    wp_walk using q1
    refine wpAny_stack_any fun st => wpAny_pure ?_
    split
    · rename_i c _ _ _ _ _
      cases (c == Value.type "enumerate")
      · wp_walk using q1
        exact ⟨_, rfl, h⟩
      · wp_walk using q1
        exact ⟨_, rfl, h⟩
    · wp_walk using q1
      exact ⟨_, rfl, h⟩
section
variable {prog : Program} {w : World} {A : Around} {E : Value → Shared → Prop} {s : Shared}
theorem enum_begins1 {v : Value} {o : Obj} {H : Heap → Prop} {Q : Value → Shared → Prop} (B : Begins v o H) (h1 : H s.heap)
    (h : ∀ h', IsEnum h' (s.heap.objs.size + 1) s.heap.objs.size 0 .none → h'.get? s.heap.objs.size = some o → h'.objs.size = s.heap.objs.size + 2 →
      (∀ b o, s.heap.get? b = some o → h'.get? b = some o) → Q (.ref (s.heap.objs.size + 1)) { s with heap := h' }) :
    wpAny (model prog w) A (call (.type "enumerate") [v]) Q E s := by
  refine callType_new F.called_enumerate (by decide) (F.typeCall_enumerate_1 _) (F.newCall_enumerate_1 _) (fun obj => F.args_object_init_2 obj _) F.entry_enumerate_new
    (meets_enumerate_new1 B) ⟨h1, ?_⟩
  have hz : (s.heap.push o).objs.size = s.heap.objs.size + 1 := Heap.size_push ..
  show _ ∧ _
  rw [hz]
  have he : IsEnum ((s.heap.push o).push { cls := .type "enumerate", data := .fields #[.none, .bool false, .ref s.heap.objs.size, rawInt 0, .none, .none] }) (s.heap.objs.size + 1) s.heap.objs.size 0 .none := by
    have := Heap.get?_push_size (s.heap.push o) (o := { cls := .type "enumerate", data := .fields #[.none, .bool false, .ref s.heap.objs.size, rawInt 0, .none, .none] }) rfl
    rw [hz] at this; exact this
  refine ⟨⟨_, he, rfl⟩, h _ he (Heap.get?_push_of_some _ (Heap.get?_push_size _ B.free)) (by rw [Heap.size_push, hz]) fun b o x => Heap.get?_push_of_some _ (Heap.get?_push_of_some _ x)⟩
end
section
variable {prog : Program} {w : World} {A : Around} {E : Value → Shared → Prop} {s : Shared}
theorem wpAny_pyNext_enum_endT {e it l : Addr} {i : Nat} {items : Array Value} {old : Value} {Q : Option Value → Shared → Prop} (hh : A.handled = none)
    (he : IsEnum s.heap e it i old) (hit : s.heap.IsTupleIter it l i) (hl : s.heap.IsTuple l items) (hx : items[i]? = none)
    (hQ : ∀ h', Heap.ExtBut it s.heap h' → Q none { s with heap := h' }) : wpAny (model prog w) A (pyNext (.ref e)) Q E s := by
  have hT : s.TypeIs (.ref e) "enumerate" := ⟨_, he, rfl⟩
  unfold pyNext
  refine wpAny_bind (wpAny_attempt (wpAny_callSpecial?_slot (name := Str.ofString "__next__") hT F.slot_enumerate_next
    (wpAny_call_entry F.slot_enumerate_next hT F.entry_enumerate_next ?_ (F.args_enumerate_next_1 _))))
  show wpAny _ _ (field (.ref e) 2 >>= _) _ _ _
  refine wpAny_bind (wpAny_field he rfl (x := .ref it) rfl ?_)
  refine wpAny_bind (wpAny_nextOf_tuple_end hh hit hl hx fun h' x he' hx' => ?_)
  obtain ⟨o, ho, hc⟩ := hx'
  refine wpAny_bind (wpAny_isInstance (T := "StopIteration") (b := true) ⟨o, ho, hc⟩ isSubtype_stop ?_)
  exact wpAny_pure (hQ _ he')
end
/-- the tuple at a, each item in a new pair -/
def IteT (K : PySem.W.Frag) (a : Addr) : L2.It :=
  ⟨fun i H => ∃ (xs : List V) (x : V), SqT K H a xs ∧ xs[i]? = some x, fun i H v H' => ∃ T x, v = .ref T ∧ H T = none ∧ H' = upd H T (.tup [.int (i : Nat), x]) ∧ ∀ xs, SqT K H a xs → xs[i]? = some x, fun i H => ∃ xs : List V, SqT K H a xs ∧ xs.length ≤ i⟩
theorem turn_enumT {P : Program} {w : World} {K : PySem.W.Frag} {elts : List Expr} {kk : Nat} {tpos : Pos} (a e it : Addr) :
    Turn P w K (.Tuple elts kk tpos) (IteT K a) [e, it] e (fun i h => (∃ old, IsEnum h e it ((i : Nat) : Int) old) ∧ h.IsTupleIter it a i ∧ e ≠ it) where
  mem := by simp
  obj := fun i h st b hb => by
    obtain ⟨⟨old, he⟩, ⟨o, ho, hc, hd⟩, _⟩ := st
    have e' : b = e ∨ b = it := by simpa using hb
    rcases e' with z | z
    · rw [z]; exact ⟨_, he, fun v q => nomatch q⟩
    · rw [z]; exact ⟨o, ho, fun v q => by rw [hd] at q; cases q⟩
  keep := fun i h h' st k => let ⟨⟨old, he⟩, hi, hne⟩ := st; ⟨⟨old, k e (by simp) _ he⟩, hi.at fun o q => k it (by simp) o q, hne⟩
  item := by
    intro X hP hw hK hc i pins s σ H E I hf st hg
    subst hP hw hK
    obtain ⟨⟨old, he⟩, hit, hne⟩ := st
    obtain ⟨xs, x, hq, hx⟩ := hg
    obtain ⟨its, rv, p, hz⟩ := I.tuple hq
    obtain ⟨u, hu, ru⟩ := rv.get hx
    have hel : e < s.heap.objs.size := Heap.lt_size he
    have hil : it < s.heap.objs.size := by obtain ⟨_, q, _⟩ := hit; exact Heap.lt_size q
    have pt : s.heap.IsTuple a its.toArray := by
      obtain ⟨o, h1, h2, n, h3⟩ := p
      exact ⟨o, h1, h2, n, h3⟩
    have hea : e ≠ a := fun z => by
      obtain ⟨o, h1, h2, _⟩ := pt
      subst z
      have he2 : s.heap.get? e = _ := he
      rw [he2] at h1
      cases h1
      exact absurd (Value.type.inj h2) (by decide)
    have hia : it ≠ a := fun z => by
      obtain ⟨o, h1, h2, _⟩ := pt
      obtain ⟨o', g1, g2, _⟩ := hit
      subst z
      rw [g1] at h1
      cases h1
      rw [g2] at h2
      exact absurd (Value.type.inj h2) (by decide)
    have hlt : i < its.toArray.size := by
      have := (List.getElem?_eq_some_iff.mp hu).1
      simpa using this
    refine wpAny_pyNext_enum_itemC (Draws.tuple (A := X.A.in1) (I.ok.hd hc) it a (Ne.symm hia) its.toArray) he ⟨hit, pt⟩ hlt hne (by simp [hne, hea]) fun y h' tk hy ho hst hT hsz hk => ?_
    obtain ⟨hit', _⟩ := hst
    have ey : y = u := by
      have q : its.toArray[i]? = some u := by simpa using hu
      rw [q] at hy
      exact (Option.some.inj hy).symm
    subst ey
    refine ⟨_, rfl, wpAny_letOwnedTupleGo_enum (s := { s with heap := h', toks := tk + 1 }) ho fun h'' he' sb => ?_⟩
    have hT2 : h''.get? s.heap.objs.size = some { cls := .type "tuple", data := .seq #[.int i tk, y] } := (sb.2 _ (Nat.ne_of_gt hel)).trans hT
    have new : ObjOk X.prog X.w (upd H s.heap.objs.size (.tup [.int (i : Nat), x])) h'' s.heap.objs.size (.tup [.int (i : Nat), x]) :=
      ⟨by show 2 ≤ sizeLine; decide, [.int i tk, y], .cons ⟨_, rfl⟩ (.cons ru .nil), ⟨_, hT2, rfl, _, rfl⟩⟩
    have I1 : Inv X pins σ (upd H s.heap.objs.size (.tup [.int (i : Nat), x])) { s with heap := h'', toks := tk + 1 } :=
      I.turnedNew (ch := [e, it]) (fun b ob hb q => (sb.2 b (fun z => hb (by simp [z]))).trans (hk b ob (fun z => hb (by simp [z])) (fun z => hb (by simp [z])) q)) hf (Nat.le_refl _) new
    refine ⟨.ref s.heap.objs.size, _, I1, rfl, ⟨_, x, rfl, I.hok.fresh (Nat.le_refl _), rfl, fun ys hy => by rw [I.tuple_inj hy hq]; exact hx⟩, ⟨⟨y, ?_⟩, hit'.at fun o q => (sb.2 it (Ne.symm hne)).trans q, hne⟩, fun b hb => ?_⟩
    · have e1 : ((i + 1 : Nat) : Int) = (i : Int) + 1 := by omega
      rw [e1]; exact he'
    · have hb' : b < s.heap.objs.size := by
        have e' : b = e ∨ b = it := by simpa using hb
        rcases e' with z | z
        · rw [z]; exact hel
        · rw [z]; exact hil
      rw [upd_ne (Nat.ne_of_lt hb')]
      exact (hf b hb).1
  done := by
    intro X hP hw hK hc i pins s σ H E I hf st hg
    subst hP hw hK
    obtain ⟨⟨old, he⟩, hit, hne⟩ := st
    obtain ⟨xs, hq, hx⟩ := hg
    obtain ⟨its, rv, p, hz⟩ := I.tuple hq
    obtain ⟨f0, f1, f2, f3, f4, f5⟩ := hf it (by simp)
    have hl := rv.length
    have pt : s.heap.IsTuple a its.toArray := by
      obtain ⟨o, h1, h2, n, h3⟩ := p
      exact ⟨o, h1, h2, n, h3⟩
    exact wpAny_pyNext_enum_endT (I.ok.hd hc) he hit pt (by simp; omega) fun h' eb => ⟨rfl, I.turned (t' := s.toks) (fun b o hb q => eb b o hb q) f0 f1 f3 f4 f5⟩
  self := fun A i s Q E st h => let ⟨⟨_, he⟩, _⟩ := st; wpAny_pyIter_enum he h
def iEnumT (K : PySem.W.Frag) (ta : TA) : TI := fun σ H R => ta σ H fun vs H1 => ∃ a xs, vs = [.ref a] ∧ SqT K H1 a xs ∧ R (IteT K a) H1
theorem pi_enumT {X : Cx} {e : Expr} {ta : TA} {p pos tpos : Pos} {elts : List Expr} {kk : Nat} (hg : Gl X "enumerate") (hm : X.mg "enumerate" = none) (ha : PA X [e] ta) (hs : starEach [e] X.env = [(false, eval e X.env)] := by rfl) :
    PI X (.Tuple elts kk tpos) (.Call (.Name "enumerate" p) [e] [] pos) (iEnumT X.K ta) := by
  refine ⟨fun pins s σ H R I h => ?_⟩
  refine Call_ (ld_blt I hg hm boot_enumerate (PyProof.Rows.callWith_type1 (thn (ha.run pos pins s σ H _ I h) fun us s1 ⟨vs, H1, I1, r1, q1⟩ => ?_) hs rfl))
  obtain ⟨a, xs, ex, hq, q⟩ := q1
  subst ex
  cases r1 with
  | cons r rr =>
    cases rr
    cases r
    obtain ⟨its, rv, p', hz⟩ := I1.tuple hq
    have pt : s1.heap.IsTuple a its.toArray := by
      obtain ⟨o, h1, h2, n, h3⟩ := p'
      exact ⟨o, h1, h2, n, h3⟩
    refine enum_begins1 (begins_tuple a its.toArray) pt fun h' he hit hsz hk => wpAny_pyIter_enum he ?_
    have I2 : Inv X pins σ H1 { s1 with heap := h' } := I1.kept (t' := s1.toks) hk
    refine ⟨s1.heap.objs.size + 1, [s1.heap.objs.size + 1, s1.heap.objs.size], _, _, H1, rfl, I2, turn_enumT a (s1.heap.objs.size + 1) s1.heap.objs.size, ⟨⟨.none, he⟩, ⟨_, hit, rfl, rfl⟩, Nat.succ_ne_self _⟩, fun b hb => ?_, q⟩
    have e' : b = s1.heap.objs.size + 1 ∨ b = s1.heap.objs.size := by simpa using hb
    have hle : s1.heap.objs.size ≤ b := by
      rcases e' with z | z
      · rw [z]; exact Nat.le_add_right _ _
      · rw [z]; exact Nat.le_refl _
    exact I1.fpOk hle (I1.hok.fresh hle)
section
variable {W : Wd} {X : Cx} {cl : Call}
theorem is_enumA {m : E} {e : Expr} {elts : List Expr} {kk : Nat} {p pos tpos : Pos} (hK : X.K = W.K) (hg : Gl X "enumerate") (hm : X.mg "enumerate" = none) (h : PE X e (tS W cl m)) (hs : notStar e = true) : PI X (.Tuple elts kk tpos) (.Call (.Name "enumerate" p) [e] [] pos) (tIs W cl (.enum m)) :=
  ((pi_enum hg hm (as_cons h as_nil hs) (star_cons hs)).or (pi_enumT hg hm (as_cons h as_nil hs) (star_cons hs))).imp fun σ H Rk ⟨H0, F, σd, C, xs, C', rl, q, k⟩ => by
    simp only [evi] at q
    obtain ⟨d, C1, e1, q⟩ := R.bind_ok q
    obtain ⟨ef, rfl⟩ := R.of_ok q
    cases d <;> try (cases ef; done)
    · rename_i ys
      cases ef
      refine .inr ⟨H0, F, σd, C, [.tup ys], C', rl, by simp only [evs]; rw [e1], fun F1 H1 vs t r => ?_⟩
      cases r with
      | cons hv r =>
        cases r
        obtain ⟨a, ws, rfl, h1, h2⟩ := hv.tup_inv
        refine ⟨a, ws, rfl, SqT.of (t.sub.tup h1), k F1 H1 _ t ⟨fun i F H C p s _ hi => ?_, fun i F H C x H' p s c hi hy => ?_, fun i F H C p s _ hi => ?_⟩⟩
        · have hi' : i < ys.length := by simpa using hi
          obtain ⟨v, g1, _⟩ := h2.get (List.getElem?_eq_getElem hi')
          exact ⟨ws, v, SqT.of (s.tup (p _ _ h1)), g1⟩
        · obtain ⟨T, y, rfl, hT, rfl, hx⟩ := hy
          have g := hx ws (SqT.of (s.tup (p _ _ h1)))
          obtain ⟨d, g1, g2⟩ := (h2.ext p).get' g
          refine ⟨upd F T _, .tup [.int (i : Nat), d], ?_, Stp.new1 s c hT, .tup upd_same (.cons (.int _) (.cons (g2.ext (Ext.upd (s.none_of hT))) .nil))⟩
          have hi' : i < ys.length := by simpa using hi
          rw [List.getElem?_zipWith, List.getElem?_range hi', g1]
        · exact ⟨ws, SqT.of (s.tup (p _ _ h1)), by rw [← h2.len]; simpa using hi⟩
    · rename_i ys
      cases ef
      refine .inl ⟨H0, F, σd, C, [.lst ys], C', rl, by simp only [evs]; rw [e1], fun F1 H1 vs t r => ?_⟩
      cases r with
      | cons hv r =>
        cases r
        obtain ⟨a, ws, rfl, h1, h2⟩ := hv.lst_inv
        refine ⟨a, ws, rfl, SqL.of (t.sub.lst h1), k F1 H1 _ t ⟨fun i F H C p s _ hi => ?_, fun i F H C x H' p s c hi hy => ?_, fun i F H C p s _ hi => ?_⟩⟩
        · have hi' : i < ys.length := by simpa using hi
          obtain ⟨v, g1, _⟩ := h2.get (List.getElem?_eq_getElem hi')
          exact ⟨ws, v, SqL.of (s.lst (p _ _ h1)), g1⟩
        · obtain ⟨T, y, rfl, hT, rfl, hx⟩ := hy
          have g := hx ws (SqL.of (s.lst (p _ _ h1)))
          obtain ⟨d, g1, g2⟩ := (h2.ext p).get' g
          refine ⟨upd F T _, .tup [.int (i : Nat), d], ?_, Stp.new1 s c hT, .tup upd_same (.cons (.int _) (.cons (g2.ext (Ext.upd (s.none_of hT))) .nil))⟩
          have hi' : i < ys.length := by simpa using hi
          rw [List.getElem?_zipWith, List.getElem?_range hi', g1]
        · exact ⟨ws, SqL.of (s.lst (p _ _ h1)), by rw [← h2.len]; simpa using hi⟩
end
end Mi

set_option Elab.async false
set_option linter.all false
set_option maxRecDepth 100000
set_option maxHeartbeats 4000000
namespace Mi
open PySem PySem.Spec PyProof.Rows L2
/-! ## tuple(range(..)), list(range(..)) -/
section
variable {W : Wd} {X : Cx} {cl : Call}
theorem reps_rg {F : Hp} (lo : Int) : ∀ l : List Nat, Reps W F (l.map fun i => .int (lo + (i : Nat))) (l.map fun i => V.int (lo + (i : Nat)))
  | [] => .nil
  | i :: r => .cons (.int _) (reps_rg lo r)
theorem reps_rgV {F : Hp} (i j : Int) : Reps W F (rangeD i (j - i).toNat) (rgV i j) := reps_rg i _
theorem rgOk_of {i j : Int} (h : rgOk i j = true) : RgOk i j := by
  unfold rgOk rngOk at h
  simp only [Bool.and_eq_true, decide_eq_true_eq] at h
  obtain ⟨⟨⟨⟨h1, h2⟩, h3⟩, h4⟩, h5⟩ := h
  exact ⟨h1, h2, h3, h4, h5⟩
theorem rg1_of {j : D} {d : D} {g : List D → D} (h : (match j with
    | .int j => if rgOk 0 j then some (g (rangeD 0 j.toNat)) else none
    | _ => none) = some d) : ∃ n, j = .int n ∧ rgOk 0 n = true ∧ d = g (rangeD 0 (n - 0).toNat) := by
  cases j <;> simp only at h <;> try (cases h; done)
  rename_i n
  split at h
  · rename_i hk
    cases h
    exact ⟨n, rfl, hk, by rw [Int.sub_zero]⟩
  · cases h
theorem rg2_of {i j : D} {d : D} {g : List D → D} (h : (match i, j with
    | .int i, .int j => if rgOk i j then some (g (rangeD i (j - i).toNat)) else none
    | _, _ => none) = some d) : ∃ m n, i = .int m ∧ j = .int n ∧ rgOk m n = true ∧ d = g (rangeD m (n - m).toNat) := by
  cases i <;> try (cases h; done)
  cases j <;> try (cases h; done)
  rename_i m n
  dsimp only at h
  split at h
  · rename_i hk
    cases h
    exact ⟨m, n, rfl, rfl, hk, rfl⟩
  · cases h
theorem bT1 (j : D) : biD .rangeT1 [j] = (match j with
    | .int j => if rgOk 0 j then some (.tup (rangeD 0 j.toNat)) else none
    | _ => none) := by cases j <;> rfl
theorem bL1 (j : D) : biD .rangeL1 [j] = (match j with
    | .int j => if rgOk 0 j then some (.lst (rangeD 0 j.toNat)) else none
    | _ => none) := by cases j <;> rfl
theorem bT2 (i j : D) : biD .rangeT2 [i, j] = (match i, j with
    | .int i, .int j => if rgOk i j then some (.tup (rangeD i (j - i).toNat)) else none
    | _, _ => none) := by cases i <;> cases j <;> rfl
theorem bL2 (i j : D) : biD .rangeL2 [i, j] = (match i, j with
    | .int i, .int j => if rgOk i j then some (.lst (rangeD i (j - i).toNat)) else none
    | _, _ => none) := by cases i <;> cases j <;> rfl
theorem s_rgT1 {m : E} {a : Expr} {p p2 q pos : Pos} (hc : X.calm = true) (hg : Gl X "tuple") (hm : X.mg "tuple" = none) (hg2 : Gl X "range") (hm2 : X.mg "range" = none) (ha : PE X a (tR W cl m)) (hs : notStar a = true) :
    PE X (.Call (.Name "tuple" p) [.Call (.Name "range" p2) [a] [] q] [] pos) (tS W cl (.bi .rangeT1 (.cons m .nil))) :=
  (pe_tupRg hc hg hm (prg_1 hg2 hm2 ha (star_cons hs))).imp fun σ H Q ⟨H0, F, σd, C, d, C', rl, q, k⟩ => by
    simp only [ev, evs] at q
    obtain ⟨ds, C1, e1, q⟩ := R.bind_ok q
    obtain ⟨ef, rfl⟩ := R.of_ok q
    obtain ⟨d1, C2, e2, e1⟩ := R.bind_ok e1
    cases e1
    rw [bT1] at ef
    obtain ⟨n, rfl, hk, rfl⟩ := rg1_of ef
    refine ⟨H0, F, σd, C, .int n, _, rl, e2, fun F1 H1 v t1 r1 => ⟨n, r1.int_inv, rgOk_of hk, fun l hl => ?_⟩⟩
    exact k _ _ _ (t1.trans (Stp.new1 t1.sub t1.cell hl)) (.tup upd_same (reps_rgV 0 n))
theorem f_rgL1 {m : E} {a : Expr} {p p2 q pos : Pos} (hc : X.calm = true) (hg : Gl X "list") (hm : X.mg "list" = none) (hg2 : Gl X "range") (hm2 : X.mg "range" = none) (ha : PE X a (tR W cl m)) (hs : notStar a = true) :
    PE X (.Call (.Name "list" p) [.Call (.Name "range" p2) [a] [] q] [] pos) (tF W cl (.bi .rangeL1 (.cons m .nil))) :=
  (pe_listRg hc hg hm (prg_1 hg2 hm2 ha (star_cons hs))).imp fun σ H Q ⟨H0, F, σd, C, d, C', rl, q, k⟩ => by
    simp only [ev, evs] at q
    obtain ⟨ds, C1, e1, q⟩ := R.bind_ok q
    obtain ⟨ef, rfl⟩ := R.of_ok q
    obtain ⟨d1, C2, e2, e1⟩ := R.bind_ok e1
    cases e1
    rw [bL1] at ef
    obtain ⟨n, rfl, hk, rfl⟩ := rg1_of ef
    refine ⟨H0, F, σd, C, .int n, _, rl, e2, fun F1 H1 v t1 r1 => ⟨n, r1.int_inv, rgOk_of hk, fun l hl => ?_⟩⟩
    exact fr_new t1 hl (.lst (reps_rgV 0 n)) k
theorem s_rgT2 {m m2 : E} {a b : Expr} {p p2 q pos : Pos} (hc : X.calm = true) (hg : Gl X "tuple") (hm : X.mg "tuple" = none) (hg2 : Gl X "range") (hm2 : X.mg "range" = none) (ha : PE X a (tR W cl m)) (hb : PE X b (tR W cl m2)) (hs : notStar a = true) (hs2 : notStar b = true) :
    PE X (.Call (.Name "tuple" p) [.Call (.Name "range" p2) [a, b] [] q] [] pos) (tS W cl (.bi .rangeT2 (.cons m (.cons m2 .nil)))) :=
  (pe_tupRg hc hg hm (prg_2 hg2 hm2 ha hb (star_cons hs) (star_cons hs2) (back_plain (by rw [List.all_cons, hs2]; rfl)))).imp fun σ H Q ⟨H0, F, σd, C, d, C', rl, q, k⟩ => by
    simp only [ev, evs] at q
    obtain ⟨ds, C1, e1, q⟩ := R.bind_ok q
    obtain ⟨ef, rfl⟩ := R.of_ok q
    obtain ⟨d1, C2, e2, e1⟩ := R.bind_ok e1
    obtain ⟨ds2, C3, e3, e1⟩ := R.bind_ok e1
    cases e1
    obtain ⟨d2, C4, e4, e3⟩ := R.bind_ok e3
    cases e3
    rw [bT2] at ef
    obtain ⟨i, j, rfl, rfl, hk, rfl⟩ := rg2_of ef
    refine ⟨H0, F, σd, C, .int i, _, rl, e2, fun F1 H1 v t1 r1 => ⟨H0, F1, σd, C2, .int j, _, rl.stp t1, e4, fun F2 H2 v2 t2 r2 => ⟨i, j, r1.int_inv, r2.int_inv, rgOk_of hk, fun l hl => ?_⟩⟩⟩
    exact k _ _ _ ((t1.trans t2).trans (Stp.new1 t2.sub t2.cell hl)) (.tup upd_same (reps_rgV i j))
theorem f_rgL2 {m m2 : E} {a b : Expr} {p p2 q pos : Pos} (hc : X.calm = true) (hg : Gl X "list") (hm : X.mg "list" = none) (hg2 : Gl X "range") (hm2 : X.mg "range" = none) (ha : PE X a (tR W cl m)) (hb : PE X b (tR W cl m2)) (hs : notStar a = true) (hs2 : notStar b = true) :
    PE X (.Call (.Name "list" p) [.Call (.Name "range" p2) [a, b] [] q] [] pos) (tF W cl (.bi .rangeL2 (.cons m (.cons m2 .nil)))) :=
  (pe_listRg hc hg hm (prg_2 hg2 hm2 ha hb (star_cons hs) (star_cons hs2) (back_plain (by rw [List.all_cons, hs2]; rfl)))).imp fun σ H Q ⟨H0, F, σd, C, d, C', rl, q, k⟩ => by
    simp only [ev, evs] at q
    obtain ⟨ds, C1, e1, q⟩ := R.bind_ok q
    obtain ⟨ef, rfl⟩ := R.of_ok q
    obtain ⟨d1, C2, e2, e1⟩ := R.bind_ok e1
    obtain ⟨ds2, C3, e3, e1⟩ := R.bind_ok e1
    cases e1
    obtain ⟨d2, C4, e4, e3⟩ := R.bind_ok e3
    cases e3
    rw [bL2] at ef
    obtain ⟨i, j, rfl, rfl, hk, rfl⟩ := rg2_of ef
    refine ⟨H0, F, σd, C, .int i, _, rl, e2, fun F1 H1 v t1 r1 => ⟨H0, F1, σd, C2, .int j, _, rl.stp t1, e4, fun F2 H2 v2 t2 r2 => ⟨i, j, r1.int_inv, r2.int_inv, rgOk_of hk, fun l hl => ?_⟩⟩⟩
    exact fr_new (t1.trans t2) hl (.lst (reps_rgV i j)) k
end
end Mi

set_option Elab.async false
set_option linter.all false
set_option maxRecDepth 100000
set_option maxHeartbeats 4000000
namespace Mi
open PySem PySem.Spec PyProof.Rows L2

/-! ## What is looked at, with what follows -/
inductive Chk (P : Prop) : Type
  | yes (h : P)
  | no
namespace Chk
variable {P Q R : Prop}
def isY : Chk P → Bool
  | .yes _ => true
  | .no => false
theorem get : {c : Chk P} → c.isY = true → P
  | .yes h, _ => h
  | .no, h => by cases h
def map (f : P → Q) : Chk P → Chk Q
  | .yes h => .yes (f h)
  | .no => .no
def bnd (c : Chk P) (f : P → Chk Q) : Chk Q := match c with
  | .yes h => f h
  | .no => .no
def or (c : Chk P) (d : Unit → Chk P) : Chk P := match c with
  | .yes h => .yes h
  | .no => d ()
def dec (b : Bool) : Chk (b = true) := match b with
  | true => .yes rfl
  | false => .no
def opt {α : Type} (o : Option α) (f : (a : α) → o = some a → Chk Q) : Chk Q := match o, f with
  | some a, f => f a rfl
  | none, _ => .no
end Chk

structure Ct where
  N : List Str
  sc : Scope
  fn : Str → Bool
structure Pa where
  Sg : Nat → Option (Str × Bool)
  G : List (Str × D)
  mu : Nat → Bool

structure Blt (m : Str → Option Value) : Prop where
  len : m "len" = none
  abs : m "abs" = none
  int : m "int" = none
  str : m "str" = none
  bool : m "bool" = none
  tuple : m "tuple" = none
  list : m "list" = none
  dict : m "dict" = none
  set : m "set" = none
  sum : m "sum" = none
  max : m "max" = none
  min : m "min" = none
  all : m "all" = none
  any : m "any" = none
  sorted : m "sorted" = none
  isinstance : m "isinstance" = none
  range : m "range" = none
  enumerate : m "enumerate" = none
  zip : m "zip" = none

structure XOk (P : Pa) (c : Ct) (W : Wd) (cl : Call) (n : Nat) (X : Cx) : Prop where
  K : X.K = W.K
  N : X.N = c.N
  nd : c.N.Nodup
  sc : X.env.scope = c.sc
  calm : X.calm = true
  fn : ∀ x, c.fn x = true → X.fn x = true
  room : Room (n + 1) X.A
  fns : ∀ f nm fr, P.Sg f = some (nm, fr) → FnAt W cl (n + 1) X fr f nm
  blt : Blt X.mg
  gcs : ∀ x d, (x, d) ∈ P.G → ∃ v u, X.mg x = some u ∧ RelV v u ∧ ∀ F, Rep W F d v
theorem XOk.hu {P : Pa} {c : Ct} {W : Wd} {cl : Call} {n : Nat} {X : Cx} (ok : XOk P c W cl n X) : Hu X := ⟨by have := ok.room.un; omega⟩
theorem XOk.ndX {P : Pa} {c : Ct} {W : Wd} {cl : Call} {n : Nat} {X : Cx} (ok : XOk P c W cl n X) : X.N.Nodup := by rw [ok.N]; exact ok.nd
def Ct.blk (c : Ct) (scope : Scope) : Ct := ⟨c.N, relS scope c.sc, fun x => scope.names.lookup x == some .cell⟩
theorem XOk.blk {P : Pa} {c : Ct} {W : Wd} {cl : Call} {n : Nat} {X : Cx} (ok : XOk P c W cl n X) (scope : Scope) (s : Shared) (H : Hp) (C : Addr) (cs : List (Str × Addr)) (fp : List Addr) : XOk P (c.blk scope) W cl n (X.blk s H scope (compEnvC scope cs C X.env) fp) where
  K := ok.K
  N := ok.N
  nd := ok.nd
  sc := by show relS scope X.env.scope = relS scope c.sc; rw [ok.sc]
  calm := ok.calm
  fn := fun x h => h
  room := ok.room
  fns := fun f nm fr h => ⟨(ok.fns f nm fr h).ex⟩
  blt := ok.blt
  gcs := ok.gcs

def dbgB (x : Str) : Bool := !(x == ("__debug__" : Str)) && !(x == ("__classdict__" : Str))
theorem dbg1 {x : Str} (h : dbgB x = true) : (x == ("__debug__" : Str)) = false := by unfold dbgB at h; simp at h; simpa using h.1
theorem dbg2 {x : Str} (h : dbgB x = true) : (x == ("__classdict__" : Str)) = false := by unfold dbgB at h; simp at h; simpa using h.2
def visB (sc : Scope) (x : Str) : Bool := match sc.names.lookup x with
  | some .local => true
  | some .cell => true
  | some .free => true
  | _ => false
def locB (sc : Scope) (x : Str) : Bool := match sc.names.lookup x with
  | some .local => true
  | some .cell => true
  | _ => false
def isLoc (sc : Scope) (x : Str) : Bool := match sc.names.lookup x with
  | some .local => true
  | _ => false
def glB (sc : Scope) (x : Str) : Bool := match sc.names.lookup x with
  | some .globalImplicit => true
  | _ => false
def swB (sc : Scope) (s : Scope) (y : Str) (py p : Pos) : Bool := isLoc sc y && (py.line == p.line) && !(s.names.any fun (n, k) => n == y && (k == .local || k == .cell))
def funB (sc : Scope) : Bool := match sc.kind with
  | .function => true
  | _ => false

inductive Md where | S | F | O | B | A (i : Nat) (y : Str) (py spos : Pos)
def Rd (W : Wd) (cl : Call) (X : Cx) : Md → E → Expr → Prop
  | .S, m, e => PE X e (tS W cl m)
  | .F, m, e => PE X e (tF W cl m)
  | .O, m, e => PE X e (tR W cl m)
  | .B, m, e => PT X e (tB W cl m)
  | .A i y py spos, m, e => PS X (.Assign [.Name y py] e spos) (tAsg (tF W cl m) (gName i))
def CEp (P : Pa) (c : Ct) (md : Md) (m : E) (e : Expr) : Prop := ∀ (W : Wd) (cl : Call) (n : Nat) (X : Cx), XOk P c W cl n X → Rd W cl X md m e
abbrev CE (P : Pa) (c : Ct) (md : Md) (m : E) (e : Expr) : Type := Chk (CEp P c md m e)

section
variable {P : Pa} {c : Ct} {W : Wd} {cl : Call} {n : Nat} {X : Cx}
theorem XOk.vis (ok : XOk P c W cl n X) {x : Str} (h : visB c.sc x = true) : Vis X.env.scope x := by
  rw [ok.sc]; unfold visB at h; unfold Vis
  split at h <;> first | (simp_all; done) | cases h
theorem XOk.loc (ok : XOk P c W cl n X) {x : Str} (h : locB c.sc x = true) : L2.Loc X.env.scope x := by
  rw [ok.sc]; unfold locB at h; unfold L2.Loc
  split at h <;> first | (simp_all; done) | cases h
theorem XOk.isl (ok : XOk P c W cl n X) {x : Str} (h : isLoc c.sc x = true) : X.env.scope.names.lookup x = some .local := by
  rw [ok.sc]; unfold isLoc at h
  split at h <;> first | (simp_all; done) | cases h
theorem XOk.gl (ok : XOk P c W cl n X) {x : Str} (h : glB c.sc x = true) : Gl X x := by
  show X.env.scope.names.lookup x = _
  rw [ok.sc]; unfold glB at h
  split at h <;> first | (simp_all; done) | cases h
theorem XOk.fnl (ok : XOk P c W cl n X) {x : Str} (h : (c.fn x || isLoc c.sc x) = true) : X.fn x = true ∨ X.env.scope.names.lookup x = some .local := by
  rw [Bool.or_eq_true] at h
  exact h.elim (fun h => .inl (ok.fn x h)) fun h => .inr (ok.isl h)

/-! ### names -/
def cVar (P : Pa) (c : Ct) (i : Nat) (e : Expr) : Chk (∀ (W : Wd) (cl : Call) (n : Nat) (X : Cx), XOk P c W cl n X → PE X e (tVar i)) := match e with
  | .Name x p => if h : c.N[i]? = some x ∧ visB c.sc x = true ∧ dbgB x = true then .yes fun W cl n X ok => pe_var (by rw [ok.N]; exact h.1) (ok.vis h.2.1) (dbg1 h.2.2) (dbg2 h.2.2) else .no
  | _ => .no
def cSet (P : Pa) (c : Ct) (i : Nat) (e : Expr) : Chk (∀ (W : Wd) (cl : Call) (n : Nat) (X : Cx), XOk P c W cl n X → PG X e (gName i)) := match e with
  | .Name x p => if h : c.N[i]? = some x ∧ locB c.sc x = true ∧ (c.fn x || isLoc c.sc x) = true then .yes fun W cl n X ok => pg_name ok.ndX (by rw [ok.N]; exact h.1) (ok.loc h.2.1) (ok.fnl h.2.2) else .no
  | _ => .no
def cT (P : Pa) (c : Ct) : (t : Tg) → (e : Expr) → Chk (∀ (W : Wd) (cl : Call) (n : Nat) (X : Cx), XOk P c W cl n X → PG X e (tT W t))
  | .v i, e => (cSet P c i e).map fun h W cl n X ok => g_v (h W cl n X ok)
  | .tp ts, e => match e with
    | .Tuple es k pos => if hh : es.all notStar = true ∧ es.length = tgsLen ts then (cTs P c ts es).map fun h W cl n X ok => g_tp ok.K ok.calm (h W cl n X ok) hh.1 hh.2 else .no
    | _ => .no
where cTs (P : Pa) (c : Ct) : (ts : Tgs) → (es : List Expr) → Chk (∀ (W : Wd) (cl : Call) (n : Nat) (X : Cx), XOk P c W cl n X → PGs X es (tTs W ts))
  | .nil, es => match es with
    | [] => .yes fun _ _ _ _ _ => gs_nil
    | _ => .no
  | .cons t ts, es => match es with
    | e :: es => if hn : notStar e = true then (cT P c t e).bnd fun h => (cTs P c ts es).map fun h2 W cl n X ok => gs_cons (h W cl n X ok) (h2 W cl n X ok) (by rw [aE_cons hn]; rfl) else .no
    | _ => .no
end
end Mi

set_option Elab.async false
set_option linter.all false
set_option maxRecDepth 100000
set_option maxHeartbeats 4000000
namespace Mi
open PySem PySem.Spec PyProof.Rows L2

section
variable {P : Pa} {c : Ct}
/-- a sub-expression, by mode -/
abbrev Sub1 (P : Pa) (c : Ct) (m : E) : Type := (md : Md) → (e : Expr) → CE P c md m e
/-! ### what a place asks -/
def gS {m : E} (f : Sub1 P c m) (e : Expr) : CE P c .S m e := (f .S e).or fun _ => (f .F e).map fun h W cl n X ok => (PE.froz (h W cl n X ok) : _)
def gR {m : E} (f : Sub1 P c m) (e : Expr) : CE P c .O m e := (f .O e).or fun _ => (gS f e).map fun h W cl n X ok => (PE.look (h W cl n X ok) : _)
def gB {m : E} (f : Sub1 P c m) (e : Expr) : CE P c .B m e := (f .B e).or fun _ => if hp : plainTest e = true then (gR f e).map fun h W cl n X ok => b_val ok.K (h W cl n X ok) hp else .no

/-- constants -/
def kLit (d : D) (md : Md) (e : Expr) : CE P c md (.lit d) e := match md, e, d with
  | .S, .Constant (.int i) j p, .int k => if h : i = k then .yes fun W cl n X ok => by subst h; exact s_lit (pe_int (X := X)) fun F => .int _ else .no
  | .S, .Constant (.bool i) j p, .bl k => if h : i = k then .yes fun W cl n X ok => by subst h; exact s_lit (pe_bl (X := X)) fun F => .bl _ else .no
  | .S, .Constant .none j p, .non => .yes fun W cl n X ok => s_lit (pe_non (X := X)) fun F => .non
  | .S, .Constant (.str i) j p, .str k => if h : i = toS k ∧ strV k = true then .yes fun W cl n X ok => by
      obtain ⟨h, h2⟩ := h
      subst h
      exact s_lit (pe_str (X := X)) fun F => .str _ h2
    else .no
  | _, _, _ => .no
mutual
def sameD : D → D → Bool
  | .non, .non => true
  | .bl a, .bl b => a == b
  | .int a, .int b => decide (a = b)
  | .str a, .str b => decide (a = b)
  | .tup a, .tup b => sameDs a b
  | .lst a, .lst b => sameDs a b
  | .frt a, .frt b => sameDs a b
  | .frl a, .frl b => sameDs a b
  | .frd a b, .frd a' b' => sameDs a a' && sameDs b b'
  | .fn a, .fn b => decide (a = b)
  | _, _ => false
def sameDs : List D → List D → Bool
  | [], [] => true
  | a :: r, b :: s => sameD a b && sameDs r s
  | _, _ => false
end
mutual
theorem sameD_eq : ∀ {a b : D}, sameD a b = true → a = b
  | .non, b, h => by cases b <;> first | rfl | (simp [sameD] at h; done)
  | .bl a, b, h => by cases b <;> first | (simp [sameD] at h; done) | (simp only [sameD, beq_iff_eq] at h; rw [h])
  | .int a, b, h => by cases b <;> first | (simp [sameD] at h; done) | (simp only [sameD, decide_eq_true_eq] at h; rw [h])
  | .str a, b, h => by cases b <;> first | (simp [sameD] at h; done) | (simp only [sameD, decide_eq_true_eq] at h; rw [h])
  | .tup a, b, h => by cases b <;> first | (simp [sameD] at h; done) | (simp only [sameD] at h; rw [sameDs_eq h])
  | .lst a, b, h => by cases b <;> first | (simp [sameD] at h; done) | (simp only [sameD] at h; rw [sameDs_eq h])
  | .frt a, b, h => by cases b <;> first | (simp [sameD] at h; done) | (simp only [sameD] at h; rw [sameDs_eq h])
  | .frl a, b, h => by cases b <;> first | (simp [sameD] at h; done) | (simp only [sameD] at h; rw [sameDs_eq h])
  | .frd a a', b, h => by cases b <;> first | (simp [sameD] at h; done) | (simp only [sameD, Bool.and_eq_true] at h; rw [sameDs_eq h.1, sameDs_eq h.2])
  | .fn a, b, h => by cases b <;> first | (simp [sameD] at h; done) | (simp only [sameD, decide_eq_true_eq] at h; rw [h])
  | .dct _ _ _, b, h => by cases b <;> (simp [sameD] at h; done)
  | .cell, b, h => by cases b <;> (simp [sameD] at h; done)
theorem sameDs_eq : ∀ {a b : List D}, sameDs a b = true → a = b
  | [], b, h => by cases b <;> first | rfl | (simp [sameDs] at h; done)
  | a :: r, b, h => by
    cases b with
    | nil => simp [sameDs] at h
    | cons x y =>
      simp only [sameDs, Bool.and_eq_true] at h
      rw [sameD_eq h.1, sameDs_eq h.2]
end
/-- the constants of the module -/
def inG : List (Str × D) → Str → D → Bool
  | [], _, _ => false
  | p :: r, x, d => if p.1 = x then sameD p.2 d else inG r x d
theorem inG_mem : ∀ {G : List (Str × D)} {x : Str} {d : D}, inG G x d = true → (x, d) ∈ G
  | [], _, _, h => by simp [inG] at h
  | p :: r, x, d, h => by
    unfold inG at h
    split at h
    · rename_i e
      have := sameD_eq h
      subst this; subst e
      exact List.mem_cons_self
    · exact List.mem_cons_of_mem _ (inG_mem h)
def kGc (d : D) (md : Md) (e : Expr) : CE P c md (.gc d) e := match md, e with
  | .S, .Name x p => if h : inG P.G x d = true ∧ glB c.sc x = true ∧ dbgB x = true then .yes fun W cl n X ok => by
      obtain ⟨v, u, h1, h2, h3⟩ := ok.gcs x d (inG_mem h.1)
      exact s_gc (pe_glob (ok.gl h.2.1) h1 h2 (dbg1 h.2.2)) h3
    else .no
  | _, _ => .no
def kV (i : Nat) (md : Md) (e : Expr) : CE P c md (.v i) e := match md with
  | .S => (cVar P c i e).map fun h W cl n X ok => s_v (h W cl n X ok)
  | _ => .no
def kB (i : Nat) (md : Md) (e : Expr) : CE P c md (.b i) e := match md with
  | .O => (cVar P c i e).map fun h W cl n X ok => r_b (h W cl n X ok)
  | _ => .no
/-! ### operators -/
def kOp (op : BOp) (o : Operator) : Chk (∀ (W : Wd) (X : Cx), X.K = W.K → ∃ r, OpR X (binaryOp o) r ∧ OpV W (binD op) r) := match op, o with
  | .add, .Add => .yes fun W X hK => ⟨_, op_addAll, opv_add hK⟩
  | .sub, .Sub => .yes fun W X hK => ⟨_, op_subAll, opv_sub⟩
  | .mul, .Mult => .yes fun W X hK => ⟨_, op_mulA, opv_mul⟩
  | .fdiv, .FloorDiv => .yes fun W X hK => ⟨_, op_fdivW, opv_fdiv⟩
  | .mod, .Mod => .yes fun W X hK => ⟨_, op_mod, opv_mod⟩
  | .pow, .Pow => .yes fun W X hK => ⟨_, op_pow, opv_pow⟩
  | _, _ => .no
def kCm (op : COp) (o : CmpOp) : Chk (∀ (W : Wd) (X : Cx), X.K = W.K → Hu X → ∃ r, OpR X (compareOp o) r ∧ OpV W (cmpD op) r) := match op, o with
  | .eq, .Eq => .yes fun W X hK hu => ⟨_, op_eqM (by have := hu.h; omega), opv_eq hK⟩
  | .ne, .NotEq => .yes fun W X hK hu => ⟨_, op_neM (by have := hu.h; omega), opv_ne hK⟩
  | .lt, .Lt => .yes fun W X hK hu => ⟨_, op_ltO, opv_lt⟩
  | .le, .LtE => .yes fun W X hK hu => ⟨_, op_leO, opv_le⟩
  | .gt, .Gt => .yes fun W X hK hu => ⟨_, op_gtO, opv_gt⟩
  | .ge, .GtE => .yes fun W X hK hu => ⟨_, op_geO, opv_ge⟩
  | .is, .Is => .yes fun W X hK hu => ⟨_, op_isN, opv_is⟩
  | .isnt, .IsNot => .yes fun W X hK hu => ⟨_, op_notN, opv_isnt⟩
  | .isin, .In => .yes fun W X hK hu => ⟨_, op_inAll hu, opv_in hK⟩
  | .notin, .NotIn => .yes fun W X hK hu => ⟨_, op_ninAll hu, opv_nin hK⟩
  | _, _ => .no
def kBin (op : BOp) {a b : E} (fa : Sub1 P c a) (fb : Sub1 P c b) (md : Md) (e : Expr) : CE P c md (.bin op a b) e := match md, e with
  | .S, .BinOp x o y pos => (kOp op o).bnd fun h => (gR fa x).bnd fun h1 => (gR fb y).map fun h2 W cl n X ok => by
      obtain ⟨r, q1, q2⟩ := h W X ok.K
      exact s_bin q1 q2 (h1 W cl n X ok) (h2 W cl n X ok)
  | _, _ => .no
def kCmp (op : COp) {a b : E} (fa : Sub1 P c a) (fb : Sub1 P c b) (md : Md) (e : Expr) : CE P c md (.cmp op a b) e := match e with
  | .Compare x [o] [y] pos => if hm : behindInMarks o y = false then (kCm op o).bnd fun h => (gR fa x).bnd fun h1 => (gR fb y).bnd fun h2 => match md with
      | .S => .yes fun W cl n X ok => by
        obtain ⟨r, q1, q2⟩ := h W X ok.K ok.hu
        exact s_cmp q1 q2 (h1 W cl n X ok) (h2 W cl n X ok) hm
      | .B => .yes fun W cl n X ok => by
        obtain ⟨r, q1, q2⟩ := h W X ok.K ok.hu
        exact b_cmp q1 q2 (h1 W cl n X ok) (h2 W cl n X ok) hm
      | _ => .no
    else .no
  | _ => .no
def kChain (op op' : COp) {a b d : E} (fa : Sub1 P c a) (fb : Sub1 P c b) (fd : Sub1 P c d) (md : Md) (e : Expr) : CE P c md (.chain op op' a b d) e := match e with
  | .Compare x [o, o'] [y, z] pos => if hm : lastMarks [o, o'] [y, z] = false then (kCm op o).bnd fun h => (kCm op' o').bnd fun h' => (gR fa x).bnd fun h1 => (gR fb y).bnd fun h2 => (gR fd z).bnd fun h3 => match md with
      | .S => .yes fun W cl n X ok => by
        obtain ⟨r, q1, q2⟩ := h W X ok.K ok.hu
        obtain ⟨r', q1', q2'⟩ := h' W X ok.K ok.hu
        exact s_chain q1 q1' q2 q2' (h1 W cl n X ok) (h2 W cl n X ok) (h3 W cl n X ok) hm
      | .B => .yes fun W cl n X ok => by
        obtain ⟨r, q1, q2⟩ := h W X ok.K ok.hu
        obtain ⟨r', q1', q2'⟩ := h' W X ok.K ok.hu
        exact b_chain q1 q1' q2 q2' (h1 W cl n X ok) (h2 W cl n X ok) (h3 W cl n X ok) hm
      | _ => .no
    else .no
  | _ => .no
def kNeg {a : E} (fa : Sub1 P c a) (md : Md) (e : Expr) : CE P c md (.neg a) e := match md, e with
  | .S, .UnaryOp .USub x pos => (gR fa x).map fun h W cl n X ok => s_neg (h W cl n X ok)
  | _, _ => .no
def kNot {a : E} (fa : Sub1 P c a) (md : Md) (e : Expr) : CE P c md (.not a) e := match md, e with
  | .S, .UnaryOp .Not x pos => (gR fa x).map fun h W cl n X ok => s_not ok.K (h W cl n X ok)
  | .B, .UnaryOp .Not x pos => (gB fa x).map fun h W cl n X ok => b_not (h W cl n X ok)
  | _, _ => .no
def kIte {a b d : E} (fa : Sub1 P c a) (fb : Sub1 P c b) (fd : Sub1 P c d) (md : Md) (e : Expr) : CE P c md (.ite a b d) e := match md, e with
  | .S, .IfExp x y z pos => (gB fa x).bnd fun h1 => (gS fb y).bnd fun h2 => (gS fd z).map fun h3 W cl n X ok => s_ite (h1 W cl n X ok) (h2 W cl n X ok) (h3 W cl n X ok)
  | .B, .IfExp x y z pos => (gB fa x).bnd fun h1 => (gB fb y).bnd fun h2 => (gB fd z).map fun h3 W cl n X ok => b_ite (h1 W cl n X ok) (h2 W cl n X ok) (h3 W cl n X ok)
  | _, _ => .no
/-! ### lists of expressions -/
inductive OneF (X : Cx) (W : Wd) (cl : Call) : Es → List Expr → Prop
  | one {m : E} {e : Expr} : PE X e (tF W cl m) → OneF X W cl (.cons m .nil) [e]
/-- one by one: to be looked at, to be handed on -/
inductive IndP (X : Cx) (W : Wd) (cl : Call) : List Bool → Es → List Expr → Prop
  | nil : IndP X W cl [] .nil []
  | look {bs : List Bool} {m : E} {ms : Es} {e : Expr} {es : List Expr} : PE X e (tR W cl m) → IndP X W cl bs ms es → IndP X W cl (false :: bs) (.cons m ms) (e :: es)
  | hand {bs : List Bool} {m : E} {ms : Es} {e : Expr} {es : List Expr} : PE X e (tS W cl m) → IndP X W cl bs ms es → IndP X W cl (true :: bs) (.cons m ms) (e :: es)
theorem f_orN {W : Wd} {X : Cx} {cl : Call} {m : E} {ms : Es} {x : Expr} {xs : List Expr} {pos : Pos} (hK : X.K = W.K) (h : PE X x (tF W cl m)) (h2 : OneF X W cl ms xs) : PE X (.BoolOp .Or (x :: xs) pos) (tF W cl (.or m ms)) := by
  cases h2 with
  | one h2 => exact f_or2 hK h h2
inductive Lk where | S | R | AS | AB | AF | P (bs : List Bool) | M (fl : List Bool)
def Rl (W : Wd) (cl : Call) (X : Cx) : Lk → Es → List Expr → Prop
  | .S, ms, es => PA X es (tSs W cl ms)
  | .R, ms, es => PA X es (tRs W cl ms)
  | .AS, ms, es => AllS X W cl ms es
  | .AB, ms, es => AllB X W cl ms es
  | .AF, ms, es => OneF X W cl ms es
  | .P bs, ms, es => IndP X W cl bs ms es
  | .M fl, ms, es => PA X es (tMs W cl fl ms)
abbrev CL (P : Pa) (c : Ct) (k : Lk) (ms : Es) (es : List Expr) : Type := Chk (∀ (W : Wd) (cl : Call) (n : Nat) (X : Cx), XOk P c W cl n X → Rl W cl X k ms es)
abbrev SubL (P : Pa) (c : Ct) (ms : Es) : Type := (k : Lk) → (es : List Expr) → CL P c k ms es
def kNil (k : Lk) (es : List Expr) : CL P c k .nil es := match k, es with
  | .S, [] => .yes fun W cl n X ok => as_nil
  | .R, [] => .yes fun W cl n X ok => ar_nil
  | .AS, [] => .yes fun W cl n X ok => .nil
  | .AB, [] => .yes fun W cl n X ok => .nil
  | .P [], [] => .yes fun W cl n X ok => .nil
  | .M [], [] => .yes fun W cl n X ok => am_nil
  | _, _ => .no
def kCons {m : E} {ms : Es} (fa : Sub1 P c m) (fr : SubL P c ms) (k : Lk) (es : List Expr) : CL P c k (.cons m ms) es := match es with
  | [] => .no
  | e :: es => match k with
    | .S => if hs : notStar e = true then (gS fa e).bnd fun h => (fr .S es).map fun h2 W cl n X ok => as_cons (h W cl n X ok) (h2 W cl n X ok) hs else .no
    | .R => if hs : notStar e = true then (gR fa e).bnd fun h => (fr .R es).map fun h2 W cl n X ok => ar_cons (h W cl n X ok) (h2 W cl n X ok) hs else .no
    | .AS => (gS fa e).bnd fun h => (fr .AS es).map fun h2 W cl n X ok => .cons (h W cl n X ok) (h2 W cl n X ok)
    | .AF => match ms, es with
      | .nil, [] => (fa .F e).map fun h W cl n X ok => .one (h W cl n X ok)
      | _, _ => .no
    | .P [] => .no
    | .P (false :: bs) => (gR fa e).bnd fun h => (fr (.P bs) es).map fun h2 W cl n X ok => .look (h W cl n X ok) (h2 W cl n X ok)
    | .P (true :: bs) => (gS fa e).bnd fun h => (fr (.P bs) es).map fun h2 W cl n X ok => .hand (h W cl n X ok) (h2 W cl n X ok)
    | .AB => (gB fa e).bnd fun h => (fr .AB es).map fun h2 W cl n X ok => .cons (h W cl n X ok) (h2 W cl n X ok)
    | .M [] => .no
    | .M (b :: fl) => if hs : notStar e = true then (match b with
      | false => (gS fa e).bnd fun h => (fr (.M fl) es).map fun h2 W cl n X ok => am_val (h W cl n X ok) (h2 W cl n X ok) hs
      | true => (fa .F e).bnd fun h => (fr (.M fl) es).map fun h2 W cl n X ok => am_own (h W cl n X ok) (h2 W cl n X ok) hs) else .no
def kTup {ms : Es} (fs : SubL P c ms) (md : Md) (e : Expr) : CE P c md (.tup ms) e := match md, e with
  | .S, .Tuple es k pos => if hl : ms.len ≤ 1000 then (fs .S es).map fun h W cl n X ok => s_tup (h W cl n X ok) hl else .no
  | _, _ => .no
def kLst {ms : Es} (fs : SubL P c ms) (md : Md) (e : Expr) : CE P c md (.lst ms) e := match md, e with
  | .F, .List es pos => if hl : ms.len ≤ 1000 then (fs .S es).map fun h W cl n X ok => f_lst (h W cl n X ok) hl else .no
  | _, _ => .no
def kAnd {m : E} {ms : Es} (fa : Sub1 P c m) (fs : SubL P c ms) (md : Md) (e : Expr) : CE P c md (.and m ms) e := match md, e with
  | .S, .BoolOp .And (x :: xs) pos => (gS fa x).bnd fun h => (fs .AS xs).map fun h2 W cl n X ok => s_and ok.K (h W cl n X ok) (h2 W cl n X ok)
  | .B, .BoolOp .And (x :: xs) pos => (gB fa x).bnd fun h => (fs .AB xs).map fun h2 W cl n X ok => (b_and (h W cl n X ok) (h2 W cl n X ok)).pt
  | _, _ => .no
def kOr {m : E} {ms : Es} (fa : Sub1 P c m) (fs : SubL P c ms) (md : Md) (e : Expr) : CE P c md (.or m ms) e := match md, e with
  | .F, .BoolOp .Or (x :: xs) pos => (fa .F x).bnd fun h => (fs .AF xs).map fun h2 W cl n X ok => f_orN ok.K (h W cl n X ok) (h2 W cl n X ok)
  | .S, .BoolOp .Or (x :: xs) pos => (gS fa x).bnd fun h => (fs .AS xs).map fun h2 W cl n X ok => s_or ok.K (h W cl n X ok) (h2 W cl n X ok)
  | .B, .BoolOp .Or (x :: xs) pos => (gB fa x).bnd fun h => (fs .AB xs).map fun h2 W cl n X ok => (b_or (h W cl n X ok) (h2 W cl n X ok)).pt
  | _, _ => .no
/-! ### calls -/
def kCall (f : Nat) {ms : Es} (fs : SubL P c ms) (md : Md) (e : Expr) : CE P c md (.call f ms) e := match e with
  | .Call (.Name x p) es [] pos => Chk.opt (P.Sg f) fun nf hn => if h : nf.1 = x ∧ glB c.sc x = true ∧ dbgB x = true ∧ es.all notStar = true then (match md, h2 : nf.2, es with
      | .S, false, [] => match ms with
        | .nil => .yes fun W cl n X ok => s_call0 (by have := ok.fns f nf.1 nf.2 hn; rw [h2, h.1] at this; exact this) ok.room (ok.gl h.2.1) (dbg1 h.2.2.1)
        | _ => .no
      | .S, false, e :: es => (fs .S (e :: es)).map fun h3 W cl n X ok => s_call (by have := ok.fns f nf.1 nf.2 hn; rw [h2, h.1] at this; exact this) ok.room (ok.gl h.2.1) (h3 W cl n X ok) h.2.2.2 (dbg1 h.2.2.1)
      | .F, true, e :: es => (fs .S (e :: es)).map fun h3 W cl n X ok => f_call (by have := ok.fns f nf.1 nf.2 hn; rw [h2, h.1] at this; exact this) ok.room (ok.gl h.2.1) (h3 W cl n X ok) h.2.2.2 (dbg1 h.2.2.1)
      | _, _, _ => .no) else .no
  | _ => .no
def tyX (x : Str) (T : Ty) : Bool := decide (x = Str.ofString (tyN T))
def cTys (P : Pa) (c : Ct) : (tys : List Ty) → (es : List Expr) → Chk (∀ (W : Wd) (cl : Call) (n : Nat) (X : Cx), XOk P c W cl n X → TyNames X tys es)
  | [], [] => .yes fun W cl n X ok => .nil
  | T :: tys, .Name x p :: es => if h : x = Str.ofString (tyN T) ∧ glB c.sc x = true then (cTys P c tys es).map fun h2 W cl n X ok => by
      obtain ⟨rfl, hg⟩ := h
      exact .cons (ok.gl hg) (by cases T <;> first | exact ok.blt.int | exact ok.blt.bool | exact ok.blt.str | exact ok.blt.tuple | exact ok.blt.list) (h2 W cl n X ok)
    else .no
  | _, _ => .no
def kIsi {m : E} (tys : List Ty) (fa : Sub1 P c m) (md : Md) (e : Expr) : CE P c md (.isi m tys) e := match md, e with
  | .S, .Call (.Name x p) [y, t] [] pos => if h : x = ("isinstance" : Str) ∧ glB c.sc x = true ∧ notStar y = true then (match tys, t with
    | [T], .Name z p2 => if h2 : z = Str.ofString (tyN T) ∧ glB c.sc z = true then (gR fa y).map fun h3 W cl n X ok => by
        obtain ⟨rfl, hg⟩ := h2
        obtain ⟨rfl, h4, h5⟩ := h
        exact s_isi1 ok.K (ok.gl h4) ok.blt.isinstance (h3 W cl n X ok) (ok.gl hg) (by cases T <;> first | exact ok.blt.int | exact ok.blt.bool | exact ok.blt.str | exact ok.blt.tuple | exact ok.blt.list) h5
      else .no
    | tys, .Tuple ts k p2 => if hl : tys.length ≤ 1000 then (cTys P c tys ts).bnd fun h2 => (gR fa y).map fun h3 W cl n X ok => by
        obtain ⟨rfl, h4, h5⟩ := h
        exact s_isiN ok.K (ok.gl h4) ok.blt.isinstance (h3 W cl n X ok) (h2 W cl n X ok) hl h5
      else .no
    | _, _ => .no) else .no
  | _, _ => .no
/-! ### subscripts -/
def notSl : Expr → Bool
  | .Slice .. => false
  | _ => true
theorem plainIx {e : Expr} (h : notSl e = true) : PlainIx e := by
  cases e <;> first | (intro o i; rfl) | cases h
def kIdx {a i : E} (fa : Sub1 P c a) (fi : Sub1 P c i) (md : Md) (e : Expr) : CE P c md (.idx a i) e := match md, e with
  | .S, .Subscript x y pos => if h : notSl y = true then (gR fa x).bnd fun h1 => (gR fi y).map fun h2 W cl n X ok => s_idx ok.hu ok.K (h1 W cl n X ok) (h2 W cl n X ok) (plainIx h) else .no
  | _, _ => .no
abbrev SubO (P : Pa) (c : Ct) (o : Oe) : Type := ((e : Option Expr) → Chk (∀ (W : Wd) (cl : Call) (n : Nat) (X : Cx), XOk P c W cl n X → PO X e (tO W cl o))) × ((es : List Expr) → Chk (∀ (W : Wd) (cl : Call) (n : Nat) (X : Cx), XOk P c W cl n X → PTs X es (tCo W cl o)))
def kNo : SubO P c .no := (fun e => match e with
  | none => .yes fun W cl n X ok => o_no
  | _ => .no, fun es => match es with
  | [] => .yes fun W cl n X ok => co_no
  | _ => .no)
def kSo {m : E} (fa : Sub1 P c m) : SubO P c (.so m) := (fun e => match e with
  | some e => (gR fa e).map fun h W cl n X ok => o_so (h W cl n X ok)
  | _ => .no, fun es => match es with
  | [e] => (gB fa e).map fun h W cl n X ok => co_so (h W cl n X ok)
  | _ => .no)
def kSl {a : E} {lo hi : Oe} (fa : Sub1 P c a) (fl : SubO P c lo) (fh : SubO P c hi) (md : Md) (e : Expr) : CE P c md (.sl a lo hi) e := match md, e with
  | .S, .Subscript x (.Slice l h none p2) pos => (gR fa x).bnd fun h1 => (fl.1 l).bnd fun h2 => (fh.1 h).map fun h3 W cl n X ok => s_sl ok.K (h1 W cl n X ok) (h2 W cl n X ok) (h3 W cl n X ok)
  | _, _ => .no
/-! ### comprehensions, what is walked -/
def notSet : Expr → Bool
  | .Set .. => false
  | _ => true
theorem fsi {e : Expr} (h : notSet e = true) (env : Env) (x : Value) : foldedSetIterable e env x = pure x := by
  cases e <;> first | rfl | cases h
def Ri (W : Wd) (cl : Call) (X : Cx) (st : Bool) (it : It) (tg e : Expr) : Prop := if st = true then PI X tg e (tIs W cl it) else PI X tg e (tI W cl it)
abbrev SubI (P : Pa) (c : Ct) (it : It) : Type := (st : Bool) → (tg e : Expr) → Chk (∀ (W : Wd) (cl : Call) (n : Nat) (X : Cx), XOk P c W cl n X → Ri W cl X st it tg e)
def okI {it : It} {tg e : Expr} (st : Bool) (h : ∀ (W : Wd) (cl : Call) (n : Nat) (X : Cx), XOk P c W cl n X → PI X tg e (tIs W cl it)) : ∀ (W : Wd) (cl : Call) (n : Nat) (X : Cx), XOk P c W cl n X → Ri W cl X st it tg e := fun W cl n X ok => by
  unfold Ri
  split
  · exact h W cl n X ok
  · exact i_weak (h W cl n X ok)
def kIe {m : E} (fa : Sub1 P c m) : SubI P c (.e m) := fun st tg e => (gS fa e).map fun h => okI st fun W cl n X ok => is_e ok.K (h W cl n X ok)
def kIb (i : Nat) : SubI P c (.b i) := fun st tg e => match st with
  | false => (cVar P c i e).map fun h W cl n X ok => i_b (r_b (h W cl n X ok))
  | true => .no
def kR1 {m : E} (fa : Sub1 P c m) : SubI P c (.range1 m) := fun st tg e => match e with
  | .Call (.Name x p) [y] [] pos => if h : x = ("range" : Str) ∧ glB c.sc x = true ∧ notStar y = true then (gR fa y).map fun h1 => okI st fun W cl n X ok => by
      obtain ⟨rfl, h4, h5⟩ := h
      exact is_range1 (ok.gl h4) ok.blt.range (h1 W cl n X ok) h5
    else .no
  | _ => .no
def kR2 {m m2 : E} (fa : Sub1 P c m) (fb : Sub1 P c m2) : SubI P c (.range2 m m2) := fun st tg e => match e with
  | .Call (.Name x p) [y, z] [] pos => if h : x = ("range" : Str) ∧ glB c.sc x = true ∧ notStar y = true ∧ notStar z = true then (gR fa y).bnd fun h1 => (gR fb z).map fun h2 => okI st fun W cl n X ok => by
      obtain ⟨rfl, h4, h5, h6⟩ := h
      exact is_range2 (ok.gl h4) ok.blt.range (h1 W cl n X ok) (h2 W cl n X ok) h5 h6
    else .no
  | _ => .no
def kEn {m : E} (fa : Sub1 P c m) : SubI P c (.enum m) := fun st tg e => match tg, e with
  | .Tuple elts kk tpos, .Call (.Name x p) [y] [] pos => if h : x = ("enumerate" : Str) ∧ glB c.sc x = true ∧ notStar y = true then (gS fa y).map fun h1 => okI st fun W cl n X ok => by
      obtain ⟨rfl, h4, h5⟩ := h
      exact is_enumA ok.K (ok.gl h4) ok.blt.enumerate (h1 W cl n X ok) h5
    else .no
  | _, _ => .no
def kZi {m m2 : E} (fa : Sub1 P c m) (fb : Sub1 P c m2) : SubI P c (.zip m m2) := fun st tg e => match tg, e with
  | .Tuple elts kk tpos, .Call (.Name x p) [y, z] [] pos => if h : x = ("zip" : Str) ∧ glB c.sc x = true ∧ notStar y = true ∧ notStar z = true then (gS fa y).bnd fun h1 => (gS fb z).map fun h2 => okI st fun W cl n X ok => by
      obtain ⟨rfl, h4, h5, h6⟩ := h
      exact is_zip ok.K (ok.gl h4) ok.blt.zip (h1 W cl n X ok) (h2 W cl n X ok) h5 h6
    else .no
  | _, _ => .no
theorem swB_l {sc s : Scope} {y : Str} {py p : Pos} (h : swB sc s y py p = true) : isLoc sc y = true := by
  unfold swB at h; rw [Bool.and_eq_true, Bool.and_eq_true] at h; exact h.1.1
theorem XOk.knd {W : Wd} {cl : Call} {n : Nat} {X : Cx} (ok : XOk P c W cl n X) (hf : funB c.sc = true) : X.env.scope.kind = .function := by
  rw [ok.sc]
  unfold funB at hf
  split at hf
  · assumption
  · cases hf
theorem XOk.sw {W : Wd} {cl : Call} {n : Nat} {X : Cx} (ok : XOk P c W cl n X) {elt : Expr} {gs : List Comprehension} {s : Scope} {y : Str} {py p : Pos} {l : Nat} (hf : funB c.sc = true) (h : swB c.sc s y py p = true) : swapsWith (.ListComp elt gs s p) (some (.Name y py)) l X.env = pure true := by
  have hl := ok.isl (swB_l h)
  unfold swB at h
  rw [Bool.and_eq_true, Bool.and_eq_true, Bool.not_eq_true'] at h
  exact sw_true (ok.knd hf) hl h.1.2 h.2
theorem XOk.swNo {W : Wd} {cl : Call} {n : Nat} {X : Cx} (ok : XOk P c W cl n X) {elt : Expr} {gs : List Comprehension} {s : Scope} {y : Str} {py p : Pos} {l : Nat} (hf : funB c.sc = true) (h : swB c.sc s y py p = false) : swapsWith (.ListComp elt gs s p) (some (.Name y py)) l X.env = pure false := by
  show pure (X.env.blockKind == .function && X.env.kindOf y == some .local && py.line == p.line && !(s.names.any fun (n, k) => n == y && (k == .local || k == .cell))) = _
  have e : (X.env.blockKind == .function && X.env.kindOf y == some .local && py.line == p.line && !(s.names.any fun (n, k) => n == y && (k == .local || k == .cell))) = false := by
    have e1 : X.env.blockKind = .function := by
      unfold Env.blockKind
      rw [ok.knd hf]
      rfl
    have e2 : (X.env.kindOf y == some .local) = isLoc c.sc y := by
      unfold Env.kindOf isLoc
      rw [ok.sc]
      cases c.sc.names.lookup y with
      | none => rfl
      | some k => cases k <;> rfl
    rw [e1, e2]
    unfold swB at h
    rw [← h]
    rfl
  rw [e]
def ownOf (N : List Str) (vs : List Nat) : List (Str × Nat) := vs.map fun i => (N.getD i (toS []), i)
theorem ownOf_ix (N : List Str) (vs : List Nat) : (ownOf N vs).map (·.2) = vs := by
  unfold ownOf
  rw [List.map_map]
  exact List.map_id vs
def kComp {m : E} {t : Tg} {it : It} {o : Oe} (fi : SubI P c it) (fo : (c' : Ct) → SubO P c' o) (fm : (c' : Ct) → Sub1 P c' m) (md : Md) (e : Expr) : CE P c md (.comp m (.mk t it o)) e := match md, e with
  | .F, .ListComp elt [⟨tg, iter, ifs, 0⟩] scope pos => if h : notSet iter = true ∧ blkC c.N c.sc scope (ownOf c.N t.vars) = true then
      (fi false tg iter).bnd fun h1 => (cT P (c.blk scope) t tg).bnd fun h2 => ((fo (c.blk scope)).2 ifs).bnd fun h3 => (gS (fm (c.blk scope)) elt).map fun h4 W cl n X ok =>
        f_comp ok.calm ok.ndX (h1 W cl n X ok) (by rw [ok.N, ok.sc]; exact blkOk_by h.2) (ownOf_ix _ _) (fun s H C cs fp => h2 W cl n _ (ok.blk scope s H C cs fp)) (fun s H C cs fp => h3 W cl n _ (ok.blk scope s H C cs fp)) (fun s H C cs fp => h4 W cl n _ (ok.blk scope s H C cs fp)) (fsi h.1 _)
    else .no
  | .A i y py spos, .ListComp elt [⟨tg, iter, ifs, 0⟩] scope pos => if h : notSet iter = true ∧ blkC c.N c.sc scope (ownOf c.N t.vars) = true ∧ c.N[i]? = some y ∧ funB c.sc = true ∧ swB c.sc scope y py pos = true then
      (fi false tg iter).bnd fun h1 => (cT P (c.blk scope) t tg).bnd fun h2 => ((fo (c.blk scope)).2 ifs).bnd fun h3 => (gS (fm (c.blk scope)) elt).map fun h4 W cl n X ok =>
        (ps_setLc ok.calm ok.ndX (by rw [ok.N]; exact h.2.2.1) (ok.isl (swB_l h.2.2.2.2)) (ok.sw h.2.2.2.1 h.2.2.2.2) (h1 W cl n X ok) (by rw [ok.N, ok.sc]; exact blkOk_by h.2.1) (fun s H C cs fp => h2 W cl n _ (ok.blk scope s H C cs fp)) (fun s H C cs fp => h3 W cl n _ (ok.blk scope s H C cs fp)) (fun s H C cs fp => h4 W cl n _ (ok.blk scope s H C cs fp)) (fsi h.1 _)).imp fun D σ H q => lc_imp (ownOf_ix _ _) σ H _ q
    else .no
  | _, _ => .no
def kComp2 {m : E} {t t2 : Tg} {it it2 : It} {o o2 : Oe} (fi : SubI P c it) (fo : (c' : Ct) → SubO P c' o) (fi2 : (c' : Ct) → SubI P c' it2) (fo2 : (c' : Ct) → SubO P c' o2) (fm : (c' : Ct) → Sub1 P c' m) (md : Md) (e : Expr) : CE P c md (.comp2 m (.mk t it o) (.mk t2 it2 o2)) e := match md, e with
  | .F, .ListComp elt [⟨tg, iter, ifs, 0⟩, ⟨tg2, iter2, ifs2, 0⟩] scope pos => if h : notSet iter = true ∧ notSet iter2 = true ∧ blkC c.N c.sc scope (ownOf c.N (t.vars ++ t2.vars)) = true then
      (fi false tg iter).bnd fun h1 => (cT P (c.blk scope) t tg).bnd fun h2 => ((fo (c.blk scope)).2 ifs).bnd fun h3 => (gS (fm (c.blk scope)) elt).bnd fun h4 => (fi2 (c.blk scope) true tg2 iter2).bnd fun h5 => (cT P (c.blk scope) t2 tg2).bnd fun h6 => ((fo2 (c.blk scope)).2 ifs2).map fun h7 W cl n X ok =>
        f_comp2 ok.calm ok.ndX (h1 W cl n X ok) (by rw [ok.N, ok.sc]; exact blkOk_by h.2.2) (ownOf_ix _ _) (fun s H C cs fp => h2 W cl n _ (ok.blk scope s H C cs fp)) (fun s H C cs fp => h3 W cl n _ (ok.blk scope s H C cs fp)) (fun s H C cs fp => h5 W cl n _ (ok.blk scope s H C cs fp)) (fun s H C cs fp => h6 W cl n _ (ok.blk scope s H C cs fp)) (fun s H C cs fp => h7 W cl n _ (ok.blk scope s H C cs fp)) (fun s H C cs fp => h4 W cl n _ (ok.blk scope s H C cs fp)) (fsi h.1 _) (fun env x => fsi h.2.1 env x)
    else .no
  | .A i y py spos, .ListComp elt [⟨tg, iter, ifs, 0⟩, ⟨tg2, iter2, ifs2, 0⟩] scope pos => if h : notSet iter = true ∧ notSet iter2 = true ∧ blkC c.N c.sc scope (ownOf c.N (t.vars ++ t2.vars)) = true ∧ c.N[i]? = some y ∧ funB c.sc = true ∧ swB c.sc scope y py pos = true then
      (fi false tg iter).bnd fun h1 => (cT P (c.blk scope) t tg).bnd fun h2 => ((fo (c.blk scope)).2 ifs).bnd fun h3 => (gS (fm (c.blk scope)) elt).bnd fun h4 => (fi2 (c.blk scope) true tg2 iter2).bnd fun h5 => (cT P (c.blk scope) t2 tg2).bnd fun h6 => ((fo2 (c.blk scope)).2 ifs2).map fun h7 W cl n X ok =>
        (ps_setLc2 ok.calm ok.ndX (vs1 := t2.vars) (by rw [ok.N]; exact h.2.2.2.1) (ok.isl (swB_l h.2.2.2.2.2)) (ok.sw h.2.2.2.2.1 h.2.2.2.2.2) (h1 W cl n X ok) (by rw [ok.N, ok.sc]; exact blkOk_by h.2.2.1) (fun i hi => by rw [ownOf_ix]; exact List.mem_append_right _ hi) (fun s H C cs fp => h2 W cl n _ (ok.blk scope s H C cs fp)) (fun s H C cs fp => h3 W cl n _ (ok.blk scope s H C cs fp)) (fun s H C cs fp => h5 W cl n _ (ok.blk scope s H C cs fp)) (fun s H C cs fp => h6 W cl n _ (ok.blk scope s H C cs fp)) (fun s H C cs fp => h7 W cl n _ (ok.blk scope s H C cs fp)) (fun s H C cs fp => h4 W cl n _ (ok.blk scope s H C cs fp)) (fsi h.1 _) (fun env x => fsi h.2.1 env x)).imp fun D σ H q => lc2_imp (ownOf_ix _ _) σ H _ q
    else .no
  | _, _ => .no
end
end Mi

set_option Elab.async false
set_option linter.all false
set_option maxRecDepth 100000
set_option maxHeartbeats 4000000
namespace Mi
open PySem PySem.Spec PyProof.Rows L2

section
variable {W : Wd} {X : Cx} {cl : Call}
/-- a built-in called by its name: looked at by values -/
def BiC (X : Cx) (x : Str) (r : List V → Hp → VK → Prop) : Prop := (∃ id, CallR X (.builtin id) r ∧ bootBuiltins x = some (.builtin id)) ∨ ∃ T, CallR X (.type T) r ∧ bootBuiltins x = some (.type T)
def nmB (x : Str) : Bool := decide (x ≠ "__name__") && dbgB x
theorem s_bi {f : Bi} {ms : Es} {x : Str} {r : List V → Hp → VK → Prop} {e : Expr} {es : List Expr} {p pos : Pos} (hc : BiC X x r) (hv : BiV W f (fun _ => True) r) (hg : Gl X x) (hm : X.mg x = none) (ha : PA X (e :: es) (tRs W cl ms)) (hs : (e :: es).all notStar = true) (hn : nmB x = true) :
    PE X (.Call (.Name x p) (e :: es) [] pos) (tS W cl (.bi f ms)) := by
  unfold nmB at hn
  rw [Bool.and_eq_true, decide_eq_true_eq] at hn
  rcases hc with ⟨id, h1, h2⟩ | ⟨T, h1, h2⟩
  · exact s_biB h1 hv hg hm h2 ha hs hn.1 (dbg1 hn.2)
  · exact s_biT h1 hv hg hm h2 ha hs hn.1 (dbg1 hn.2)
theorem f_bi {f : Bi} {ms : Es} {x : Str} {r : List V → Hp → VK → Prop} {e : Expr} {es : List Expr} {p pos : Pos} (hc : BiC X x r) (hv : BiF W f r) (hg : Gl X x) (hm : X.mg x = none) (ha : PA X (e :: es) (tRs W cl ms)) (hs : (e :: es).all notStar = true) (hn : nmB x = true) :
    PE X (.Call (.Name x p) (e :: es) [] pos) (tF W cl (.bi f ms)) := by
  unfold nmB at hn
  rw [Bool.and_eq_true, decide_eq_true_eq] at hn
  rcases hc with ⟨id, h1, h2⟩ | ⟨T, h1, h2⟩
  · exact f_biB h1 hv hg hm h2 ha hs hn.1 (dbg1 hn.2)
  · exact f_biT h1 hv hg hm h2 ha hs hn.1 (dbg1 hn.2)
theorem bi_all : BiV W .all (fun _ => True) (rAll W.K) := bi_bools (g := fun bs => bs.all id) (fun ds d h => by
  match ds, h with
  | [.lst xs], h =>
    have h' : (boolsD xs).map (fun bs => D.bl (bs.all id)) = some d := h
    cases e : boolsD xs with
    | none => rw [e] at h'; cases h'
    | some bs => rw [e] at h'; cases h'; exact ⟨xs, bs, rfl, e, rfl⟩) fun p bs H Q h q => ⟨p, bs, rfl, h, q⟩
theorem bi_any : BiV W .any (fun _ => True) (rAny W.K) := bi_bools (g := fun bs => bs.any id) (fun ds d h => by
  match ds, h with
  | [.lst xs], h =>
    have h' : (boolsD xs).map (fun bs => D.bl (bs.any id)) = some d := h
    cases e : boolsD xs with
    | none => rw [e] at h'; cases h'
    | some bs => rw [e] at h'; cases h'; exact ⟨xs, bs, rfl, e, rfl⟩) fun p bs H Q h q => ⟨p, bs, rfl, h, q⟩
end
end Mi

set_option Elab.async false
set_option linter.all false
set_option maxRecDepth 100000
set_option maxHeartbeats 4000000
namespace Mi
open PySem PySem.Spec PyProof.Rows L2

section
variable {P : Pa} {c : Ct}
def BiS (x : Str) (f : Bi) : Prop := ∀ (P : Pa) (c : Ct) (W : Wd) (cl : Call) (n : Nat) (X : Cx), XOk P c W cl n X → ∃ r, BiC X x r ∧ BiV W f (fun _ => True) r ∧ X.mg x = none
def BiN (x : Str) (f : Bi) : Prop := ∀ (P : Pa) (c : Ct) (W : Wd) (cl : Call) (n : Nat) (X : Cx), XOk P c W cl n X → ∃ r, BiC X x r ∧ BiF W f r ∧ X.mg x = none
def biS (f : Bi) (x : Str) : Chk (BiS x f) := match f with
  | .len => if h : x = ("len" : Str) then .yes fun P c W cl n X ok => by subst h; exact ⟨_, .inl ⟨_, call_lenA, PySem.boot_len⟩, bi_len ok.K, ok.blt.len⟩ else .no
  | .abs => if h : x = ("abs" : Str) then .yes fun P c W cl n X ok => by subst h; exact ⟨_, .inl ⟨_, call_abs, by decide +kernel⟩, bi_abs, ok.blt.abs⟩ else .no
  | .int => if h : x = ("int" : Str) then .yes fun P c W cl n X ok => by subst h; exact ⟨_, .inr ⟨_, call_int1, by decide +kernel⟩, bi_int, ok.blt.int⟩ else .no
  | .sum => if h : x = ("sum" : Str) then .yes fun P c W cl n X ok => by subst h; exact ⟨_, .inl ⟨_, ok.K ▸ cr_sum ok.calm, by decide +kernel⟩, bi_sum, ok.blt.sum⟩ else .no
  | .max1 => if h : x = ("max" : Str) then .yes fun P c W cl n X ok => by subst h; exact ⟨_, .inl ⟨_, ok.K ▸ cr_max ok.calm, by decide +kernel⟩, bi_max1, ok.blt.max⟩ else .no
  | .max2 => if h : x = ("max" : Str) then .yes fun P c W cl n X ok => by subst h; exact ⟨_, .inl ⟨_, call_max2 ok.calm, by decide +kernel⟩, bi_max2, ok.blt.max⟩ else .no
  | .min1 => if h : x = ("min" : Str) then .yes fun P c W cl n X ok => by subst h; exact ⟨_, .inl ⟨_, ok.K ▸ cr_min ok.calm, by decide +kernel⟩, bi_min1, ok.blt.min⟩ else .no
  | .min2 => if h : x = ("min" : Str) then .yes fun P c W cl n X ok => by subst h; exact ⟨_, .inl ⟨_, call_min2 ok.calm, by decide +kernel⟩, bi_min2, ok.blt.min⟩ else .no
  | .all => if h : x = ("all" : Str) then .yes fun P c W cl n X ok => by subst h; exact ⟨_, .inl ⟨_, ok.K ▸ cr_all ok.calm, by decide +kernel⟩, bi_all, ok.blt.all⟩ else .no
  | .any => if h : x = ("any" : Str) then .yes fun P c W cl n X ok => by subst h; exact ⟨_, .inl ⟨_, ok.K ▸ cr_any ok.calm, by decide +kernel⟩, bi_any, ok.blt.any⟩ else .no
  | .tuple => if h : x = ("tuple" : Str) then .yes fun P c W cl n X ok => by subst h; exact ⟨_, .inr ⟨_, call_tuple_of, by decide +kernel⟩, bi_tuple ok.K, ok.blt.tuple⟩ else .no
  | _ => .no
def biN (f : Bi) (x : Str) : Chk (BiN x f) := match f with
  | .list => if h : x = ("list" : Str) then .yes fun P c W cl n X ok => by subst h; exact ⟨_, .inr ⟨_, call_list_of, by decide +kernel⟩, bi_list ok.K, ok.blt.list⟩ else .no
  | .sorted => if h : x = ("sorted" : Str) then .yes fun P c W cl n X ok => by subst h; exact ⟨_, .inl ⟨_, cr_sortAll ok.calm ok.hu.h, by decide +kernel⟩, bi_sorted ok.K, ok.blt.sorted⟩ else .no
  | .dict 0 => if h : x = ("dict" : Str) then .yes fun P c W cl n X ok => by subst h; exact ⟨_, .inr ⟨_, cr_dictAll ok.calm ok.hu.h, by decide +kernel⟩, bi_dict0 ok.K, ok.blt.dict⟩ else .no
  | .dict 1 => if h : x = ("dict" : Str) then .yes fun P c W cl n X ok => by subst h; exact ⟨_, .inr ⟨_, cr_dictAll ok.calm ok.hu.h, by decide +kernel⟩, bi_dict1 ok.K, ok.blt.dict⟩ else .no
  | _ => .no
def kBiCall (f : Bi) {ms : Es} (fs : SubL P c ms) (x : Str) (p : Pos) (es : List Expr) (pos : Pos) : CE P c .F (.bi f ms) (.Call (.Name x p) es [] pos) := match es with
  | e :: es => if hh : glB c.sc x = true ∧ (e :: es).all notStar = true ∧ nmB x = true then (biN f x).bnd fun h => (fs .R (e :: es)).map fun h2 W cl n X ok => by
      obtain ⟨r, h3, h4, h5⟩ := h P c W cl n X ok
      exact f_bi h3 h4 (ok.gl hh.1) h5 (h2 W cl n X ok) hh.2.1 hh.2.2
    else .no
  | [] => .no
def kBiC0 (f : Bi) {ms : Es} (fs : SubL P c ms) (md : Md) (e : Expr) : CE P c md (.bi f ms) e := match md, e with
  | .S, .Call (.Name x p) (e :: es) [] pos => if hh : glB c.sc x = true ∧ (e :: es).all notStar = true ∧ nmB x = true then (biS f x).bnd fun h => (fs .R (e :: es)).map fun h2 W cl n X ok => by
      obtain ⟨r, h3, h4, h5⟩ := h P c W cl n X ok
      exact s_bi h3 h4 (ok.gl hh.1) h5 (h2 W cl n X ok) hh.2.1 hh.2.2
    else .no
  | .S, .Call (.Attribute o x apos) [y, z] [] cpos => match f with
    | .get => if hh : x = ("get" : Str) ∧ plainBase o = true ∧ notStar y = true ∧ notStar z = true ∧ (apos.endLine == cpos.line) = true then (fs (.P [false, false, true]) [o, y, z]).map fun h W cl n X ok => by
        obtain ⟨rfl, h1, h2, h3, h4⟩ := hh
        have q : IndP X W cl [false, false, true] ms [o, y, z] := h W cl n X ok
        cases q with
        | look a q => cases q with
          | look b q => cases q with
            | hand d q => cases q with
              | nil => exact s_get (by have := ok.hu.h; omega) a b d h1 h2 h3 h4
      else .no
    | _ => .no
  | .S, .Call (.Attribute o x apos) [y] [] cpos => match f with
    | .count => if hh : x = ("count" : Str) ∧ plainBase o = true ∧ notStar y = true ∧ (apos.endLine == cpos.line) = true then (fs (.P [false, false]) [o, y]).map fun h W cl n X ok => by
        obtain ⟨rfl, h1, h2, h3⟩ := hh
        have q : IndP X W cl [false, false] ms [o, y] := h W cl n X ok
        cases q with
        | look a q => cases q with
          | look b q => cases q with
            | nil => exact s_count ok.K a b h1 h2 h3
      else .no
    | _ => .no
  | .F, .Call (.Name x p) [.Call (.Name y p2) [a] [] q] [] pos => match f with
    | .sortedSet => if hh : x = ("sorted" : Str) ∧ y = ("set" : Str) ∧ glB c.sc x = true ∧ glB c.sc y = true ∧ notStar a = true then (fs (.P [false]) [a]).map fun h W cl n X ok => by
        obtain ⟨rfl, rfl, h1, h2, h3⟩ := hh
        have q : IndP X W cl [false] ms [a] := h W cl n X ok
        cases q with
        | look b q => cases q with
          | nil => exact f_sortedSet ok.K ok.calm (ok.gl h1) ok.blt.sorted (ok.gl h2) ok.blt.set b h3
      else .no
    | f => kBiCall f fs x p [.Call (.Name y p2) [a] [] q] pos
  | .F, .Call (.Name x p) [.Call (.Attribute o y apos) [] [] cpos] [] pos => match f with
    | .sortedItems => if hh : x = ("sorted" : Str) ∧ y = ("items" : Str) ∧ glB c.sc x = true ∧ plainBase o = true ∧ (apos.endLine == cpos.line) = true then (fs (.P [false]) [o]).map fun h W cl n X ok => by
        obtain ⟨rfl, rfl, h1, h2, h3⟩ := hh
        have q : IndP X W cl [false] ms [o] := h W cl n X ok
        cases q with
        | look b q => cases q with
          | nil => exact f_sortedItems ok.K ok.calm b (ok.gl h1) ok.blt.sorted h2 h3
      else .no
    | f => kBiCall f fs x p [.Call (.Attribute o y apos) [] [] cpos] pos
  | .F, .Call (.Name x p) (e :: es) [] pos => kBiCall f fs x p (e :: es) pos
  | _, _ => .no
/-- tuple(range(..)), list(range(..)) -/
def kRg (f : Bi) {ms : Es} (fs : SubL P c ms) (md : Md) (e : Expr) : CE P c md (.bi f ms) e := match f, md, ms, e with
  | .rangeT1, .S, .cons m .nil, .Call (.Name x p) [.Call (.Name y p2) [a] [] q] [] pos => if hh : x = ("tuple" : Str) ∧ y = ("range" : Str) ∧ glB c.sc x = true ∧ glB c.sc y = true ∧ notStar a = true then (fs (.P [false]) [a]).map fun h W cl n X ok => by
      obtain ⟨rfl, rfl, h1, h2, h3⟩ := hh
      have q : IndP X W cl [false] (.cons m .nil) [a] := h W cl n X ok
      cases q with
      | look b q => exact s_rgT1 ok.calm (ok.gl h1) ok.blt.tuple (ok.gl h2) ok.blt.range b h3
    else .no
  | .rangeL1, .F, .cons m .nil, .Call (.Name x p) [.Call (.Name y p2) [a] [] q] [] pos => if hh : x = ("list" : Str) ∧ y = ("range" : Str) ∧ glB c.sc x = true ∧ glB c.sc y = true ∧ notStar a = true then (fs (.P [false]) [a]).map fun h W cl n X ok => by
      obtain ⟨rfl, rfl, h1, h2, h3⟩ := hh
      have q : IndP X W cl [false] (.cons m .nil) [a] := h W cl n X ok
      cases q with
      | look b q => exact f_rgL1 ok.calm (ok.gl h1) ok.blt.list (ok.gl h2) ok.blt.range b h3
    else .no
  | .rangeT2, .S, .cons m (.cons m2 .nil), .Call (.Name x p) [.Call (.Name y p2) [a, b] [] q] [] pos => if hh : x = ("tuple" : Str) ∧ y = ("range" : Str) ∧ glB c.sc x = true ∧ glB c.sc y = true ∧ notStar a = true ∧ notStar b = true then (fs (.P [false, false]) [a, b]).map fun h W cl n X ok => by
      obtain ⟨rfl, rfl, h1, h2, h3, h4⟩ := hh
      have q : IndP X W cl [false, false] (.cons m (.cons m2 .nil)) [a, b] := h W cl n X ok
      cases q with
      | look b q => cases q with
        | look d q => exact s_rgT2 ok.calm (ok.gl h1) ok.blt.tuple (ok.gl h2) ok.blt.range b d h3 h4
    else .no
  | .rangeL2, .F, .cons m (.cons m2 .nil), .Call (.Name x p) [.Call (.Name y p2) [a, b] [] q] [] pos => if hh : x = ("list" : Str) ∧ y = ("range" : Str) ∧ glB c.sc x = true ∧ glB c.sc y = true ∧ notStar a = true ∧ notStar b = true then (fs (.P [false, false]) [a, b]).map fun h W cl n X ok => by
      obtain ⟨rfl, rfl, h1, h2, h3, h4⟩ := hh
      have q : IndP X W cl [false, false] (.cons m (.cons m2 .nil)) [a, b] := h W cl n X ok
      cases q with
      | look b q => cases q with
        | look d q => exact f_rgL2 ok.calm (ok.gl h1) ok.blt.list (ok.gl h2) ok.blt.range b d h3 h4
    else .no
  | _, _, _, _ => .no
def kBiC (f : Bi) {ms : Es} (fs : SubL P c ms) (md : Md) (e : Expr) : CE P c md (.bi f ms) e := (kRg f fs md e).or fun _ => kBiC0 f fs md e
/-- {} -/
theorem f_dsp0 {W : Wd} {X : Cx} {cl : Call} {t : Nat} {pos : Pos} (ht : t = 0 ∨ t = 1) : PE X (.Dict [] [] pos) (tF W cl (.dsp t .nil)) := by
  rcases ht with rfl | rfl
  · refine pe_dnewK.imp fun σ H Q ⟨H0, F, σd, C, d, C', rl, q, k⟩ => ?_
    simp only [ev, evs] at q
    cases q
    exact fun p hp => fr_new (Stp.refl rl.sub rl.cell) hp (.dK rfl (fun _ h => by cases h) .nil) k
  · refine pe_dnewT.imp fun σ H Q ⟨H0, F, σd, C, d, C', rl, q, k⟩ => ?_
    simp only [ev, evs] at q
    cases q
    exact fun p hp => fr_new (Stp.refl rl.sub rl.cell) hp (.dT rfl (fun _ h => by cases h) .nil) k
/-- keys and values, one behind the other -/
def mixed : List (Option Expr) → List Expr → Option (List Expr)
  | [], [] => some []
  | some k :: ks, v :: vs => (mixed ks vs).map fun r => k :: v :: r
  | _, _ => none
def altB : List (Option Expr) → List Bool
  | [] => []
  | _ :: r => false :: true :: altB r
theorem prs_of {W : Wd} {X : Cx} {cl : Call} : ∀ {ks : List (Option Expr)} {vs es : List Expr} {ms : Es}, mixed ks vs = some es → IndP X W cl (altB ks) ms es → PrS X W cl ms ks vs
  | [], [], es, ms, h, q => by
    simp only [mixed] at h
    cases h
    cases q
    exact .nil
  | [], _ :: _, es, ms, h, q => by simp [mixed] at h
  | none :: _, _, es, ms, h, q => by simp [mixed] at h
  | some k :: ks, [], es, ms, h, q => by simp [mixed] at h
  | some k :: ks, v :: vs, es, ms, h, q => by
    simp only [mixed] at h
    cases e : mixed ks vs with
    | none => rw [e] at h; cases h
    | some r =>
      rw [e] at h
      cases h
      cases q with
      | look a q => cases q with
        | hand b q => exact .cons a b (prs_of e q)
def kDsp (t : Nat) {ms : Es} (fs : SubL P c ms) (md : Md) (e : Expr) : CE P c md (.dsp t ms) e := match md, e with
  | .F, .Dict [] [] pos => match ms with
    | .nil => if ht : t = 0 ∨ t = 1 then .yes fun W cl n X ok => f_dsp0 ht else .no
    | _ => .no
  | .F, .Dict ks vs pos => if hh : t = 0 ∧ ks ≠ [] ∧ ks.length ≤ 15 then Chk.opt (mixed ks vs) fun es he => (fs (.P (altB ks)) es).map fun h W cl n X ok => by
      obtain ⟨rfl, h1, h2⟩ := hh
      exact f_dsp (prs_of he (h W cl n X ok)) h1 h2
    else .no
  | _, _ => .no

mutual
def cE (P : Pa) : (m : E) → (c : Ct) → Sub1 P c m
  | .v i, c => fun md e => kV i md e
  | .b i, c => fun md e => kB i md e
  | .lit d, c => fun md e => kLit d md e
  | .gc d, c => fun md e => kGc d md e
  | .tup ms, c => fun md e => kTup (cEs P ms c) md e
  | .lst ms, c => fun md e => kLst (cEs P ms c) md e
  | .dsp t ms, c => fun md e => kDsp t (cEs P ms c) md e
  | .bin op a b, c => fun md e => kBin op (cE P a c) (cE P b c) md e
  | .neg a, c => fun md e => kNeg (cE P a c) md e
  | .not a, c => fun md e => kNot (cE P a c) md e
  | .and a ms, c => fun md e => kAnd (cE P a c) (cEs P ms c) md e
  | .or a ms, c => fun md e => kOr (cE P a c) (cEs P ms c) md e
  | .cmp op a b, c => fun md e => kCmp op (cE P a c) (cE P b c) md e
  | .chain op op' a b d, c => fun md e => kChain op op' (cE P a c) (cE P b c) (cE P d c) md e
  | .ite a b d, c => fun md e => kIte (cE P a c) (cE P b c) (cE P d c) md e
  | .call f ms, c => fun md e => kCall f (cEs P ms c) md e
  | .callv g ms, c => fun md e => .no
  | .isi a tys, c => fun md e => kIsi tys (cE P a c) md e
  | .bi f ms, c => fun md e => kBiC f (cEs P ms c) md e
  | .idx a b, c => fun md e => kIdx (cE P a c) (cE P b c) md e
  | .sl a lo hi, c => fun md e => kSl (cE P a c) (cO P lo c) (cO P hi c) md e
  | .rev a, c => fun md e => .no
  | .comp m (.mk t it o), c => fun md e => kComp (cI P it c) (fun c' => cO P o c') (fun c' => cE P m c') md e
  | .comp2 m (.mk t it o) (.mk t2 it2 o2), c => fun md e => kComp2 (cI P it c) (fun c' => cO P o c') (fun c' => cI P it2 c') (fun c' => cO P o2 c') (fun c' => cE P m c') md e
def cEs (P : Pa) : (ms : Es) → (c : Ct) → SubL P c ms
  | .nil, c => fun k es => kNil k es
  | .cons m ms, c => fun k es => kCons (cE P m c) (cEs P ms c) k es
def cO (P : Pa) : (o : Oe) → (c : Ct) → SubO P c o
  | .no, c => kNo
  | .so m, c => kSo (cE P m c)
def cI (P : Pa) : (it : It) → (c : Ct) → SubI P c it
  | .e m, c => kIe (cE P m c)
  | .b i, c => kIb i
  | .range1 a, c => kR1 (cE P a c)
  | .range2 a b, c => kR2 (cE P a c) (cE P b c)
  | .range3 _ _ _, c => fun _ _ _ => .no
  | .enum a, c => kEn (cE P a c)
  | .zip a b, c => kZi (cE P a c) (cE P b c)
end
end
end Mi

set_option Elab.async false
set_option linter.all false
set_option maxRecDepth 100000
set_option maxHeartbeats 4000000
namespace Mi
open PySem PySem.Spec PyProof.Rows L2

/-- in a def's own block -/
structure XFn (P : Pa) (c : Ct) (W : Wd) (cl : Call) (n : Nat) (X : Cx) : Prop where
  ok : XOk P c W cl n X
  pas : PassesOwn (model X.prog X.w) X.A X.env X.xe
  cls : ClsOk W X.K X.mg
  stk : X.stack = X.env :: X.outer
  frm : X.env.frame = some X.env.locals
  nx : ∀ f xs C, P.mu f = true → NoX (cl f xs C)
  unk : ∀ f, (∀ ds C, cl f ds C = .bad) ∨ ∃ nm fr, P.Sg f = some (nm, fr)
section
variable {P : Pa} {c : Ct} {fr : Bool}
abbrev CS (P : Pa) (c : Ct) (fr : Bool) (s : S) (st : Stmt) : Type := Chk (∀ (W : Wd) (cl : Call) (n : Nat) (X : Cx), XFn P c W cl n X → PS X st (tSt W cl fr s))
abbrev CSs (P : Pa) (c : Ct) (fr : Bool) (s : Ss) (st : List Stmt) : Type := Chk (∀ (W : Wd) (cl : Call) (n : Nat) (X : Cx), XFn P c W cl n X → PSs X st (tSts W cl fr s))
def isComp : Expr → Bool
  | .ListComp .. => true
  | .SetComp .. => true
  | .DictComp .. => true
  | _ => false
theorem sw_no {e : Expr} (h : isComp e = false) (t : Option Expr) (ht : t ≠ none) (l : Nat) (env : Env) : swapsWith e t l env = pure false := by
  cases e <;> first | rfl | cases h
theorem sw_none {e : Expr} (h : isComp e = false) (l : Nat) (env : Env) : swapsWith e none l env = pure false := by
  cases e <;> first | rfl | cases h
def isName : Expr → Bool
  | .Name .. => true
  | _ => false
theorem sw_tgt {e t : Expr} (h : isComp e = false ∨ isName t = false) (l : Nat) (env : Env) : swapsWithSole [t] e l env = pure false := by
  show swapsWith e (some t) l env = _
  rcases h with h | h
  · exact sw_no h _ (by simp) l env
  · cases t <;> first | (cases h; done) | (cases e <;> rfl)
def isTup : Expr → Bool
  | .Tuple .. => true
  | _ => false
def isSeq : Expr → Bool
  | .Tuple .. => true
  | .List .. => true
  | _ => false
theorem sws_none {e t : Expr} (h : isTup e = false ∨ isSeq t = false) (env : Env) : swappedStores [t] e env = pure none := by
  rcases h with h | h
  · cases e <;> first | (cases h; done) | (cases t <;> rfl)
  · cases t <;> first | (cases h; done) | (cases e <;> rfl)

/-- a new thing goes to a name -/
def cNew (P : Pa) (c : Ct) (i : Nat) {m : E} (fa : Sub1 P c m) (st : Stmt) : Chk (∀ (W : Wd) (cl : Call) (n : Nat) (X : Cx), XOk P c W cl n X → PS X st (tAsg (tF W cl m) (gName i))) := match st with
  | .Assign [.Name y py] e pos => match hc : isComp e with
    | false => if h : c.N[i]? = some y ∧ locB c.sc y = true ∧ (c.fn y || isLoc c.sc y) = true then (fa .F e).map fun h1 W cl n X ok => ps_set ok.ndX (by rw [ok.N]; exact h.1) (ok.loc h.2.1) (h1 W cl n X ok) (sw_no hc _ (by simp) _ _) (ok.fnl h.2.2) else .no
    | true => (fa (.A i y py pos) e).or fun _ => match e with
      | .ListComp elt gs s p => if h : c.N[i]? = some y ∧ locB c.sc y = true ∧ (c.fn y || isLoc c.sc y) = true ∧ funB c.sc = true ∧ swB c.sc s y py p = false then (fa .F (.ListComp elt gs s p)).map fun h1 W cl n X ok => ps_set ok.ndX (by rw [ok.N]; exact h.1) (ok.loc h.2.1) (h1 W cl n X ok) (ok.swNo h.2.2.2.1 h.2.2.2.2) (ok.fnl h.2.2.1) else .no
      | _ => .no
  | _ => .no
def isCompM : E → Bool
  | .comp .. => true
  | .comp2 .. => true
  | _ => false
theorem compM {cl : Call} {m : E} (h : isCompM m = true) : ∀ σ C d C', ev cl m σ C = .ok d C' → ∃ xs, d = .lst xs := by
  cases m <;> first | (cases h; done) | exact comp_lst | exact comp2_lst
def xAsg (t : Tg) {m : E} (fa : Sub1 P c m) (st : Stmt) : CS P c fr (.asg t m) st := match st with
  | .Assign [tg] e pos => match hc : isComp e && isName tg with
    | false => if h : (isTup e = false ∨ isSeq tg = false) ∧ notStar tg = true then (gS fa e).bnd fun h1 => (cT P c t tg).map fun h2 W cl n X ok => st_asg (h1 W cl n X ok.ok) (h2 W cl n X ok.ok) (sw_tgt (by
        cases h3 : isComp e
        · exact .inl rfl
        · rw [h3] at hc; exact .inr hc) _ _) (sws_none h.1 _) h.2 else .no
    | true => match t with
      | .v i => if hm : isCompM m = true then (cNew P c i fa (.Assign [tg] e pos)).map fun h1 W cl n X ok => st_asgL (h1 W cl n X ok.ok) (compM hm) else .no
      | _ => .no
  | _ => .no
def xAsgO (i : Nat) {m : E} (fa : Sub1 P c m) (st : Stmt) : CS P c fr (.asgO i m) st := (cNew P c i fa st).map fun h W cl n X ok => st_asgO (h W cl n X ok.ok)
theorem asg_sub {o ke : Expr} {pos' : Pos} {env : Env} (h : notSl ke = true) (v : Value) : assign (.Subscript o ke pos') env v = (do
      let ov ← holding [v] (eval o env)
      let iv ← holding [v, ov] (eval ke env)
      standAt pos'
      holding [v, ov, iv] (setItem ov iv v)
      release [v, ov, iv] []) := by
  cases ke <;> first | rfl | cases h
def xSetI (i : Nat) {k m : E} (fk : Sub1 P c k) (fa : Sub1 P c m) (st : Stmt) : CS P c fr (.setI i k m) st := match st with
  | .Assign [.Subscript o ke pos'] e pos => if h : notSl ke = true then (cVar P c i o).bnd fun h1 => (gS fa e).bnd fun h2 => (gR fk ke).map fun h3 W cl n X ok =>
      st_setI (by have := ok.ok.hu.h; omega) (h1 W cl n X ok.ok) (h2 W cl n X ok.ok) (h3 W cl n X ok.ok) (sw_tgt (.inr rfl) _ _) (sws_none (.inr rfl) _) (asg_sub h) else .no
  | _ => .no
def xAug (i : Nat) (op : BOp) {m : E} (fa : Sub1 P c m) (st : Stmt) : CS P c fr (.aug i op m) st := match st with
  | .AugAssign (.Name x p) o e pos => if h : c.N[i]? = some x ∧ locB c.sc x = true ∧ (c.fn x || isLoc c.sc x) = true then (gR fa e).bnd fun h1 => (match op, o with
    | .add, .Add => .yes fun W cl n X ok => st_aug (f := fun a b => a + b) (fun a b z hz => by cases hz; rfl) (ps_aug ok.ok.ndX (by rw [ok.ok.N]; exact h.1) (ok.ok.loc h.2.1) (h1 W cl n X ok.ok) ip_add (ok.ok.fnl h.2.2))
    | .sub, .Sub => .yes fun W cl n X ok => st_aug (f := fun a b => a - b) (fun a b z hz => by cases hz; rfl) (ps_aug ok.ok.ndX (by rw [ok.ok.N]; exact h.1) (ok.ok.loc h.2.1) (h1 W cl n X ok.ok) ip_sub (ok.ok.fnl h.2.2))
    | _, _ => .no) else .no
  | _ => .no
/-- the method's call: one plain argument -/
theorem few1 {e : Expr} {cpos : Pos} {env : Env} (h : notStar e = true) : ((backTo cpos (starEach [e] env)).all (fun x => !x.1) && (backToKw cpos (keywordEach [] env)).all (fun x => x.1.isSome)
      && decide ([e].length + ([] : List Keyword).length + (if ([] : List Keyword).isEmpty then 0 else 1) < 30)) = true := by
  rw [star_cons h]
  rfl
def xApp (i : Nat) {m : E} (fa : Sub1 P c m) (st : Stmt) : CS P c fr (.app i m) st := match st with
  | .Expr (.Call (.Attribute (.Name x p) a apos) [e] [] cpos) pos => if h : a = ("append" : Str) ∧ notStar e = true ∧ (apos.endLine == cpos.line) = true then (cVar P c i (.Name x p)).bnd fun h1 => (gS fa e).map fun h2 W cl n X ok => st_app (by
      obtain ⟨rfl, h3, h4⟩ := h
      exact ps_expr (pe_bm PySem.F.plainAttrs_list PySem.F.slot_list_append PySem.F.type_list_append mt_append (h1 W cl n X ok.ok) (as_cons (h2 W cl n X ok.ok) as_nil h3) rfl (few1 h3) h4 (star_cons h3) rfl) (sw_none rfl _ _)) else .no
  | _ => .no
def xExt (i : Nat) {m : E} (fa : Sub1 P c m) (st : Stmt) : CS P c fr (.ext i m) st := match st with
  | .Expr (.Call (.Attribute (.Name x p) a apos) [e] [] cpos) pos => if h : a = ("extend" : Str) ∧ notStar e = true ∧ (apos.endLine == cpos.line) = true then (cVar P c i (.Name x p)).bnd fun h1 => (gR fa e).map fun h2 W cl n X ok => st_ext (by
      obtain ⟨rfl, h3, h4⟩ := h
      exact ps_expr (pe_bm PySem.F.plainAttrs_list PySem.F.slot_list_extend PySem.F.type_list_extend mt_extend (h1 W cl n X ok.ok) (ar_cons (h2 W cl n X ok.ok) ar_nil h3) rfl (few1 h3) h4 (star_cons h3) rfl) (sw_none rfl _ _)) else .no
  | _ => .no
def xPop (t : Tg) (i : Nat) (st : Stmt) : CS P c fr (.popTo t i) st := match st with
  | .Assign [tg] (.Call (.Attribute (.Name x p) a apos) [] [] cpos) pos => if h : a = ("pop" : Str) ∧ (apos.endLine == cpos.line) = true ∧ notStar tg = true then (cVar P c i (.Name x p)).bnd fun h1 => (cT P c t tg).map fun h2 W cl n X ok => st_popTo (by
      obtain ⟨rfl, h3, h4⟩ := h
      exact ps_asg (pe_bm0 PySem.F.plainAttrs_list PySem.F.slot_list_pop PySem.F.type_list_pop mt_pop (h1 W cl n X ok.ok) rfl h3) (h2 W cl n X ok.ok) (sw_tgt (.inl rfl) _ _) (sws_none (.inl rfl) _) (by rw [aE_cons h4]; rfl)) else .no
  | _ => .no
def xRet {m : E} (fa : Sub1 P c m) (st : Stmt) : CS P c fr (.ret m) st := match st with
  | .Return (some e) pos => match hf : fr with
    | false => (gS fa e).map fun h W cl n X ok => st_ret rfl (h W cl n X ok.ok)
    | true => (fa .F e).map fun h W cl n X ok => st_retF rfl (h W cl n X ok.ok)
  | _ => .no
def xRetO (i : Nat) (st : Stmt) : CS P c fr (.retO i) st := match st with
  | .Return (some e) pos => match hf : fr with
    | false => (cVar P c i e).map fun h W cl n X ok => st_retO rfl (h W cl n X ok.ok)
    | true => (cVar P c i e).map fun h W cl n X ok => st_retOF rfl (h W cl n X ok.ok)
  | _ => .no
/-! ### several at once -/
def starred : Expr → Bool
  | .Starred .. => true
  | _ => false
theorem sw_pair {x y : Str} {px py pt pt2 : Pos} {a b : Expr} {kt k2 : Nat} {env : Env} (hk : env.scope.kind = .function) (hx : env.scope.names.lookup x = some .local) (hy : env.scope.names.lookup y = some .local) (hl : (py.line == px.line) = true) (hne : (x == y) = false)
    (hs : notStar a = true ∧ notStar b = true) (hf : ([a, b].all (foldedForSure 8)) = false) (hc : ([a, b].all (constantsAlone 8)) = false) : swappedStores [.Tuple [.Name x px, .Name y py] kt pt] (.Tuple [a, b] k2 pt2) env = pure (some [x, y]) := by
  have hb : env.blockKind = .function := by unfold Env.blockKind; rw [hk]; rfl
  have h1 : ([a, b].any fun | .Starred .. => true | _ => false) = false := by
    obtain ⟨h1, h2⟩ := hs
    cases a <;> first | (cases h1; done) | (cases b <;> first | (cases h2; done) | rfl)
  have hne' : (y == x) = false := by
    rw [beq_eq_false_iff_ne] at hne ⊢
    exact Ne.symm hne
  unfold swappedStores
  simp only [hb, h1, hf, hc, Env.kindOf, hx, hy, Expr.pos, List.head?, Option.map, Option.getD, List.filterMap, hl, List.length, beq_self_eq_true, Bool.and_true, Bool.and_self, if_true, List.eraseDups_cons, List.filter, hne, hne', Bool.not_false, List.eraseDups_nil]
  refine (if_neg (by simp)).trans ((if_neg (Bool.eq_false_iff.mp h1)).trans ((if_neg (by simp)).trans ?_))
  rfl
end
end Mi

set_option Elab.async false
set_option linter.all false
set_option maxRecDepth 100000
set_option maxHeartbeats 4000000
namespace Mi
open PySem PySem.Spec PyProof.Rows L2
section
variable {P : Pa} {c : Ct} {fr : Bool}
theorem sw_trip {x y z : Str} {px py pz pt pt2 : Pos} {a b d : Expr} {kt k2 : Nat} {env : Env} (hk : env.scope.kind = .function) (hx : env.scope.names.lookup x = some .local) (hy : env.scope.names.lookup y = some .local) (hz : env.scope.names.lookup z = some .local) (hl : (py.line == px.line) = true) (hl2 : (pz.line == px.line) = true) (hne : (x == y) = false) (hne2 : (x == z) = false) (hne3 : (y == z) = false)
    (hs : notStar a = true ∧ notStar b = true ∧ notStar d = true) (hf : ([a, b, d].all (foldedForSure 8)) = false) (hc : ([a, b, d].all (constantsAlone 8)) = false) : swappedStores [.Tuple [.Name x px, .Name y py, .Name z pz] kt pt] (.Tuple [a, b, d] k2 pt2) env = pure (some [x, y, z]) := by
  have hb : env.blockKind = .function := by unfold Env.blockKind; rw [hk]; rfl
  have n1 : ∀ {e : Expr}, notStar e = true → (match e with | .Starred .. => true | _ => false) = false := fun {e} h => by cases e <;> first | rfl | cases h
  have h1 : ([a, b, d].any fun | .Starred .. => true | _ => false) = false := by
    rw [List.any_cons, List.any_cons, List.any_cons, List.any_nil, n1 hs.1, n1 hs.2.1, n1 hs.2.2]
    rfl
  have hne' : (y == x) = false := by
    rw [beq_eq_false_iff_ne] at hne ⊢
    exact Ne.symm hne
  have hne2' : (z == x) = false := by
    rw [beq_eq_false_iff_ne] at hne2 ⊢
    exact Ne.symm hne2
  have hne3' : (z == y) = false := by
    rw [beq_eq_false_iff_ne] at hne3 ⊢
    exact Ne.symm hne3
  unfold swappedStores
  simp only [hb, h1, hf, hc, Env.kindOf, hx, hy, hz, Expr.pos, List.head?, Option.map, Option.getD, List.filterMap, hl, hl2, List.length, beq_self_eq_true, Bool.and_true, Bool.and_self, if_true, List.eraseDups_cons, List.filter, hne, hne', hne2, hne2', hne3, hne3', Bool.not_false, List.eraseDups_nil]
  refine (if_neg (by simp)).trans ((if_neg (Bool.eq_false_iff.mp h1)).trans ((if_neg (by simp)).trans ?_))
  rfl
def locNames (sc : Scope) (ts : List Expr) : List Str := ts.filterMap fun
    | .Name id pos => if sc.names.lookup id == some .local && pos.line == (ts.head?.map (·.pos.line)).getD 0 then some id else none
    | _ => none
def swNoneB (sc : Scope) (ts vs : List Expr) : Bool := !(ts.length == 2 || ts.length == 3) || vs.length != ts.length || (locNames sc ts).length != ts.length || vs.all (foldedForSure 8)
theorem sw_noneT {ts vs : List Expr} {kt k2 : Nat} {pt pt2 : Pos} {env : Env} (h : swNoneB env.scope ts vs = true) : swappedStores [.Tuple ts kt pt] (.Tuple vs k2 pt2) env = pure none := by
  unfold swappedStores
  dsimp only
  unfold swNoneB at h
  rw [Bool.or_eq_true, Bool.or_eq_true, Bool.or_eq_true] at h
  split
  · rfl
  · rename_i h1
    split
    · rfl
    · rename_i h2
      split
      · rfl
      · rename_i h3
        split
        · rfl
        · rename_i h4
          exfalso
          rcases h with ((h | h) | h) | h
          · exact h1 (by rw [h]; rfl)
          · exact h1 (by rw [h]; simp)
          · refine h3 ?_
            rw [Bool.or_eq_true]
            exact .inl h
          · exact h4 h
def nodupB : List Str → Bool
  | [] => true
  | x :: r => !(r.any fun y => x == y) && nodupB r
def cNames (P : Pa) (c : Ct) : (is : List Nat) → (ts : List Expr) → Chk (∀ (W : Wd) (cl : Call) (n : Nat) (X : Cx), XOk P c W cl n X → PGs X ts (gNames is))
  | [], [] => .yes fun W cl n X ok => pgs_nil
  | i :: is, t :: ts => (cSet P c i t).bnd fun h => match hn : notStar t with
    | true => (cNames P c is ts).map fun h2 W cl n X ok => pgs_cons (h W cl n X ok) (h2 W cl n X ok) (by rw [aE_cons hn]; rfl)
    | false => .no
  | _, _ => .no
def isN (N : List Str) (i : Nat) (x : Str) : Bool := decide (N[i]? = some x)
theorem ne_ix {N : List Str} {i j : Nat} {x y : Str} (h1 : N[i]? = some x) (h2 : N[j]? = some y) (h : (x == y) = false) : i ≠ j := by
  intro e; subst e
  rw [h1] at h2; cases h2
  simp at h
def xPar (is : List (Nat × Bool)) {ms : Es} (fs : SubL P c ms) (st : Stmt) : CS P c fr (.par is ms) st := match st with
  | .Assign [.Tuple ts kt pt] (.Tuple vs k2 pt2) pos =>
    match hsw : swNoneB c.sc ts vs with
    | true => if h : ts.all notStar = true ∧ is.length ≤ 1000 ∧ ts.length = is.length then (fs (.M (List.map (fun x : Nat × Bool => x.snd) is)) vs).bnd fun h1 => (cNames P c (List.map (fun x : Nat × Bool => x.fst) is) ts).map fun h2 W cl n X ok =>
        st_parT (fl := List.map (fun x : Nat × Bool => x.snd) is) ok.ok.K rfl h.2.1 (ps_asg (pe_tup (show PA X vs (tMs W cl _ ms) from h1 W cl n X ok.ok)) (pg_tup ok.ok.calm (h2 W cl n X ok.ok) (by rw [(aE_len h.1).1, h.2.2]) (aE_len h.1).2) (sw_tgt (.inl rfl) _ _) (sw_noneT (by rw [ok.ok.sc]; exact hsw)) (by rw [aE_cons rfl]; rfl)) else .no
    | false => match is, ts, vs with
      | [(i, o1), (j, o2)], [.Name x px, .Name y py], [a, b] => if h : (c.N[i]? = some x ∧ c.N[j]? = some y) ∧ isLoc c.sc x = true ∧ isLoc c.sc y = true ∧ funB c.sc = true ∧ (py.line == px.line) = true ∧ (x == y) = false ∧ (notStar a = true ∧ notStar b = true) ∧ ([a, b].all (foldedForSure 8)) = false ∧ ([a, b].all (constantsAlone 8)) = false then
          (fs (.M [o1, o2]) [a, b]).map fun h1 W cl n X ok => st_par2 (ps_par ok.ok.calm ok.ok.ndX (by rw [ok.ok.N]; exact h.1.1) (by rw [ok.ok.N]; exact h.1.2) (ne_ix h.1.1 h.1.2 h.2.2.2.2.2.1) (ok.ok.isl h.2.1) (ok.ok.isl h.2.2.1) (h1 W cl n X ok.ok)
            (sw_pair (ok.ok.knd h.2.2.2.1) (ok.ok.isl h.2.1) (ok.ok.isl h.2.2.1) h.2.2.2.2.1 h.2.2.2.2.2.1 h.2.2.2.2.2.2.1 h.2.2.2.2.2.2.2.1 h.2.2.2.2.2.2.2.2) (sw_tgt (.inl rfl) _ _))
        else .no
      | [(i, o1), (j, o2), (l, o3)], [.Name x px, .Name y py, .Name z pz], [a, b, d] => if h : (c.N[i]? = some x ∧ c.N[j]? = some y ∧ c.N[l]? = some z) ∧ isLoc c.sc x = true ∧ isLoc c.sc y = true ∧ isLoc c.sc z = true ∧ funB c.sc = true ∧ ((py.line == px.line) = true ∧ (pz.line == px.line) = true) ∧ ((x == y) = false ∧ (x == z) = false ∧ (y == z) = false) ∧ (notStar a = true ∧ notStar b = true ∧ notStar d = true) ∧ ([a, b, d].all (foldedForSure 8)) = false ∧ ([a, b, d].all (constantsAlone 8)) = false then
          (fs (.M [o1, o2, o3]) [a, b, d]).map fun h1 W cl n X ok => by
            obtain ⟨⟨a1, a2, a3⟩, b1, b2, b3, e1, ⟨f1, f2⟩, ⟨g1, g2, g3⟩, hh, i1, i2⟩ := h
            exact st_par3 (ps_par3 ok.ok.calm ok.ok.ndX (by rw [ok.ok.N]; exact a1) (by rw [ok.ok.N]; exact a2) (by rw [ok.ok.N]; exact a3) (ne_ix a1 a2 g1) (ne_ix a1 a3 g2) (ne_ix a2 a3 g3) (ok.ok.isl b1) (ok.ok.isl b2) (ok.ok.isl b3) (h1 W cl n X ok.ok)
              (sw_trip (ok.ok.knd e1) (ok.ok.isl b1) (ok.ok.isl b2) (ok.ok.isl b3) f1 f2 g1 g2 g3 hh i1 i2) (sw_tgt (.inl rfl) _ _))
        else .no
      | _, _, _ => .no
  | _ => .no
/-! ### what may raise, by its text -/
theorem XOk.tr {W : Wd} {cl : Call} {n : Nat} {X : Cx} (ok : XOk P c W cl n X) (pn : List (Addr × Obj)) (xe : Value → Shared → Prop) : XOk P c W cl n (X.tr pn xe) where
  K := ok.K
  N := ok.N
  nd := ok.nd
  sc := ok.sc
  calm := ok.calm
  fn := ok.fn
  room := ok.room
  fns := fun f nm fr h => ⟨(ok.fns f nm fr h).ex⟩
  blt := ok.blt
  gcs := ok.gcs
/-- a call, wherever errors are taken -/
abbrev CXE (P : Pa) (c : Ct) (m : E) (e : Expr) : Type := Chk (∀ (W : Wd) (cl : Call) (n : Nat) (X : Cx) (Wx : WX), XOk P c W cl n X → (∀ f xs C, P.mu f = true → NoX (cl f xs C)) → (∀ f, (∀ ds C, cl f ds C = .bad) ∨ ∃ nm fr, P.Sg f = some (nm, fr)) → Takes X Wx → PE X e (tSX W cl Wx m))
abbrev CXL (P : Pa) (c : Ct) (ms : Es) (es : List Expr) : Type := Chk (∀ (W : Wd) (cl : Call) (n : Nat) (X : Cx) (Wx : WX), XOk P c W cl n X → (∀ f xs C, P.mu f = true → NoX (cl f xs C)) → (∀ f, (∀ ds C, cl f ds C = .bad) ∨ ∃ nm fr, P.Sg f = some (nm, fr)) → Takes X Wx → PA X es (tSsX W cl Wx ms))
def lXE (m : E) (e : Expr) : CXE P c m e := if hn : nxE P.mu m = true then (gS (cE P m c) e).map fun h W cl n X Wx ok nx un tk => xs_lift (fun σd C => ev_nx nx m σd C hn) (h W cl n X ok) else .no
mutual
def cXE (P : Pa) (c : Ct) : (m : E) → (e : Expr) → CXE P c m e
  | .call f ms, e => (lXE (.call f ms) e).or fun _ => match e with
    | .Call (.Name x p) es [] pos => Chk.opt (P.Sg f) fun nf hn => if h : nf.1 = x ∧ glB c.sc x = true ∧ dbgB x = true ∧ es.all notStar = true then (match h2 : nf.2, es with
        | false, e :: es => (cXL P c ms (e :: es)).map fun h3 W cl n X Wx ok nx un tk => xs_call tk (by have := ok.fns f nf.1 nf.2 hn; rw [h2, h.1] at this; exact this) ok.room (ok.gl h.2.1) (h3 W cl n X Wx ok nx un tk) h.2.2.2 (dbg1 h.2.2.1)
        | true, e :: es => (cXL P c ms (e :: es)).map fun h3 W cl n X Wx ok nx un tk => xfroz (xf_call tk (by have := ok.fns f nf.1 nf.2 hn; rw [h2, h.1] at this; exact this) ok.room (ok.gl h.2.1) (h3 W cl n X Wx ok nx un tk) h.2.2.2 (dbg1 h.2.2.1))
        | _, _ => .no) else .no
    | _ => .no
  | .callv (.v i) ms, e => match e with
    | .Call (.Name x p) (e :: es) [] pos => if h : c.N[i]? = some x ∧ visB c.sc x = true ∧ dbgB x = true ∧ (e :: es).all notStar = true ∧ nxEs P.mu ms = true then (cEs P ms c .S (e :: es)).map fun h3 W cl n X Wx ok nx un tk =>
        xs_callv tk (fun f => (un f).imp (fun h => h) fun ⟨nm, fr, h⟩ => ⟨nm, fr, ok.fns f nm fr h⟩) ok.room (by rw [ok.N]; exact h.1) (ok.vis h.2.1) (fun σd C => evs_nx nx ms σd C h.2.2.2.2) (h3 W cl n X ok) h.2.2.2.1 (dbg1 h.2.2.1) (dbg2 h.2.2.1) else .no
    | _ => .no
  | m, e => lXE m e
def cXL (P : Pa) (c : Ct) : (ms : Es) → (es : List Expr) → CXL P c ms es
  | .nil, es => match es with
    | [] => .yes fun W cl n X Wx ok nx un tk => xss_nil
    | _ => .no
  | .cons m ms, es => match es with
    | e :: es => if hs : notStar e = true then (cXE P c m e).bnd fun h => (cXL P c ms es).map fun h2 W cl n X Wx ok nx un tk => xss_cons (h W cl n X Wx ok nx un tk) (h2 W cl n X Wx ok nx un tk) hs else .no
    | _ => .no
end
/-- one clause: what it says of the class -/
def hdB (c : Ct) (k : Nat) (tx : List Nat) : ExceptHandler → Option Nat
  | .ExceptHandler (some (.Name x np)) (some nm) [.Return (some (.IfExp (.Call (.Name i p0) [.Name n2 p1, .Name v p2] [] p3) (.Constant (.str a) j1 p4) (.Constant (.str b) j2 p5) p6)) p7] pos' =>
    if x = clsN k ∧ i = ("isinstance" : Str) ∧ v = ("ValueError" : Str) ∧ n2 = nm ∧ a = toS tx ∧ glB c.sc x = true ∧ dbgB x = true ∧ glB c.sc "isinstance" = true ∧ glB c.sc "ValueError" = true ∧ isLoc c.sc nm = true ∧ dbgB nm = true then c.N.findIdx? (fun y => y == nm) else none
  | _ => none
theorem ix_of {N : List Str} {nm : Str} {i : Nat} (hb : N.findIdx? (fun y => y == nm) = some i) : N[i]? = some nm := by
  obtain ⟨q1, q2, _⟩ := List.findIdx?_eq_some_iff_getElem.mp hb
  rw [List.getElem?_eq_getElem q1]
  exact congrArg some (eq_of_beq q2)
theorem hd_ok {W : Wd} {cl : Call} {n : Nat} {X : Cx} (ok : XFn P c W cl n X) {k i : Nat} {a : Addr} {tx : List Nat} {h : ExceptHandler} (hb : hdB c k tx h = some i) (ha : W.xa k = some a) {hs : List ExceptHandler} {l : List (Value × Nat × (Addr → Value → Option Addr → TS))} (r : HdsN X hs l) : HdsN X (h :: hs) ((.ref a, i, tIsE i (toS tx) X.K) :: l) ∧ i < X.N.length := by
  unfold hdB at hb
  split at hb
  · split at hb
    · rename_i hh
      obtain ⟨rfl, rfl, rfl, rfl, rfl, h1, h2, h3, h4, h5, h6⟩ := hh
      have hix := ix_of hb
      rw [← ok.ok.N] at hix
      have hN := hix
      refine ⟨.cons ⟨ok.ok.gl h1, dbg1 h2, .inl (ok.cls.one k a ha).2.1⟩ hN (ok.ok.isl h5) (fun a' oe cls d pn hz hf => sts_isE hz hf (ok.ok.gl h3) ok.ok.blt.isinstance (ok.ok.gl h4) ok.cls.ven hN (.inl (ok.ok.isl h5)) (dbg1 h6) (dbg2 h6)) r, ?_⟩
      by_cases hl : i < X.N.length
      · exact hl
      · rw [List.getElem?_eq_none (by omega)] at hN; cases hN
    · cases hb
  · cases hb
def xSlip (f : Nat) (ms : Es) (st : Stmt) : CS P c fr (.slip f ms) st := match st with
  | .Try [.Expr e pe] [h1, h2, h3] [] [] pos => if hh : fr = false ∧ nxEs P.mu ms = true ∧ isComp e = false then Chk.opt (hdB c 1 txU h1) fun i1 e1 => Chk.opt (hdB c 2 txC h2) fun i2 e2 => Chk.opt (hdB c 0 txM h3) fun i3 e3 => (cXE P c (.call f ms) e).map fun h W cl n X ok => by
      obtain ⟨aU, hU⟩ := ok.cls.all 1 (by decide)
      obtain ⟨aC, hC⟩ := ok.cls.all 2 (by decide)
      obtain ⟨aT, hT⟩ := ok.cls.all 0 (by decide)
      have r3 := hd_ok ok e3 hT .nil
      have r2 := hd_ok ok e2 hC r3.1
      have r1 := hd_ok ok e1 hU r2.1
      exact st_slip hh.1 ok.cls ok.stk ok.frm ok.ok.ndX hU hC hT r1.1 r1.2 r2.2 r3.2 (fun pn xe Wx tk => h W cl n (X.tr pn xe) Wx (ok.ok.tr pn xe) ok.nx ok.unk tk) (fun σd C => evs_nx ok.nx ms σd C hh.2.1) (sw_none hh.2.2 _ _)
    else .no
  | _ => .no
mutual
def cS (P : Pa) (c : Ct) (fr : Bool) : (s : S) → (st : Stmt) → CS P c fr s st
  | .asg t e, st => xAsg t (cE P e c) st
  | .asgO i e, st => xAsgO i (cE P e c) st
  | .par is es, st => xPar is (cEs P es c) st
  | .setI i k e, st => xSetI i (cE P k c) (cE P e c) st
  | .aug i op e, st => xAug i op (cE P e c) st
  | .app i e, st => xApp i (cE P e c) st
  | .ext i e, st => xExt i (cE P e c) st
  | .popTo t i, st => xPop t i st
  | .frz i, st => .no
  | .ret e, st => xRet (cE P e c) st
  | .retO i, st => xRetO i st
  | .retN, st => match st with
    | .Return none pos => if h : fr = false then .yes fun W cl n X ok => st_retN h else .no
    | _ => .no
  | .ifs e a b, st => match st with
    | .If x p q pos => (gB (cE P e c) x).bnd fun h1 => (cSs P c fr a p).bnd fun h2 => (cSs P c fr b q).map fun h3 W cl n X ok => st_ifs (h1 W cl n X ok.ok) (h2 W cl n X ok) (h3 W cl n X ok)
    | _ => .no
  | .whl e a, st => match st with
    | .While x p [] pos => (gB (cE P e c) x).bnd fun h1 => (cSs P c fr a p).map fun h2 W cl n X ok => st_whl ok.pas (h1 W cl n X ok.ok) (h2 W cl n X ok)
    | _ => .no
  | .for_ t it a, st => match st with
    | .For tg iter p [] pos => if h : notSet iter = true then (cI P it c true tg iter).bnd fun h1 => (cT P c t tg).bnd fun h2 => (cSs P c fr a p).map fun h3 W cl n X ok => st_for ok.pas ok.ok.calm (h1 W cl n X ok.ok) (h2 W cl n X ok.ok) (h3 W cl n X ok) (fsi h _) else .no
    | _ => .no
  | .brk, st => match st with
    | .Break pos => .yes fun W cl n X ok => st_brk
    | _ => .no
  | .cont, st => match st with
    | .Continue pos => .yes fun W cl n X ok => st_cont
    | _ => .no
  | .pass, st => match st with
    | .Pass pos => .yes fun W cl n X ok => st_pass
    | _ => .no
  | .raise k es, st => .yes fun W cl n X ok => st_raise
  | .slip f es, st => xSlip f es st
def cSs (P : Pa) (c : Ct) (fr : Bool) : (s : Ss) → (st : List Stmt) → CSs P c fr s st
  | .nil, st => match st with
    | [] => .yes fun W cl n X ok => ss_nil
    | _ => .no
  | .cons s r, st => match s with
    | .frz i => (cSs P c fr r st).map fun h W cl n X ok => ss_frz (h W cl n X ok)
    | s => match st with
      | st :: rest => (cS P c fr s st).bnd fun h => (cSs P c fr r rest).map fun h2 W cl n X ok => ss_cons (h W cl n X ok) (h2 W cl n X ok)
      | [] => .no
end
end
end Mi

set_option Elab.async false
set_option linter.all false
set_option maxRecDepth 100000
set_option maxHeartbeats 4000000
namespace Mi
open PySem PySem.Spec PyProof.Rows L2
/-- a def's own block, from which errors are let out -/
structure XFx (P : Pa) (c : Ct) (W : Wd) (cl : Call) (n : Nat) (X : Cx) (Ek : XK) : Prop where
  fn : XFn P c W cl n X
  tk : Takes X (WE0 Ek)
section
variable {P : Pa} {c : Ct} {fr : Bool}
abbrev CSX (P : Pa) (c : Ct) (fr : Bool) (s : S) (st : Stmt) : Type := Chk (∀ (W : Wd) (cl : Call) (n : Nat) (X : Cx) (Ek : XK), XFx P c W cl n X Ek → PS X st (tStX W cl fr Ek s))
abbrev CSsX (P : Pa) (c : Ct) (fr : Bool) (s : Ss) (st : List Stmt) : Type := Chk (∀ (W : Wd) (cl : Call) (n : Nat) (X : Cx) (Ek : XK), XFx P c W cl n X Ek → PSs X st (tStsX W cl fr Ek s))
def lSX (fr : Bool) (s : S) (st : Stmt) : CSX P c fr s st := if hn : nxS P.mu s = true then (cS P c fr s st).map fun h W cl n X Ek ok => sx_lift (fun σd C => evS_nx ok.fn.nx s σd C hn) (h W cl n X ok.fn) else .no
def lSsX (fr : Bool) (s : Ss) (st : List Stmt) : CSsX P c fr s st := if hn : nxSs P.mu s = true then (cSs P c fr s st).map fun h W cl n X Ek ok => sxs_lift (fun σd C => evSs_nx ok.fn.nx s σd C hn) (h W cl n X ok.fn) else .no
def xRetX (m : E) (st : Stmt) : CSX P c fr (.ret m) st := match st with
  | .Return (some e) pos => if hf : fr = false then (cXE P c m e).map fun h W cl n X Ek ok => sx_ret hf (h W cl n X (WE0 Ek) ok.fn.ok ok.fn.nx ok.fn.unk ok.tk) else .no
  | _ => .no
def xAsgX (t : Tg) (m : E) (st : Stmt) : CSX P c fr (.asg t m) st := match st with
  | .Assign [tg] e pos => if h : (isTup e = false ∨ isSeq tg = false) ∧ notStar tg = true ∧ (isComp e = false ∨ isName tg = false) then (cXE P c m e).bnd fun h1 => (cT P c t tg).map fun h2 W cl n X Ek ok =>
      sx_asg (h1 W cl n X (WE0 Ek) ok.fn.ok ok.fn.nx ok.fn.unk ok.tk) (h2 W cl n X ok.fn.ok) (sw_tgt h.2.2 _ _) (sws_none h.1 _) h.2.1 else .no
  | _ => .no
def xRaiseX (k : Nat) (ms : Es) (st : Stmt) : CSX P c fr (.raise k ms) st := match ms, st with
  | .nil, .Raise (some (.Call (.Name x p) [] [] pos)) none pos2 => if h : k < 3 ∧ x = clsN k ∧ glB c.sc x = true ∧ dbgB x = true then .yes fun W cl n X Ek ok => sx_raise ok.fn.cls ok.fn.ok.calm ok.tk h.1 h.2.1 (ok.fn.ok.gl h.2.2.1) (dbg1 h.2.2.2) else .no
  | _, _ => .no
mutual
def cSX (P : Pa) (c : Ct) (fr : Bool) : (s : S) → (st : Stmt) → CSX P c fr s st
  | .asg t m, st => (lSX fr (.asg t m) st).or fun _ => xAsgX t m st
  | .ret m, st => (lSX fr (.ret m) st).or fun _ => xRetX m st
  | .ifs m a b, st => (lSX fr (.ifs m a b) st).or fun _ => match st with
    | .If x p q pos => if hn : nxE P.mu m = true then (gB (cE P m c) x).bnd fun h1 => (cSsX P c fr a p).bnd fun h2 => (cSsX P c fr b q).map fun h3 W cl n X Ek ok => sx_ifs (fun σd C => ev_nx ok.fn.nx m σd C hn) (h1 W cl n X ok.fn.ok) (h2 W cl n X Ek ok) (h3 W cl n X Ek ok) else .no
    | _ => .no
  | .raise k ms, st => xRaiseX k ms st
  | s, st => lSX fr s st
def cSsX (P : Pa) (c : Ct) (fr : Bool) : (s : Ss) → (st : List Stmt) → CSsX P c fr s st
  | .nil, st => lSsX fr .nil st
  | .cons s r, st => (lSsX fr (.cons s r) st).or fun _ => match st with
    | st :: rest => (cSX P c fr s st).bnd fun h => (cSsX P c fr r rest).map fun h2 W cl n X Ek ok => sx_cons (h W cl n X Ek ok) (h2 W cl n X Ek ok)
    | [] => .no
end
end
end Mi

set_option Elab.async false
set_option linter.all false
set_option maxRecDepth 100000
set_option maxHeartbeats 4000000
namespace Mi
open PySem PySem.Spec PyProof.Rows L2

section
variable {W : Wd} {w : World} {K : PySem.W.Frag} {mg : Str → Option Value} {base : Heap} {Pg : Program}
def nmOf (d : FDef) : Str := Str.ofString d.name
def nsOf (d : FDef) : List Str := d.names.map Str.ofString
def psOf (d : FDef) : List Str := (nsOf d).take d.params
def paOf (T : Nat → Option FDef) (G : List (Str × D)) : Pa := ⟨fun f => (T f).map fun d => (nmOf d, d.fresh), G, fun f => match T f with
  | some d => d.mute
  | none => true⟩
/-- the look at one def -/
def cDef (P : Pa) (d : FDef) (st : Stmt) : Bool := C8.scC (nsOf d) (psOf d) (defScope st) && decide ((psOf d).length = d.params) && (if d.mute then (cSs P ⟨nsOf d, defScope st, fun _ => true⟩ d.fresh d.body (defBody st)).isY else (cSsX P ⟨nsOf d, defScope st, fun _ => true⟩ d.fresh d.body (defBody st)).isY)
/-- a def of the text stands there -/
structure At (K : PySem.W.Frag) (mg : Str → Option Value) (x : Str) (st : Stmt) (ps : List Str) (a : Addr) : Prop where
  ex : ∃ dat, L2.Fun K x x st a dat ∧ mg x = some (.ref a) ∧ Binds K dat ps []
structure DefI (P : Pa) (W : Wd) (K : PySem.W.Frag) (mg : Str → Option Value) (f : Nat) (d : FDef) : Prop where
  ex : ∃ a st, W.fa f = some a ∧ At K mg (nmOf d) st (psOf d) a ∧ cDef P d st = true
theorem rel_start {F H : Hp} {C : Cells} {ds : List D} {vs : List V} {N : List Str} {n : Nat} (hn : n = N.length) (s : Sub F H) (c : CellOk W F C H) (r : Reps W F ds vs) (hl : ds.length ≤ N.length) : Bd W F H F (startS n ds) C (L2.start N vs) H := by
  subst hn
  have hlen := r.len
  have key : ∀ (i : Nat) (sl : Sl), (startS N.length ds)[i]? = some sl → (∃ d, ds[i]? = some d ∧ sl = .val d) ∨ sl = .emp := fun i sl h => by
    unfold startS at h
    by_cases hi : i < ds.length
    · rw [List.getElem?_append_left (by simpa using hi), List.getElem?_map] at h
      cases e : ds[i]? with
      | none => rw [e] at h; cases h
      | some d => rw [e] at h; cases h; exact .inl ⟨d, rfl, rfl⟩
    · rw [List.getElem?_append_right (by simpa using hi), List.getElem?_replicate] at h
      split at h
      · cases h; exact .inr rfl
      · cases h
  refine ⟨⟨s, c, fun _ _ h _ => h, fun d e => ⟨_, (c.at_ d e).1⟩, ?_, fun i d h => ?_, fun i d h => ?_⟩, Stp.refl s c⟩
  · unfold startS L2.start
    simp only [List.length_append, List.length_map, List.length_replicate]
    omega
  · rcases key i _ h with ⟨d', h1, h2⟩ | h2
    · cases h2
      obtain ⟨v, g1, g2⟩ := r.get h1
      refine ⟨v, ?_, g2⟩
      unfold L2.start
      have hi : i < vs.length := by
        by_cases hi : i < vs.length
        · exact hi
        · rw [List.getElem?_eq_none (by omega)] at g1; cases g1
      rw [List.getElem?_append_left (by simpa using hi), List.getElem?_map, g1]; rfl
    · cases h2
  · exfalso
    cases e : (startS N.length ds)[i]? with
    | none => rw [e] at h; cases h
    | some sl =>
      rw [e] at h
      rcases key i _ e with ⟨d', h1, h2⟩ | h2
      · subst h2; cases h
      · subst h2; cases h
theorem hush_ok {m : Bool} {r : R D} {d : D} {C : Cells} (h : hush m r = .ok d C) : r = .ok d C := by
  cases r with
  | ok a C' => exact h
  | ex c a C' => cases m <;> cases h
  | bad => cases h
theorem hush_ex {m : Bool} {r : R D} {c : Nat} {a : Option D} {C : Cells} (h : hush m r = .ex c a C) : m = false ∧ r = .ex c a C := by
  cases r with
  | ok a C' => cases h
  | ex c' a' C' => cases m <;> first | (cases h; done) | exact ⟨rfl, h⟩
  | bad => cases h
/-- THE RULE: every def of the table, by its text -/
theorem fn_sound {T : Nat → Option FDef} {G : List (Str × D)} (hK : K = W.K) (hb : Blt mg) (hcls : ClsOk W K mg) (hg : ∀ x d, (x, d) ∈ G → ∃ v u, mg x = some u ∧ RelV v u ∧ ∀ F, Rep W F d v) (hD : ∀ f d, T f = some d → DefI (paOf T G) W K mg f d) :
    ∀ n f d, T f = some d → ∃ a dat, W.fa f = some a ∧ mg (nmOf d) = some (.ref a) ∧ PySem.W.keepIn K (.ref a) = true ∧ Binds K dat (psOf d) [] ∧ FnOk Pg w K mg base (L2.CX Pg w) (n + 1) a dat (psOf d) (spF W (callD T n) d.fresh f)
  | 0, f, d, hf => by
    obtain ⟨a, st, h1, ⟨dat, h2, h3, h4⟩, h5⟩ := (hD f d hf).ex
    have no : ∀ vs H Q E, ¬ spF W (callD T 0) d.fresh f vs H Q E := fun vs H Q E ⟨F, C, ds, _, _, _, q⟩ => by
      rcases q with ⟨dd, C', q, _⟩ | ⟨c, a, C', q, _⟩
      · simp only [callD] at q
        cases q
      · simp only [callD] at q
        cases q
    exact ⟨a, dat, h1, h3, h2.kp, h4, fun vs H Q E h => absurd h (no vs H Q E), fun A outer s H args us vs Q E _ _ _ _ h => absurd h (no vs H Q E)⟩
  | n + 1, f, d, hf => by
    obtain ⟨a, st, h1, ⟨dat, h2, h3, h4⟩, h5⟩ := (hD f d hf).ex
    refine ⟨a, dat, h1, h3, h2.kp, h4, ?_⟩
    unfold cDef at h5
    rw [Bool.and_eq_true, Bool.and_eq_true, decide_eq_true_eq] at h5
    have S := C8.fnScope_by h5.1.1
    have hp : d.params ≤ (nsOf d).length := by
      have := h5.1.2
      unfold psOf at this
      rw [List.length_take] at this
      omega
    have hN : (nsOf d).length = d.names.length := by unfold nsOf; rw [List.length_map]
    have arg : ∀ {vs H Q E}, spF W (callD T (n + 1)) d.fresh f vs H Q E → ∃ F C ds, Sub F H ∧ CellOk W F C H ∧ Reps W F ds vs ∧ ds.length = d.params ∧ ((∃ dd C', ((evSs (callD T n) d.body (startS d.names.length ds) C).bind fun o C => match o with
        | .rt d => .ok d C
        | .nx _ => if d.fresh then .bad else .ok .non C
        | _ => .bad) = .ok dd C' ∧ ∀ F' H' v, Stp W F H F' C' H' → PostF W d.fresh H F' H' dd v → Q v H') ∨
        ∃ c xA C', d.mute = false ∧ evSs (callD T n) d.body (startS d.names.length ds) C = .ex c none C' ∧ W.xa c = some xA ∧ ∀ F' H', Stp W F H F' C' H' → E (.ref xA) none H') := fun {vs H Q E} ⟨F, C, ds, s, c, r, q⟩ => by
      rcases q with ⟨dd, C', q, k⟩ | ⟨cc, xA, C', q, xa, k⟩
      · simp only [callD, hf, runF] at q
        have q := hush_ok q
        split at q
        · rename_i hl
          exact ⟨F, C, ds, s, c, r, hl, .inl ⟨dd, C', q, k⟩⟩
        · cases q
      · simp only [callD, hf, runF] at q
        obtain ⟨hm, q⟩ := hush_ex q
        split at q
        · rename_i hl
          refine ⟨F, C, ds, s, c, r, hl, .inr ⟨cc, xA, C', hm, ?_, xa, k⟩⟩
          rcases R.bind_ex q with e1 | ⟨o, C1, e1, q⟩
          · exact e1
          · cases o with
            | rt d' => cases q
            | nx σ' => dsimp only at q; split at q <;> cases q
            | bk σ' => cases q
            | ct σ' => cases q
        · cases q
    refine h2.okX S (fun vs H Q E h => ?_) (fun cdv A outer s H vs Q E hr h => ?_)
    · obtain ⟨F, C, ds, _, _, r, hl, _⟩ := arg h
      rw [← r.len, hl, h5.1.2]
    · obtain ⟨F, C, ds, hs, hc, r, hl, q⟩ := arg h
      have ok : XFn (paOf T G) ⟨nsOf d, defScope st, fun _ => true⟩ W (callD T n) n (cxOf (L2.CX Pg w) Pg w K mg base (nsOf d) (nmOf d) (defScope st) a cdv A outer s H E) := by
        refine ⟨⟨hK, rfl, S.nd, rfl, rfl, fun _ _ => rfl, hr, fun g nm fr hg' => ?_, hb, hg⟩, passes_of rfl, hcls, rfl, rfl, fun g xs C hm => callD_nx (N := (paOf T G).mu) (fun f' d' h1 h2 => ?_) n g xs C hm, fun g => ?_⟩
        · have hg' : (T g).map (fun d => (nmOf d, d.fresh)) = some (nm, fr) := hg'
          cases eg : T g with
          | none => rw [eg] at hg'; cases hg'
          | some dg =>
            rw [eg] at hg'
            cases hg'
            obtain ⟨a', dat', g1, g2, g3, g4, g5⟩ := fn_sound hK hb hcls hg hD n g dg eg
            exact ⟨a', dat', psOf dg, g1, g2, g3, g4, g5⟩
        · have h1 : (match T f' with
            | some d => d.mute
            | none => true) = true := h1
          rw [h2] at h1
          exact h1
        · cases eg : T g with
          | none => exact .inl fun ds C => by cases n <;> simp only [callD, eg]
          | some dg => exact .inr ⟨nmOf dg, dg.fresh, by show (T g).map _ = _; rw [eg]; rfl⟩
      have hb' := rel_start (N := nsOf d) (n := d.names.length) hN.symm hs hc r (by rw [hl]; exact hp)
      have fin : ∀ {o : Fl} {C1 C' : Cells} {dd : D}, (match o with
          | .rt d => R.ok d C1
          | .nx _ => if d.fresh then .bad else .ok .non C1
          | _ => .bad) = .ok dd C' → (∀ F' H' v, Stp W F H F' C' H' → PostF W d.fresh H F' H' dd v → Q v H') → EndF W d.fresh F H F { nx := fun _ H' => Q .non H', rt := Q } o C1 := fun {o C1 C' dd} q k => by
        cases o with
        | rt d' =>
          cases q
          exact fun F' H' v t p => k F' H' v t p
        | nx σd =>
          cases hfr : d.fresh with
          | true =>
            rw [hfr] at q
            cases q
          | false =>
            rw [hfr] at q
            cases q
            exact fun F' σ' H' b' _ => k F' H' .non b'.st (by rw [hfr]; exact .non)
        | bk σd => cases q
        | ct σd => cases q
      cases hm : d.mute with
      | true =>
        rw [hm, if_pos rfl] at h5
        have pss := Chk.get h5.2 W (callD T n) n _ ok
        refine ⟨_, pss, ?_⟩
        rcases q with ⟨dd, C', q, k⟩ | ⟨_, _, _, hm', _⟩
        · obtain ⟨o, C1, e1, q⟩ := R.bind_ok q
          exact ⟨F, H, F, _, C, o, C1, hb', e1, fin q k⟩
        · rw [hm] at hm'; cases hm'
      | false =>
        rw [hm, if_neg Bool.false_ne_true] at h5
        have pss := Chk.get h5.2 W (callD T n) n _ E ⟨ok, takes_of rfl rfl rfl rfl⟩
        refine ⟨_, pss, ?_⟩
        rcases q with ⟨dd, C', q, k⟩ | ⟨cc, xA, C', _, q, xa, k⟩
        · obtain ⟨o, C1, e1, q⟩ := R.bind_ok q
          exact .inl ⟨F, H, F, _, C, o, C1, hb', e1, fin q k⟩
        · exact .inr ⟨F, H, F, _, C, cc, xA, C', hb', q, xa, k⟩

/-! ### law itself -/
/-- the draws' box, as law's first line makes it -/
def boxE (kBox kCells : Nat) : E := .call kBox (.cons (.call kCells (.cons (.v 0) (.cons (.lit (.int 1)) .nil))) (.cons (.lit (.int 0)) .nil))
def spLaw (K : PySem.W.Frag) : Sp := fun vs H Q _ => ∃ (a : Addr) (ns : List Int), vs = [.ref a] ∧ SqL K H a (ns.map V.int) ∧ ns.length ≤ 63 ∧ ∀ H', Q (.bl true) H'
def cLaw (P : Pa) (kBox kCells : Nat) (names : List String) (body : Ss) (st : Stmt) : Bool := match defBody st with
  | [] => false
  | s0 :: rest => C8.scC (names.map Str.ofString) [Str.ofString "script"] (defScope st) && decide (2 ≤ names.length) && (cNew P ⟨names.map Str.ofString, defScope st, fun _ => true⟩ 1 (cE P (boxE kBox kCells) ⟨names.map Str.ofString, defScope st, fun _ => true⟩) s0).isY
    && (cSs P ⟨names.map Str.ofString, defScope st, fun _ => true⟩ false body rest).isY
/-- what the evaluator says of law -/
def LawRuns (T : Nat → Option FDef) (N : Nat) (kBox kCells : Nat) (k : Nat) (body : Ss) : Prop := ∀ ns : List Int, ns.length ≤ 63 → ∃ cs C', ev (callD T N) (boxE kBox kCells) (startS k [.frl (ns.map .int)]) [] = .ok (.lst (cs.map .int)) [] ∧
  evSs (callD T N) body (startS k [.frl (ns.map .int), .cell]) cs = .ok (.rt (.bl true)) C'
theorem intsD_map : ∀ ns : List Int, intsD (ns.map .int) = some ns
  | [] => rfl
  | n :: r => by rw [List.map_cons, intsD, intsD_map r]; rfl
theorem start_set {N : List Str} {a p : V} (h : 2 ≤ N.length) : (L2.start N [a]).set 1 (some p) = L2.start N [a, p] := by
  unfold L2.start
  obtain ⟨n, hn⟩ : ∃ n, N.length = n + 2 := ⟨N.length - 2, by omega⟩
  rw [hn]
  show (some a :: List.replicate (n + 1) none).set 1 (some p) = some a :: some p :: List.replicate n none
  rw [List.replicate_succ]
  rfl
theorem law_sound {T : Nat → Option FDef} {G : List (Str × D)} {N kBox kCells : Nat} {names : List String} {body : Ss} {st : Stmt} {a : Addr} {dat : FuncData} {fa : Nat → Option Addr} {fdr : Addr → List D → List D → Prop} {xa : Nat → Option Addr} (hb : Blt mg) (hcls : ∀ W : Wd, W.K = K → W.xa = xa → ClsOk W K mg)
    (hg : ∀ (W : Wd), W.K = K → W.fa = fa → ∀ x d, (x, d) ∈ G → ∃ v u, mg x = some u ∧ RelV v u ∧ ∀ F, Rep W F d v) (hD : ∀ (W : Wd), W.K = K → W.fa = fa → ∀ f d, T f = some d → DefI (paOf T G) W K mg f d)
    (hL : L2.Fun K "law" "law" st a dat) (hc : cLaw (paOf T G) kBox kCells names body st = true) (hrun : LawRuns T N kBox kCells names.length body) : FnOk Pg w K mg base CX0 (N + 2) a dat [Str.ofString "script"] (spLaw K) := by
  have fn : ∀ W : Wd, W.K = K → W.fa = fa → W.xa = xa → ∀ g nm fr, (paOf T G).Sg g = some (nm, fr) → ∀ X : Cx, X.prog = Pg → X.w = w → X.K = K → X.mg = mg → X.base = base → FnAt W (callD T N) (N + 1) X fr g nm := fun W h1 h2 h3 g nm fr hg' X e1 e2 e3 e4 e5 => by
    have hg' : (T g).map (fun d => (nmOf d, d.fresh)) = some (nm, fr) := hg'
    cases eg : T g with
    | none => rw [eg] at hg'; cases hg'
    | some dg =>
      rw [eg] at hg'
      cases hg'
      obtain ⟨a', dat', g1, g2, g3, g4, g5⟩ := fn_sound (Pg := Pg) (w := w) (base := base) h1.symm hb (hcls W h1 h3) (hg W h1 h2) (hD W h1 h2) N g dg eg
      subst e1 e2 e3 e4 e5
      exact ⟨a', dat', psOf dg, g1, g2, g3, g4, g5⟩
  unfold cLaw at hc
  cases eb : defBody st with
  | nil => rw [eb] at hc; cases hc
  | cons s0 rest =>
    rw [eb] at hc
    simp only [Bool.and_eq_true, decide_eq_true_eq] at hc
    obtain ⟨⟨⟨hc1, hc2⟩, hc3⟩, hc4⟩ := hc
    have S := C8.fnScope_by hc1
    refine hL.ok S (fun vs H Q E h => ?_) (fun cdv A outer s H vs Q E hr h => ?_)
    · obtain ⟨p, ns, rfl, _⟩ := h
      rfl
    · obtain ⟨q, ns, rfl, hS, h63, hQ⟩ := h
      obtain ⟨cs, C', h1, h2⟩ := hrun ns h63
      generalize hN : names.map Str.ofString = NN at S hc3 hc4
      have hNl : NN.length = names.length := by rw [← hN, List.length_map]
      have ok : ∀ W : Wd, W.K = K → W.fa = fa → W.xa = xa → XFn (paOf T G) ⟨NN, defScope st, fun _ => true⟩ W (callD T N) N (cxOf CX0 Pg w K mg base NN "law" (defScope st) a cdv A outer s H E).nox := fun W e1 e2 e3 =>
        ⟨⟨e1.symm, rfl, S.nd, rfl, rfl, fun _ _ => rfl, hr, fun g nm fr hg' => fn W e1 e2 e3 g nm fr hg' _ rfl rfl rfl rfl rfl, hb, hg W e1 e2⟩, PassesOwn.never, hcls W e1 e3, rfl, rfl, fun g xs C hm => callD_nx (N := (paOf T G).mu) (fun f' d' h1 h2 => by
          have h1 : (match T f' with
            | some d => d.mute
            | none => true) = true := h1
          rw [h2] at h1
          exact h1) N g xs C hm, fun g => by
          cases eg : T g with
          | none => exact .inl fun ds C => by cases N <;> simp only [callD, eg]
          | some dg => exact .inr ⟨nmOf dg, dg.fresh, by show (T g).map _ = _; rw [eg]; rfl⟩⟩
      let W0 : Wd := ⟨K, fa, none, fdr, xa⟩
      have p0 := Chk.get hc3 W0 (callD T N) N _ (ok W0 rfl rfl rfl).ok
      have p1 : ∀ p, PSs (cxOf CX0 Pg w K mg base NN "law" (defScope st) a cdv A outer s H E).nox rest (tSts ⟨K, fa, some p, fdr, xa⟩ (callD T N) false body) := fun p => Chk.get hc4 ⟨K, fa, some p, fdr, xa⟩ (callD T N) N _ (ok _ rfl rfl rfl)
      have p2 : PSs (cxOf CX0 Pg w K mg base NN "law" (defScope st) a cdv A outer s H E).nox rest (fun D σ H => ∃ p, tSts ⟨K, fa, some p, fdr, xa⟩ (callD T N) false body D σ H) := ⟨fun pins s σ H D I ⟨p, hp⟩ => (p1 p).run pins s σ H D I hp⟩
      rw [eb]
      refine ⟨_, pss_cons p0 p2, ?_⟩
      have rep0 : ∀ W : Wd, W.K = K → ∀ F, Ext H F → Rep W F (.frl (ns.map .int)) (.ref q) := fun W e F x => .frl (by rw [e]; exact x.sqL hS) (Reps.of_ints ns)
      have b0 := rel_start (W := W0) (F := H) (H := H) (C := []) (ds := [.frl (ns.map .int)]) (vs := [.ref q]) (N := NN) (n := names.length) hNl.symm (fun _ _ h => h) ⟨fun d e => by cases e⟩ (.one (rep0 W0 rfl H (Ext.refl H))) (by show 1 ≤ NN.length; omega)
      refine ⟨H, H, _, [], _, [], b0.rel, h1, fun F1 H1 v t1 ⟨p, o, ev', g1, g2, g3, g4, g5⟩ => ?_⟩
      subst ev'
      refine ⟨p, ?_⟩
      cases g5 with
      | lst g5 =>
        have hv := g5.ints (intsD_map cs)
        subst hv
        have b1 := rel_start (W := ⟨K, fa, some p, fdr, xa⟩) (F := F1) (H := H1) (C := cs) (ds := [.frl (ns.map .int), .cell]) (vs := [.ref q, .ref p]) (N := NN) (n := names.length) hNl.symm t1.sub ⟨fun d e => by cases e; exact ⟨g2, g3⟩⟩ (.cons (rep0 _ rfl F1 t1.ext) (.one (.cell rfl))) (by show 2 ≤ NN.length; omega)
        rw [start_set (by omega)]
        refine ⟨F1, H1, F1, _, cs, _, C', b1, h2, fun F' H' v _ pf => ?_⟩
        have hv : v = .bl true := Rep.bl_inv (show Rep _ F' (.bl true) v from pf)
        subst hv
        exact hQ H'
end
end Mi

set_option Elab.async false
set_option linter.all false
set_option maxRecDepth 100000
set_option maxHeartbeats 4000000
namespace Mi
open PySem PySem.Spec PyProof.Rows L2

/-! ## From the program's top -/
abbrev Ent := Nat × FDef × Stmt
inductive DefL (K : PySem.W.Frag) : List Ent → List Addr → Prop
  | nil : DefL K [] []
  | cons {e : Ent} {r : List Ent} {f : Addr} {fs : List Addr} {oc kV doc pm cdv ct : Value} {od an : Option Addr} {osl : Array (Option Value)} : PySem.W.nsIn K mainGlobals (nmOf e.2.1) = some (some (.ref f)) →
      K.lookup f = some ⟨oc, od, .func (PySem.W.fnOf (nmOf e.2.1) (nmOf e.2.1) (defArgs e.2.2) (defBody e.2.2) (defScope e.2.2) .none kV doc pm an cdv ct), osl⟩ → PySem.W.codeIn K cdv (nmOf e.2.1) = true → PySem.W.keepIn K (.ref f) = true → DefL K r fs → DefL K (e :: r) (f :: fs)
def faOf : List Ent → List Addr → Nat → Option Addr
  | e :: r, a :: s, f => if e.1 = f then some a else faOf r s f
  | _, _, _ => none
def BindsOk (d : FDef) (st : Stmt) : Prop := ∀ (kV doc pm : Value) (an : Option Addr) (cdv ct : Value) (us : List Value), us.length = (psOf d).length → bindArgs (PySem.W.fnOf (nmOf d) (nmOf d) (defArgs st) (defBody st) (defScope st) .none kV doc pm an cdv ct) ⟨us, []⟩ = pure ((psOf d).zip us)
theorem defl_get {K : PySem.W.Frag} {h : Heap} {mg : Str → Option Value} (X : K.In h) (G : h.Ns mainGlobals mg) : ∀ {es : List Ent} {as : List Addr}, DefL K es as → (es.map (·.1)).Nodup → (∀ e ∈ es, BindsOk e.2.1 e.2.2) → ∀ e ∈ es, ∃ a, faOf es as e.1 = some a ∧ At K mg (nmOf e.2.1) e.2.2 (psOf e.2.1) a := by
  intro es as h
  induction h with
  | nil => intro _ _ e he; cases he
  | @cons e r f fs _ _ _ _ _ _ _ _ _ h1 h2 h3 h4 _ ih =>
    intro hn hb e' he
    rw [List.map_cons, List.nodup_cons] at hn
    rcases List.mem_cons.mp he with rfl | he
    · have F := fun_mk (st := e'.2.2) h2 h3 h4
      exact ⟨f, by unfold faOf; rw [if_pos rfl], _, F, PySem.W.mg_of X G h1, F.binds (hb e' List.mem_cons_self)⟩
    · obtain ⟨a, g1, g2⟩ := ih hn.2 (fun e he => hb e (List.mem_cons_of_mem _ he)) e' he
      refine ⟨a, ?_, g2⟩
      unfold faOf
      rw [if_neg (fun z => hn.1 (by rw [z]; exact List.mem_map_of_mem he))]
      exact g1
theorem ar0 {P : List Value → Prop} (h : P []) : ∀ us : List Value, us.length = 0 → P us
  | [], _ => h
theorem ar1 {P : List Value → Prop} (h : ∀ a, P [a]) : ∀ us : List Value, us.length = 1 → P us
  | [a], _ => h a
theorem ar2 {P : List Value → Prop} (h : ∀ a b, P [a, b]) : ∀ us : List Value, us.length = 2 → P us
  | [a, b], _ => h a b
theorem ar3 {P : List Value → Prop} (h : ∀ a b c, P [a, b, c]) : ∀ us : List Value, us.length = 3 → P us
  | [a, b, c], _ => h a b c
theorem ar4 {P : List Value → Prop} (h : ∀ a b c d, P [a, b, c, d]) : ∀ us : List Value, us.length = 4 → P us
  | [a, b, c, d], _ => h a b c d
theorem ar5 {P : List Value → Prop} (h : ∀ a b c d e, P [a, b, c, d, e]) : ∀ us : List Value, us.length = 5 → P us
  | [a, b, c, d, e], _ => h a b c d e
theorem ar6 {P : List Value → Prop} (h : ∀ a b c d e f, P [a, b, c, d, e, f]) : ∀ us : List Value, us.length = 6 → P us
  | [a, b, c, d, e, f], _ => h a b c d e f
/-- the names of built-ins that no def of the module stands before -/
structure BltK (K : PySem.W.Frag) : Prop where
  len : PySem.W.nsIn K mainGlobals "len" = some none
  abs : PySem.W.nsIn K mainGlobals "abs" = some none
  int : PySem.W.nsIn K mainGlobals "int" = some none
  str : PySem.W.nsIn K mainGlobals "str" = some none
  bool : PySem.W.nsIn K mainGlobals "bool" = some none
  tuple : PySem.W.nsIn K mainGlobals "tuple" = some none
  list : PySem.W.nsIn K mainGlobals "list" = some none
  dict : PySem.W.nsIn K mainGlobals "dict" = some none
  set : PySem.W.nsIn K mainGlobals "set" = some none
  sum : PySem.W.nsIn K mainGlobals "sum" = some none
  max : PySem.W.nsIn K mainGlobals "max" = some none
  min : PySem.W.nsIn K mainGlobals "min" = some none
  all : PySem.W.nsIn K mainGlobals "all" = some none
  any : PySem.W.nsIn K mainGlobals "any" = some none
  sorted : PySem.W.nsIn K mainGlobals "sorted" = some none
  isinstance : PySem.W.nsIn K mainGlobals "isinstance" = some none
  range : PySem.W.nsIn K mainGlobals "range" = some none
  enumerate : PySem.W.nsIn K mainGlobals "enumerate" = some none
  zip : PySem.W.nsIn K mainGlobals "zip" = some none
theorem BltK.blt {K : PySem.W.Frag} {h : Heap} {mg : Str → Option Value} (X : K.In h) (G : h.Ns mainGlobals mg) (b : BltK K) : Blt mg :=
  ⟨PySem.W.mg_none_of X G b.len, PySem.W.mg_none_of X G b.abs, PySem.W.mg_none_of X G b.int, PySem.W.mg_none_of X G b.str, PySem.W.mg_none_of X G b.bool, PySem.W.mg_none_of X G b.tuple, PySem.W.mg_none_of X G b.list, PySem.W.mg_none_of X G b.dict, PySem.W.mg_none_of X G b.set, PySem.W.mg_none_of X G b.sum,
   PySem.W.mg_none_of X G b.max, PySem.W.mg_none_of X G b.min, PySem.W.mg_none_of X G b.all, PySem.W.mg_none_of X G b.any, PySem.W.mg_none_of X G b.sorted, PySem.W.mg_none_of X G b.isinstance, PySem.W.mg_none_of X G b.range, PySem.W.mg_none_of X G b.enumerate, PySem.W.mg_none_of X G b.zip⟩
/-- texts of a tuple of the module -/
def strsV : List Value → List D → Bool
  | [], [] => true
  | .str x _ :: us, .str s :: ds => decide (x = toS s) && strV s && strsV us ds
  | _, _ => false
theorem strsV_ok {W : Wd} {F : Hp} : ∀ {us : List Value} {ds : List D}, strsV us ds = true → ∃ vs, Vals vs us ∧ Reps W F ds vs
  | [], [], _ => ⟨[], .nil, .nil⟩
  | .str x t :: us, .str s :: ds, h => by
    simp only [strsV, Bool.and_eq_true, decide_eq_true_eq] at h
    obtain ⟨⟨h1, h2⟩, h3⟩ := h
    obtain ⟨vs, g1, g2⟩ := strsV_ok h3
    exact ⟨.str (toS s) :: vs, .cons ⟨t, by rw [h1]⟩ g1, .cons (.str s h2) g2⟩
/-- constants of the module: ints, texts, tuples of texts; defs that are handed on -/
inductive CstL (K : PySem.W.Frag) (fa : Nat → Option Addr) : List (Str × D) → Prop
  | nil : CstL K fa []
  | int {x : Str} {i : Int} {t : Tok} {r : List (Str × D)} : PySem.W.nsIn K mainGlobals x = some (some (.int i t)) → CstL K fa r → CstL K fa ((x, .int i) :: r)
  | str {x y : Str} {s : List Nat} {t : Tok} {r : List (Str × D)} : PySem.W.nsIn K mainGlobals x = some (some (.str y t)) → (decide (y = toS s) && strV s) = true → CstL K fa r → CstL K fa ((x, .str s) :: r)
  | tup {x : Str} {a : Addr} {od : Option Addr} {its : Array Value} {n : Nat} {sl : Array (Option Value)} {ds : List D} {r : List (Str × D)} : PySem.W.nsIn K mainGlobals x = some (some (.ref a)) → K.lookup a = some ⟨.type "tuple", od, .seq its n, sl⟩ → (strsV its.toList ds && decide (its.size ≤ 16777216)) = true → CstL K fa r → CstL K fa ((x, .frt ds) :: r)
  | fn {x : Str} {f : Nat} {a : Addr} {r : List (Str × D)} : PySem.W.nsIn K mainGlobals x = some (some (.ref a)) → fa f = some a → CstL K fa r → CstL K fa ((x, .fn f) :: r)
theorem CstL.get {K : PySem.W.Frag} {h : Heap} {mg : Str → Option Value} {fa : Nat → Option Addr} (X : K.In h) (G : h.Ns mainGlobals mg) : ∀ {l : List (Str × D)}, CstL K fa l → ∀ (W : Wd), W.K = K → W.fa = fa → ∀ x d, (x, d) ∈ l → ∃ v u, mg x = some u ∧ RelV v u ∧ ∀ F, Rep W F d v := by
  intro l h
  induction h with
  | nil => intro W _ _ x d h; cases h
  | int h1 _ ih =>
    intro W e e2 x d hx
    rcases List.mem_cons.mp hx with hx | hx
    · cases hx
      exact ⟨.int _, _, PySem.W.mg_of X G h1, ⟨_, rfl⟩, fun F => .int _⟩
    · exact ih W e e2 x d hx
  | str h1 h2 _ ih =>
    intro W e e2 x d hx
    rcases List.mem_cons.mp hx with hx | hx
    · cases hx
      rw [Bool.and_eq_true, decide_eq_true_eq] at h2
      exact ⟨.str (toS _), _, PySem.W.mg_of X G h1, ⟨_, by rw [h2.1]⟩, fun F => .str _ h2.2⟩
    · exact ih W e e2 x d hx
  | @tup x' a od its n sl ds r h1 h2 h3 _ ih =>
    intro W e e2 x d hx
    rcases List.mem_cons.mp hx with hx | hx
    · cases hx
      rw [Bool.and_eq_true, decide_eq_true_eq] at h3
      refine ⟨.ref a, _, PySem.W.mg_of X G h1, rfl, fun F => ?_⟩
      obtain ⟨vs, g1, g2⟩ := strsV_ok (W := W) (F := F) h3.1
      exact .frt (.inr ⟨_, its, n, by rw [e]; exact h2, rfl, rfl, h3.2, g1⟩) g2
    · exact ih W e e2 x d hx
  | @fn x' f a r h1 h2 _ ih =>
    intro W e e2 x d hx
    rcases List.mem_cons.mp hx with hx | hx
    · cases hx
      exact ⟨.ref a, _, PySem.W.mg_of X G h1, rfl, fun F => .fn (by rw [e2]; exact h2)⟩
    · exact ih W e e2 x d hx
/-- what is looked up of one class of errors -/
structure Raw1 (K : PySem.W.Frag) (a : Addr) : Prop where
  xP : PySem.W.excIn K a [.type "ValueError", .type "Exception", .type "BaseException", .type "object"] "ValueError.__new__" = true
  kP : PySem.W.keepIn K (.ref a) = true
  bP : PySem.W.subIn K (.ref a) (.type "BaseException") = some true
  tP : PySem.W.typeIn K (.ref a) = some (.type "type")
  hg : PySem.W.findIn K (.ref a) "__getattribute__" = some (some (.builtin "BaseException.__getattribute__"))
  hk : PySem.W.findIn K (.ref a) "__getattr__" = some none
  hd : PySem.W.hasDictIn K a = true
  ha : PySem.W.findIn K (.ref a) "__class__" = some (some (.builtin "object.__class__"))
  hn : PySem.W.specialIn K (.builtin "object.__class__") "__get__" = some (some (.builtin "getset_descriptor.__get__"))
  ht : PySem.W.takesIn K (.builtin "object.__class__") = some true
  hm : PySem.W.mroIn K a (.type "object") = some true
  sV : PySem.W.subIn K (.ref a) (.type "ValueError") = some true
theorem kit_ve {K : PySem.W.Frag} {a : Addr} (h : PySem.W.subIn K (.ref a) (.type "ValueError") = some true) : PySem.W.kitOne K (.ref a) (.type "ValueError") = some true := by
  unfold PySem.W.kitOne PySem.W.kitCls
  have e : PySem.W.kitMeta "ValueError" = true := by decide +kernel
  simp only [e, if_true, h]
  split <;> rfl
theorem Raw1.one {K : PySem.W.Frag} {a : Addr} (r : Raw1 K a) : Cls1 K a := ⟨r.xP, r.kP, r.bP, r.tP, ⟨r.hg, r.hk, r.bP, r.hd, r.ha, r.hn, r.ht, r.hm⟩, kit_ve r.sV⟩
theorem Raw1.exm {K : PySem.W.Frag} {a c : Addr} {b : Bool} (r : Raw1 K a) (h : PySem.W.subIn K (.ref c) (.ref a) = some b) : PySem.W.exmOne K (.ref c) (.ref a) = some b := PySem.W.exm_ref r.bP r.hd r.tP h
/-- the three classes of errors -/
structure ClsK (K : PySem.W.Frag) (aM aU aC : Addr) : Prop where
  nM : PySem.W.nsIn K mainGlobals "TooMany" = some (some (.ref aM))
  nU : PySem.W.nsIn K mainGlobals "Unfit" = some (some (.ref aU))
  nC : PySem.W.nsIn K mainGlobals "CanNot" = some (some (.ref aC))
  nV : PySem.W.nsIn K mainGlobals "ValueError" = some none
  rM : Raw1 K aM
  rU : Raw1 K aU
  rC : Raw1 K aC
  sMM : PySem.W.subIn K (.ref aM) (.ref aM) = some true
  sMU : PySem.W.subIn K (.ref aM) (.ref aU) = some false
  sMC : PySem.W.subIn K (.ref aM) (.ref aC) = some false
  sUM : PySem.W.subIn K (.ref aU) (.ref aM) = some false
  sUU : PySem.W.subIn K (.ref aU) (.ref aU) = some true
  sUC : PySem.W.subIn K (.ref aU) (.ref aC) = some false
  sCM : PySem.W.subIn K (.ref aC) (.ref aM) = some false
  sCU : PySem.W.subIn K (.ref aC) (.ref aU) = some false
  sCC : PySem.W.subIn K (.ref aC) (.ref aC) = some true
def xaOf (aM aU aC : Addr) : Nat → Option Addr
  | 0 => some aM
  | 1 => some aU
  | 2 => some aC
  | _ => none
theorem xaOf_lt {aM aU aC a : Addr} : ∀ {c : Nat}, xaOf aM aU aC c = some a → (c = 0 ∧ a = aM) ∨ (c = 1 ∧ a = aU) ∨ (c = 2 ∧ a = aC)
  | 0, h => by cases h; exact .inl ⟨rfl, rfl⟩
  | 1, h => by cases h; exact .inr (.inl ⟨rfl, rfl⟩)
  | 2, h => by cases h; exact .inr (.inr ⟨rfl, rfl⟩)
  | n + 3, h => by cases h
theorem ClsK.ok {K : PySem.W.Frag} {h : Heap} {mg : Str → Option Value} {aM aU aC : Addr} (X : K.In h) (G : h.Ns mainGlobals mg) (c : ClsK K aM aU aC) (W : Wd) (e1 : W.K = K) (e2 : W.xa = xaOf aM aU aC) : ClsOk W K mg where
  one := fun k a hk => by
    rw [e2] at hk
    rcases xaOf_lt hk with ⟨rfl, rfl⟩ | ⟨rfl, rfl⟩ | ⟨rfl, rfl⟩
    · exact ⟨by decide, PySem.W.mg_of X G c.nM, c.rM.one⟩
    · exact ⟨by decide, PySem.W.mg_of X G c.nU, c.rU.one⟩
    · exact ⟨by decide, PySem.W.mg_of X G c.nC, c.rC.one⟩
  two := fun k a k' a' hk hk' => by
    rw [e2] at hk hk'
    rcases xaOf_lt hk with ⟨rfl, rfl⟩ | ⟨rfl, rfl⟩ | ⟨rfl, rfl⟩ <;> rcases xaOf_lt hk' with ⟨rfl, rfl⟩ | ⟨rfl, rfl⟩ | ⟨rfl, rfl⟩
    · exact c.rM.exm c.sMM
    · exact c.rU.exm c.sMU
    · exact c.rC.exm c.sMC
    · exact c.rM.exm c.sUM
    · exact c.rU.exm c.sUU
    · exact c.rC.exm c.sUC
    · exact c.rM.exm c.sCM
    · exact c.rU.exm c.sCU
    · exact c.rC.exm c.sCC
  all := fun k hk => by
    rw [e2]
    match k, hk with
    | 0, _ => exact ⟨_, rfl⟩
    | 1, _ => exact ⟨_, rfl⟩
    | 2, _ => exact ⟨_, rfl⟩
  ven := PySem.W.mg_none_of X G c.nV
/-- all together -/
theorem law_top {Pg : Program} {w : World} {K : PySem.W.Frag} {h : Heap} {mg : Str → Option Value} {T : Nat → Option FDef} {G : List (Str × D)} {es : List Ent} {as : List Addr} {stL : Stmt} {fa fL : Addr} {names : List String} {body : Ss} {N kBox kCells : Nat} (XK : K.In h) (Gn : h.Ns mainGlobals mg) (hfa : mg "law" = some (.ref fa))
    (hT : ∀ f d, T f = some d → ∃ st, (f, d, st) ∈ es) (hn : (es.map (·.1)).Nodup) (hb : ∀ e ∈ es, BindsOk e.2.1 e.2.2) (hck : ∀ e ∈ es, cDef (paOf T G) e.2.1 e.2.2 = true) (hL : cLaw (paOf T G) kBox kCells names body stL = true) (hrun : LawRuns T N kBox kCells names.length body)
    (dl : DefL K es as) (bk : BltK K) {aM aU aC : Addr} (ck : ClsK K aM aU aC) (cl : CstL K (faOf es as) G) {oc kV doc pm cdv ct : Value} {od an : Option Addr} {osl : Array (Option Value)}
    (aL : PySem.W.nsIn K mainGlobals "law" = some (some (.ref fL))) (lL : K.lookup fL = some ⟨oc, od, .func (PySem.W.fnOf "law" "law" (defArgs stL) (defBody stL) (defScope stL) .none kV doc pm an cdv ct), osl⟩) (cL : PySem.W.codeIn K cdv "law" = true) (kL : PySem.W.keepIn K (.ref fL) = true)
    (hbL : ∀ (s : Shared) (v : Value), BindsTo s (PySem.W.fnOf "law" "law" (defArgs stL) (defBody stL) (defScope stL) .none kV doc pm an cdv ct) ⟨[v], []⟩ [("script", v)]) :
    ∃ fd : FuncData, (∀ (s : Shared) (v : Value), BindsTo s fd ⟨[v], []⟩ [("script", v)]) ∧ ∀ base : Heap, K.In base → base.Ns mainGlobals mg → FnOk Pg w K mg base CX0 (N + 2) fa fd ["script"] (spLaw K) := by
  have e := hfa.symm.trans (PySem.W.mg_of XK Gn aL)
  cases e
  have FL := fun_mk (st := stL) lL cL kL
  refine ⟨_, hbL, fun base _ _ => ?_⟩
  refine law_sound (fa := faOf es as) (fdr := fun _ _ _ => False) (xa := xaOf aM aU aC) (bk.blt XK Gn) (fun W e1 e2 => ck.ok XK Gn W e1 e2) (fun W e1 e2 x d hx => cl.get XK Gn W e1 e2 x d hx) (fun W e1 e2 f d hf => ?_) FL hL hrun
  obtain ⟨st, hst⟩ := hT f d hf
  obtain ⟨a, g1, g2⟩ := defl_get XK Gn dl hn hb _ hst
  exact ⟨a, st, by rw [e2]; exact g1, g2, hck _ hst⟩
/-- the walk, for a row of 63 numbers -/
theorem law_walk {l : PySem.W.OpenLaw} {q : Program} {loose : List Str} {XP : (Str → Option Value) → Heap → Prop} {YP : World → Heap → Prop} {d : DefRec} {K : Params → PySem.W.Frag} {N : Nat} (hn : l.most = some 63) (hdf : d.params.defaults = []) (hr : Room (N + 2) callerA)
    (hY : ∀ (w : World) (h : Heap), YP w h → (K w.params).In h)
    (F : ∀ (w : World) (mg : Str → Option Value) (fa : Addr) (h : Heap), (K w.params).In h → h.Ns mainGlobals mg → mg d.name = some (.ref fa) →
      ∃ fd : FuncData, (∀ (s : Shared) (u : Value), BindsTo s fd ⟨[u], []⟩ [("script", u)]) ∧ ∀ base : Heap, (K w.params).In base → base.Ns mainGlobals mg → FnOk l.prog w (K w.params) mg base CX0 (N + 2) fa fd ["script"] (spLaw (K w.params))) :
    PySem.W.WalkO q loose XP YP l.row.toRowW d [] (fun f vs => PySem.call f vs) :=
  L2.walk_of (n := 63) (k := N + 2) (x := "script") (CX := fun _ => CX0) (sp := fun w => spLaw (K w.params)) hn (by decide) hdf hr hY F (fun _ _ a ns hl _ hS => ⟨a, ns, rfl, hS, hl, fun _ => rfl⟩) fun _ _ _ _ _ z => z
end Mi

set_option linter.all false
set_option maxRecDepth 100000
namespace Mi
/-- is_number -/
def f0 : FDef := { name := "is_number", params := 1, names := ["thing"], body := (.cons (.ret (.and (.isi (.v 0) [.int]) (.cons (.not (.isi (.v 0) [.bool])) .nil))) .nil), fresh := false }
/-- is_within -/
def f2 : FDef := { name := "is_within", params := 3, names := ["thing", "least", "most"], body := (.cons (.ret (.and (.call 0 (.cons (.v 0) .nil)) (.cons (.chain .le .le (.v 1) (.v 0) (.v 2)) .nil))) .nil), fresh := false }
/-- sure_within -/
def f123 : FDef := { name := "sure_within", params := 3, names := ["thing", "least", "most"], body := (.cons (.ifs (.not (.call 2 (.cons (.v 0) (.cons (.v 1) (.cons (.v 2) .nil))))) (.cons (.raise 1 .nil) .nil) .nil) (.cons (.ret (.v 0)) .nil)), fresh := false }
/-- is_long -/
def f5 : FDef := { name := "is_long", params := 2, names := ["thing", "length"], body := (.cons (.ret (.and (.isi (.v 0) [.tuple]) (.cons (.cmp .eq (.bi .len (.cons (.v 0) .nil)) (.v 1)) .nil))) .nil), fresh := false }
/-- tupled -/
def f1 : FDef := { name := "tupled", params := 1, names := ["value", "own"], body := (.cons (.ret (.ite (.isi (.v 0) [.list, .tuple]) (.bi .tuple (.cons (.comp (.call 1 (.cons (.v 1) .nil)) (.mk (.v 1) (.e (.v 0)) .no)) .nil)) (.v 0))) .nil), fresh := false }
/-- is_label_in -/
def f3 : FDef := { name := "is_label_in", params := 1, names := ["thing", "sign"], body := (.cons (.ifs (.or (.not (.isi (.v 0) [.str])) (.cons (.not (.chain .le .le (.lit (.int 1)) (.bi .len (.cons (.v 0) .nil)) (.gc (.int 12)))) (.cons (.cmp .notin (.idx (.v 0) (.lit (.int 0))) (.gc (.str [97, 98, 99, 100, 101, 102, 103, 104, 105, 106, 107, 108, 109, 110, 111, 112, 113, 114, 115, 116, 117, 118, 119, 120, 121, 122]))) .nil))) (.cons (.ret (.lit (.bl false))) .nil) .nil) (.cons (.ret (.bi .all (.cons (.comp (.or (.cmp .isin (.v 1) (.gc (.str [97, 98, 99, 100, 101, 102, 103, 104, 105, 106, 107, 108, 109, 110, 111, 112, 113, 114, 115, 116, 117, 118, 119, 120, 121, 122]))) (.cons (.cmp .isin (.v 1) (.gc (.str [48, 49, 50, 51, 52, 53, 54, 55, 56, 57]))) .nil)) (.mk (.v 1) (.e (.v 0)) .no)) .nil))) .nil)), fresh := false }
/-- is_leaf_in -/
def f4 : FDef := { name := "is_leaf_in", params := 1, names := ["thing"], body := (.cons (.ret (.or (.call 2 (.cons (.v 0) (.cons (.lit (.int 0)) (.cons (.gc (.int 1000000000)) .nil)))) (.cons (.call 3 (.cons (.v 0) .nil)) .nil))) .nil), fresh := false }
/-- is_sign -/
def f7 : FDef := { name := "is_sign", params := 1, names := ["thing"], body := (.cons (.ret (.and (.isi (.v 0) [.str]) (.cons (.cmp .isin (.v 0) (.gc (.frt [(.str [43]), (.str [45]), (.str [42])]))) .nil))) .nil), fresh := false }
/-- is_tree_in -/
def f6 : FDef := { name := "is_tree_in", params := 1, names := ["thing"], body := (.cons (.ifs (.call 4 (.cons (.v 0) .nil)) (.cons (.ret (.lit (.bl true))) .nil) .nil) (.cons (.ifs (.call 5 (.cons (.v 0) (.cons (.lit (.int 2)) .nil))) (.cons (.ret (.and (.isi (.idx (.v 0) (.lit (.int 0))) [.str]) (.cons (.cmp .eq (.idx (.v 0) (.lit (.int 0))) (.lit (.str [45]))) (.cons (.call 6 (.cons (.idx (.v 0) (.lit (.int 1))) .nil)) .nil)))) .nil) .nil) (.cons (.ret (.and (.call 5 (.cons (.v 0) (.cons (.lit (.int 3)) .nil))) (.cons (.call 7 (.cons (.idx (.v 0) (.lit (.int 0))) .nil)) (.cons (.call 6 (.cons (.idx (.v 0) (.lit (.int 1))) .nil)) (.cons (.call 6 (.cons (.idx (.v 0) (.lit (.int 2))) .nil)) .nil))))) .nil))), fresh := false }
/-- sides_in -/
def f8 : FDef := { name := "sides_in", params := 1, names := ["tree"], body := (.cons (.ret (.ite (.isi (.v 0) [.tuple]) (.sl (.v 0) (.so (.lit (.int 1))) .no) (.tup .nil))) .nil), fresh := false }
/-- size_in -/
def f9 : FDef := { name := "size_in", params := 1, names := ["tree", "own"], body := (.cons (.ret (.bin .add (.lit (.int 1)) (.bi .sum (.cons (.comp (.call 9 (.cons (.v 1) .nil)) (.mk (.v 1) (.e (.call 8 (.cons (.v 0) .nil))) .no)) .nil)))) .nil), fresh := false }
/-- deep_in -/
def f10 : FDef := { name := "deep_in", params := 1, names := ["tree", "own"], body := (.cons (.ret (.bi .max1 (.cons (.bin .add (.lst (.cons (.lit (.int 0)) .nil)) (.comp (.bin .add (.lit (.int 1)) (.call 10 (.cons (.v 1) .nil))) (.mk (.v 1) (.e (.call 8 (.cons (.v 0) .nil))) .no))) .nil))) .nil), fresh := false }
/-- is_near_tree -/
def f11 : FDef := { name := "is_near_tree", params := 1, names := ["thing"], body := (.cons (.ret (.and (.call 6 (.cons (.v 0) .nil)) (.cons (.cmp .le (.call 9 (.cons (.v 0) .nil)) (.gc (.int 200))) (.cons (.cmp .le (.call 10 (.cons (.v 0) .nil)) (.gc (.int 30))) .nil)))) .nil), fresh := false }
/-- sure_tree -/
def f21 : FDef := { name := "sure_tree", params := 1, names := ["value", "own"], body := (.cons (.asg (.v 1) (.call 1 (.cons (.v 0) .nil))) (.cons (.ifs (.not (.call 11 (.cons (.v 1) .nil))) (.cons (.raise 1 .nil) .nil) .nil) (.cons (.ret (.v 1)) .nil))), fresh := false }
/-- parts_in -/
def f39 : FDef := { name := "parts_in", params := 1, names := ["tree", "found", "place", "own", "path", "part"], body := (.cons (.asgO 1 (.lst (.cons (.tup (.cons (.tup .nil) (.cons (.v 0) .nil))) .nil))) (.cons (.for_ (.tp (.cons (.v 2) (.cons (.v 3) .nil))) (.enum (.call 8 (.cons (.v 0) .nil))) (.cons (.ext 1 (.comp (.tup (.cons (.bin .add (.tup (.cons (.v 2) .nil)) (.v 4)) (.cons (.v 5) .nil))) (.mk (.tp (.cons (.v 4) (.cons (.v 5) .nil))) (.e (.call 39 (.cons (.v 3) .nil))) .no))) .nil)) (.cons (.retO 1) .nil))), fresh := true }
/-- leaves_of -/
def f170 : FDef := { name := "leaves_of", params := 1, names := ["tree", "path", "part"], body := (.cons (.ret (.bi .tuple (.cons (.comp (.v 2) (.mk (.tp (.cons (.v 1) (.cons (.v 2) .nil))) (.e (.call 39 (.cons (.call 21 (.cons (.v 0) .nil)) .nil))) (.so (.cmp .eq (.call 8 (.cons (.v 2) .nil)) (.tup .nil))))) .nil))) .nil), fresh := false }
/-- shape_in -/
def f283 : FDef := { name := "shape_in", params := 1, names := ["tree", "sides", "own"], body := (.cons (.asg (.v 1) (.call 8 (.cons (.v 0) .nil))) (.cons (.ifs (.cmp .eq (.bi .len (.cons (.v 1) .nil)) (.lit (.int 1))) (.cons (.ret (.call 283 (.cons (.idx (.v 1) (.lit (.int 0))) .nil))) .nil) .nil) (.cons (.ret (.bi .tuple (.cons (.comp (.call 283 (.cons (.v 2) .nil)) (.mk (.v 2) (.e (.v 1)) .no)) .nil))) .nil))), fresh := false }
/-- is_shape_in -/
def f260 : FDef := { name := "is_shape_in", params := 1, names := ["thing"], body := (.cons (.ifs (.and (.cmp .eq (.v 0) (.tup .nil)) (.cons (.isi (.v 0) [.tuple]) .nil)) (.cons (.ret (.lit (.bl true))) .nil) .nil) (.cons (.ret (.and (.call 5 (.cons (.v 0) (.cons (.lit (.int 2)) .nil))) (.cons (.call 260 (.cons (.idx (.v 0) (.lit (.int 0))) .nil)) (.cons (.call 260 (.cons (.idx (.v 0) (.lit (.int 1))) .nil)) .nil)))) .nil)), fresh := false }
/-- leaves_in -/
def f261 : FDef := { name := "leaves_in", params := 1, names := ["shape"], body := (.cons (.ret (.ite (.cmp .eq (.v 0) (.tup .nil)) (.lit (.int 1)) (.bin .add (.call 261 (.cons (.idx (.v 0) (.lit (.int 0))) .nil)) (.call 261 (.cons (.idx (.v 0) (.lit (.int 1))) .nil))))) .nil), fresh := false }
/-- sure_shape -/
def f264 : FDef := { name := "sure_shape", params := 1, names := ["value", "own"], body := (.cons (.asg (.v 1) (.call 1 (.cons (.v 0) .nil))) (.cons (.ifs (.or (.not (.call 260 (.cons (.v 1) .nil))) (.cons (.cmp .gt (.call 261 (.cons (.v 1) .nil)) (.gc (.int 60))) .nil)) (.cons (.raise 1 .nil) .nil) .nil) (.cons (.ret (.v 1)) .nil))), fresh := false }
/-- all_counts -/
def f265 : FDef := { name := "all_counts", params := 1, names := ["most", "found", "many"], body := (.cons (.asgO 1 (.lst (.cons (.lit (.int 0)) (.cons (.lit (.int 1)) .nil)))) (.cons (.for_ (.v 2) (.range2 (.lit (.int 2)) (.bin .add (.v 0) (.lit (.int 1)))) (.cons (.app 1 (.bin .fdiv (.bin .mul (.bin .mul (.idx (.b 1) (.neg (.lit (.int 1)))) (.lit (.int 2))) (.bin .sub (.bin .mul (.lit (.int 2)) (.v 2)) (.lit (.int 3)))) (.v 2))) .nil)) (.cons (.retO 1) .nil))), fresh := true }
/-- place_in -/
def f284 : FDef := { name := "place_in", params := 2, names := ["shape", "counts", "found", "first", "many", "own"], body := (.cons (.ifs (.cmp .eq (.v 0) (.tup .nil)) (.cons (.ret (.lit (.int 0))) .nil) .nil) (.cons (.par [(3, false), (4, false)] (.cons (.call 261 (.cons (.idx (.v 0) (.lit (.int 0))) .nil)) (.cons (.call 261 (.cons (.v 0) .nil)) .nil))) (.cons (.asg (.v 2) (.bi .sum (.cons (.comp (.bin .mul (.idx (.v 1) (.v 5)) (.idx (.v 1) (.bin .sub (.v 4) (.v 5)))) (.mk (.v 5) (.range2 (.lit (.int 1)) (.v 3)) .no)) .nil))) (.cons (.ret (.bin .add (.bin .add (.v 2) (.bin .mul (.call 284 (.cons (.idx (.v 0) (.lit (.int 0))) (.cons (.v 1) .nil))) (.idx (.v 1) (.bin .sub (.v 4) (.v 3))))) (.call 284 (.cons (.idx (.v 0) (.lit (.int 1))) (.cons (.v 1) .nil))))) .nil)))), fresh := false }
/-- nth_in -/
def f285 : FDef := { name := "nth_in", params := 3, names := ["leaves", "place", "counts", "rest", "first", "left"], body := (.cons (.ifs (.cmp .eq (.v 0) (.lit (.int 1))) (.cons (.ret (.tup .nil)) .nil) .nil) (.cons (.par [(4, false), (5, false)] (.cons (.lit (.int 1)) (.cons (.v 1) .nil))) (.cons (.whl (.cmp .ge (.v 5) (.bin .mul (.idx (.v 2) (.v 4)) (.idx (.v 2) (.bin .sub (.v 0) (.v 4))))) (.cons (.asg (.v 5) (.bin .sub (.v 5) (.bin .mul (.idx (.v 2) (.v 4)) (.idx (.v 2) (.bin .sub (.v 0) (.v 4)))))) (.cons (.asg (.v 4) (.bin .add (.v 4) (.lit (.int 1)))) .nil))) (.cons (.asg (.v 3) (.idx (.v 2) (.bin .sub (.v 0) (.v 4)))) (.cons (.ret (.tup (.cons (.call 285 (.cons (.v 4) (.cons (.bin .fdiv (.v 5) (.v 3)) (.cons (.v 2) .nil)))) (.cons (.call 285 (.cons (.bin .sub (.v 0) (.v 4)) (.cons (.bin .mod (.v 5) (.v 3)) (.cons (.v 2) .nil)))) .nil)))) .nil))))), fresh := false }
/-- number_of_shape -/
def f263 : FDef := { name := "number_of_shape", params := 1, names := ["shape", "one", "other"], body := (.cons (.ifs (.cmp .eq (.v 0) (.tup .nil)) (.cons (.ret (.lit (.int 1))) .nil) .nil) (.cons (.par [(1, false), (2, false)] (.cons (.call 263 (.cons (.idx (.v 0) (.lit (.int 0))) .nil)) (.cons (.call 263 (.cons (.idx (.v 0) (.lit (.int 1))) .nil)) .nil))) (.cons (.ret (.ite (.cmp .eq (.v 1) (.v 2)) (.bin .add (.v 1) (.lit (.int 1))) (.bi .max2 (.cons (.v 1) (.cons (.v 2) .nil))))) .nil))), fresh := false }
/-- named_tree -/
def f286 : FDef := { name := "named_tree", params := 3, names := ["shape", "sign", "first", "one", "later", "other"], body := (.cons (.ifs (.cmp .eq (.v 0) (.tup .nil)) (.cons (.ret (.tup (.cons (.v 2) (.cons (.bin .add (.v 2) (.lit (.int 1))) .nil)))) .nil) .nil) (.cons (.asg (.tp (.cons (.v 3) (.cons (.v 4) .nil))) (.call 286 (.cons (.idx (.v 0) (.lit (.int 0))) (.cons (.v 1) (.cons (.v 2) .nil))))) (.cons (.asg (.tp (.cons (.v 5) (.cons (.v 4) .nil))) (.call 286 (.cons (.idx (.v 0) (.lit (.int 1))) (.cons (.v 1) (.cons (.v 4) .nil))))) (.cons (.ret (.tup (.cons (.tup (.cons (.v 1) (.cons (.v 3) (.cons (.v 5) .nil)))) (.cons (.v 4) .nil)))) .nil)))), fresh := false }
/-- is_shape -/
def f293 : FDef := { name := "is_shape", params := 1, names := ["thing"], body := (.cons (.ret (.call 260 (.cons (.v 0) .nil))) .nil), fresh := false }
/-- shape_of -/
def f294 : FDef := { name := "shape_of", params := 1, names := ["tree"], body := (.cons (.ret (.call 283 (.cons (.call 21 (.cons (.v 0) .nil)) .nil))) .nil), fresh := false }
/-- tree_of_shape -/
def f295 : FDef := { name := "tree_of_shape", params := 2, names := ["shape", "sign", "own"], body := (.cons (.asg (.v 2) (.call 264 (.cons (.v 0) .nil))) (.cons (.ifs (.or (.not (.isi (.v 1) [.str])) (.cons (.cmp .notin (.v 1) (.tup (.cons (.lit (.str [43])) (.cons (.lit (.str [45])) (.cons (.lit (.str [42])) .nil))))) .nil)) (.cons (.raise 1 .nil) .nil) .nil) (.cons (.ret (.idx (.call 286 (.cons (.v 2) (.cons (.v 1) (.cons (.lit (.int 0)) .nil)))) (.lit (.int 0)))) .nil))), fresh := false }
/-- shape_number -/
def f274 : FDef := { name := "shape_number", params := 1, names := ["shape"], body := (.cons (.ret (.call 263 (.cons (.call 264 (.cons (.v 0) .nil)) .nil))) .nil), fresh := false }
/-- how_many_shapes -/
def f271 : FDef := { name := "how_many_shapes", params := 1, names := ["leaves"], body := (.cons (.ret (.idx (.call 265 (.cons (.call 123 (.cons (.v 0) (.cons (.lit (.int 1)) (.cons (.gc (.int 200)) .nil)))) .nil)) (.v 0))) .nil), fresh := false }
/-- shape_place -/
def f291 : FDef := { name := "shape_place", params := 1, names := ["shape", "own"], body := (.cons (.asg (.v 1) (.call 264 (.cons (.v 0) .nil))) (.cons (.ret (.call 284 (.cons (.v 1) (.cons (.call 265 (.cons (.call 261 (.cons (.v 1) .nil)) .nil)) .nil)))) .nil)), fresh := false }
/-- nth_shape -/
def f292 : FDef := { name := "nth_shape", params := 2, names := ["leaves", "place", "many", "counts"], body := (.cons (.asg (.v 2) (.call 123 (.cons (.v 0) (.cons (.lit (.int 1)) (.cons (.gc (.int 60)) .nil))))) (.cons (.asg (.v 3) (.call 265 (.cons (.v 2) .nil))) (.cons (.ifs (.or (.not (.isi (.v 1) [.int])) (.cons (.isi (.v 1) [.bool]) (.cons (.cmp .lt (.v 1) (.lit (.int 0))) .nil))) (.cons (.raise 1 .nil) .nil) .nil) (.cons (.ifs (.cmp .ge (.v 1) (.idx (.v 3) (.v 2))) (.cons (.raise 2 .nil) .nil) .nil) (.cons (.ret (.call 285 (.cons (.v 2) (.cons (.v 1) (.cons (.v 3) .nil))))) .nil))))), fresh := false, mute := false }
/-- higher -/
def f65 : FDef := { name := "higher", params := 2, names := ["one", "other"], body := (.cons (.ret (.ite (.cmp .eq (.v 0) (.v 1)) (.bin .add (.v 0) (.lit (.int 1))) (.bi .max2 (.cons (.v 0) (.cons (.v 1) .nil))))) .nil), fresh := false }
/-- number_in -/
def f64 : FDef := { name := "number_in", params := 1, names := ["tree", "rows", "own"], body := (.cons (.asg (.v 1) (.comp (.call 64 (.cons (.v 2) .nil)) (.mk (.v 2) (.e (.call 8 (.cons (.v 0) .nil))) .no))) (.cons (.ifs (.cmp .eq (.v 1) (.lst .nil)) (.cons (.ret (.lit (.int 1))) .nil) .nil) (.cons (.ret (.ite (.cmp .eq (.bi .len (.cons (.v 1) .nil)) (.lit (.int 1))) (.idx (.v 1) (.lit (.int 0))) (.call 65 (.cons (.idx (.v 1) (.lit (.int 0))) (.cons (.idx (.v 1) (.lit (.int 1))) .nil))))) .nil))), fresh := false }
/-- number_of -/
def f112 : FDef := { name := "number_of", params := 1, names := ["tree"], body := (.cons (.ret (.call 64 (.cons (.call 21 (.cons (.v 0) .nil)) .nil))) .nil), fresh := false }
/-- _law_box -/
def f296 : FDef := { name := "_law_box", params := 2, names := ["script", "k", "bit_so"], body := (.cons (.asg (.v 2) (.ite (.cmp .lt (.v 1) (.bi .len (.cons (.v 0) .nil))) (.idx (.v 0) (.v 1)) (.lit (.int 0)))) (.cons (.ret (.lst (.cons (.bin .mul (.bi .abs (.cons (.v 2) .nil)) (.bi .int (.cons (.cmp .ge (.bi .abs (.cons (.v 2) .nil)) (.bin .pow (.lit (.int 10)) (.lit (.int 18)))) .nil))) (.cons (.bin .add (.bin .add (.bin .mod (.bi .int (.cons (.v 2) .nil)) (.lit (.int 2305843009213693951))) (.bin .mul (.lit (.int 39373)) (.v 1))) (.lit (.int 26308016))) (.cons (.lit (.int 0)) .nil))))) .nil)), fresh := true }
/-- _law_take -/
def f22 : FDef := { name := "_law_take", params := 2, names := ["tin", "below_so", "once_so", "wide_so", "twice_so", "drawn_so"], body := (.cons (.ifs (.cmp .gt (.idx (.v 0) (.lit (.int 0))) (.lit (.int 0))) (.cons (.asg (.v 5) (.bin .mod (.bi .int (.cons (.idx (.v 0) (.lit (.int 0))) .nil)) (.v 1))) (.cons (.setI 0 (.lit (.int 0)) (.bin .fdiv (.idx (.v 0) (.lit (.int 0))) (.v 1))) (.cons (.ret (.v 5)) .nil))) .nil) (.cons (.setI 0 (.lit (.int 2)) (.bin .add (.idx (.v 0) (.lit (.int 2))) (.lit (.int 1)))) (.cons (.asg (.v 2) (.bin .mod (.bi .int (.cons (.bin .mul (.bin .add (.idx (.v 0) (.lit (.int 1))) (.bin .mul (.lit (.int 48271)) (.idx (.v 0) (.lit (.int 2))))) (.bin .add (.lit (.int 39373)) (.idx (.v 0) (.lit (.int 2))))) .nil)) (.lit (.int 2147483647)))) (.cons (.asg (.v 3) (.bin .add (.bin .mod (.bi .int (.cons (.v 2) .nil)) (.lit (.int 40009))) (.lit (.int 7)))) (.cons (.asg (.v 4) (.bin .mod (.bi .int (.cons (.bin .mul (.bin .add (.bin .add (.v 2) (.idx (.v 0) (.lit (.int 2)))) (.bin .fdiv (.idx (.v 0) (.lit (.int 1))) (.lit (.int 1000003)))) (.v 3)) .nil)) (.lit (.int 2147483629)))) (.cons (.ret (.bin .mod (.bi .int (.cons (.bin .fdiv (.bin .mod (.bi .int (.cons (.bin .add (.bin .mul (.v 4) (.lit (.int 48271))) (.v 2)) .nil)) (.lit (.int 2147483587))) (.lit (.int 64))) .nil)) (.v 1))) .nil)))))), fresh := false }
/-- _law_cells -/
def f37 : FDef := { name := "_law_cells", params := 2, names := ["script", "most_so", "cells_so", "k", "bit_so", "at_so"], body := (.cons (.asgO 2 (.or (.bi .list (.cons (.sl (.v 0) .no (.so (.v 1))) .nil)) (.cons (.lst (.cons (.lit (.int 0)) .nil)) .nil))) (.cons (.for_ (.tp (.cons (.v 3) (.cons (.v 4) .nil))) (.enum (.sl (.v 0) (.so (.v 1)) (.so (.lit (.int 63))))) (.cons (.asg (.v 5) (.bin .mod (.bi .int (.cons (.v 3) .nil)) (.v 1))) (.cons (.setI 2 (.v 5) (.bin .add (.idx (.b 2) (.v 5)) (.bin .mul (.v 4) (.bin .add (.v 3) (.lit (.int 2)))))) .nil))) (.cons (.retO 2) .nil))), fresh := true }
/-- _law_of -/
def f25 : FDef := { name := "_law_of", params := 2, names := ["tin", "goods_so"], body := (.cons (.ret (.idx (.v 1) (.call 22 (.cons (.v 0) (.cons (.bi .len (.cons (.v 1) .nil)) .nil))))) .nil), fresh := false }
/-- _law_mixed -/
def f23 : FDef := { name := "_law_mixed", params := 2, names := ["tin", "matter", "row_so", "bit"], body := (.cons (.ifs (.not (.isi (.v 1) [.list, .tuple])) (.cons (.ret (.v 1)) .nil) .nil) (.cons (.asg (.v 2) (.comp (.call 23 (.cons (.v 0) (.cons (.v 3) .nil))) (.mk (.v 3) (.e (.v 1)) .no))) (.cons (.ret (.ite (.cmp .eq (.call 22 (.cons (.v 0) (.cons (.lit (.int 2)) .nil))) (.lit (.int 0))) (.v 2) (.bi .tuple (.cons (.v 2) .nil)))) .nil))), fresh := false }
/-- _law_same -/
def f24 : FDef := { name := "_law_same", params := 2, names := ["got", "due", "mine", "its"], body := (.cons (.ifs (.isi (.v 1) [.list, .tuple]) (.cons (.ifs (.or (.cmp .ne (.isi (.v 0) [.list]) (.isi (.v 1) [.list])) (.cons (.cmp .ne (.isi (.v 0) [.tuple]) (.isi (.v 1) [.tuple])) .nil)) (.cons (.ret (.lit (.bl false))) .nil) .nil) (.cons (.ret (.and (.cmp .eq (.bi .len (.cons (.v 0) .nil)) (.bi .len (.cons (.v 1) .nil))) (.cons (.bi .all (.cons (.comp (.call 24 (.cons (.v 2) (.cons (.v 3) .nil))) (.mk (.tp (.cons (.v 2) (.cons (.v 3) .nil))) (.zip (.v 0) (.v 1)) .no)) .nil)) .nil))) .nil)) .nil) (.cons (.ifs (.cmp .is (.v 1) (.lit .non)) (.cons (.ret (.cmp .is (.v 0) (.lit .non))) .nil) .nil) (.cons (.ifs (.isi (.v 1) [.bool, .str]) (.cons (.ret (.and (.cmp .eq (.isi (.v 0) [.bool]) (.isi (.v 1) [.bool])) (.cons (.cmp .eq (.isi (.v 0) [.str]) (.isi (.v 1) [.str])) (.cons (.cmp .eq (.v 0) (.v 1)) .nil)))) .nil) .nil) (.cons (.ret (.and (.isi (.v 0) [.int]) (.cons (.not (.isi (.v 0) [.bool])) (.cons (.cmp .eq (.v 0) (.v 1)) .nil)))) .nil)))), fresh := false }
/-- _law_unmarked -/
def f71 : FDef := { name := "_law_unmarked", params := 1, names := ["told_so"], body := (.cons (.ret (.ite (.and (.isi (.v 0) [.list]) (.cons (.cmp .gt (.bi .len (.cons (.v 0) .nil)) (.lit (.int 0))) (.cons (.isi (.idx (.v 0) (.lit (.int 0))) [.str]) .nil))) (.lst (.cons (.lit (.str [116, 111, 108, 100])) (.cons (.lit (.str [97, 32, 109, 97, 114, 107])) .nil))) (.v 0))) .nil), fresh := false }
/-- _law_call -/
def f72 : FDef := { name := "_law_call", params := 2, names := ["door_so", "goods_so"], body := (.cons (.ifs (.cmp .eq (.bi .len (.cons (.v 1) .nil)) (.lit (.int 1))) (.cons (.ret (.callv (.v 0) (.cons (.idx (.v 1) (.lit (.int 0))) .nil))) .nil) .nil) (.cons (.ifs (.cmp .eq (.bi .len (.cons (.v 1) .nil)) (.lit (.int 2))) (.cons (.ret (.callv (.v 0) (.cons (.idx (.v 1) (.lit (.int 0))) (.cons (.idx (.v 1) (.lit (.int 1))) .nil)))) .nil) .nil) (.cons (.ifs (.cmp .eq (.bi .len (.cons (.v 1) .nil)) (.lit (.int 3))) (.cons (.ret (.callv (.v 0) (.cons (.idx (.v 1) (.lit (.int 0))) (.cons (.idx (.v 1) (.lit (.int 1))) (.cons (.idx (.v 1) (.lit (.int 2))) .nil))))) .nil) .nil) (.cons (.ifs (.cmp .eq (.bi .len (.cons (.v 1) .nil)) (.lit (.int 4))) (.cons (.ret (.callv (.v 0) (.cons (.idx (.v 1) (.lit (.int 0))) (.cons (.idx (.v 1) (.lit (.int 1))) (.cons (.idx (.v 1) (.lit (.int 2))) (.cons (.idx (.v 1) (.lit (.int 3))) .nil)))))) .nil) .nil) (.cons (.ret (.callv (.v 0) (.cons (.idx (.v 1) (.lit (.int 0))) (.cons (.idx (.v 1) (.lit (.int 1))) (.cons (.idx (.v 1) (.lit (.int 2))) (.cons (.idx (.v 1) (.lit (.int 3))) (.cons (.idx (.v 1) (.lit (.int 4))) .nil))))))) .nil))))), fresh := false, mute := false }
/-- _law_slip -/
def f70 : FDef := { name := "_law_slip", params := 2, names := ["door_so", "goods_so", "slip_so", "slip_c", "slip_m"], body := (.cons (.slip 72 (.cons (.v 0) (.cons (.v 1) .nil))) (.cons (.ret (.lit (.str [116, 111, 108, 100]))) .nil)), fresh := false }
/-- _law_heard -/
def f86 : FDef := { name := "_law_heard", params := 2, names := ["door_so", "goods_so", "slip_so"], body := (.cons (.asg (.v 2) (.call 70 (.cons (.v 0) (.cons (.v 1) .nil)))) (.cons (.ret (.ite (.cmp .isin (.v 2) (.tup (.cons (.lit (.str [117, 110, 102, 105, 116])) (.cons (.lit (.str [99, 97, 110, 32, 110, 111, 116])) (.cons (.lit (.str [109, 97, 110, 121])) (.cons (.lit (.str [111, 100, 100])) .nil)))))) (.lst (.cons (.v 2) (.cons (.lit (.bl true)) .nil))) (.call 71 (.cons (.call 72 (.cons (.v 0) (.cons (.v 1) .nil))) .nil)))) .nil)), fresh := false }
/-- _law_sides -/
def f28 : FDef := { name := "_law_sides", params := 1, names := ["tree_so"], body := (.cons (.ret (.ite (.isi (.v 0) [.tuple]) (.sl (.v 0) (.so (.lit (.int 1))) .no) (.tup .nil))) .nil), fresh := false }
/-- _law_leaf -/
def f26 : FDef := { name := "_law_leaf", params := 1, names := ["tin"], body := (.cons (.ret (.ite (.cmp .gt (.call 22 (.cons (.v 0) (.cons (.lit (.int 3)) .nil))) (.lit (.int 0))) (.call 25 (.cons (.v 0) (.cons (.lst (.cons (.lit (.str [97])) (.cons (.lit (.str [98])) (.cons (.lit (.str [99])) (.cons (.lit (.str [120, 49])) (.cons (.lit (.str [108, 111, 110, 103, 110, 97, 109, 101])) (.cons (.lit (.str [100])) .nil))))))) .nil))) (.call 25 (.cons (.v 0) (.cons (.lst (.cons (.lit (.int 0)) (.cons (.lit (.int 1)) (.cons (.lit (.int 2)) (.cons (.lit (.int 7)) (.cons (.lit (.int 1000000000)) .nil)))))) .nil))))) .nil), fresh := false }
/-- _law_tree -/
def f27 : FDef := { name := "_law_tree", params := 3, names := ["tin", "leaves_so", "turns_so", "found", "kind_so", "first_so"], body := (.cons (.ifs (.cmp .eq (.v 1) (.lit (.int 1))) (.cons (.asg (.v 3) (.call 26 (.cons (.v 0) .nil))) .nil) (.cons (.asg (.v 4) (.call 22 (.cons (.v 0) (.cons (.lit (.int 4)) .nil)))) (.cons (.asg (.v 5) (.bin .add (.lit (.int 1)) (.call 22 (.cons (.v 0) (.cons (.bin .sub (.v 1) (.lit (.int 1))) .nil))))) (.cons (.ifs (.cmp .eq (.v 4) (.lit (.int 0))) (.cons (.asg (.v 5) (.bin .fdiv (.v 1) (.lit (.int 2)))) .nil) .nil) (.cons (.ifs (.cmp .eq (.v 4) (.lit (.int 1))) (.cons (.asg (.v 5) (.call 25 (.cons (.v 0) (.cons (.lst (.cons (.lit (.int 1)) (.cons (.bin .sub (.v 1) (.lit (.int 1))) .nil))) .nil)))) .nil) .nil) (.cons (.asg (.v 3) (.tup (.cons (.call 25 (.cons (.v 0) (.cons (.lst (.cons (.lit (.str [43])) (.cons (.lit (.str [45])) (.cons (.lit (.str [42])) .nil)))) .nil))) (.cons (.call 27 (.cons (.v 0) (.cons (.v 5) (.cons (.v 2) .nil)))) (.cons (.call 27 (.cons (.v 0) (.cons (.bin .sub (.v 1) (.v 5)) (.cons (.v 2) .nil)))) .nil))))) .nil)))))) (.cons (.ret (.ite (.and (.cmp .gt (.v 2) (.lit (.int 0))) (.cons (.cmp .eq (.call 22 (.cons (.v 0) (.cons (.v 2) .nil))) (.lit (.int 0))) .nil)) (.tup (.cons (.lit (.str [45])) (.cons (.v 3) .nil))) (.v 3))) .nil)), fresh := false }
/-- _law_even -/
def f73 : FDef := { name := "_law_even", params := 2, names := ["tin", "high_so"], body := (.cons (.ret (.ite (.cmp .eq (.v 1) (.lit (.int 0))) (.call 26 (.cons (.v 0) .nil)) (.tup (.cons (.call 25 (.cons (.v 0) (.cons (.lst (.cons (.lit (.str [43])) (.cons (.lit (.str [45])) (.cons (.lit (.str [42])) .nil)))) .nil))) (.cons (.call 73 (.cons (.v 0) (.cons (.bin .sub (.v 1) (.lit (.int 1))) .nil))) (.cons (.call 73 (.cons (.v 0) (.cons (.bin .sub (.v 1) (.lit (.int 1))) .nil))) .nil)))))) .nil), fresh := false }
/-- _law_any -/
def f76 : FDef := { name := "_law_any", params := 2, names := ["tin", "most_so", "kind_so", "one", "two"], body := (.cons (.asg (.v 2) (.call 22 (.cons (.v 0) (.cons (.lit (.int 4)) .nil)))) (.cons (.ifs (.cmp .eq (.v 2) (.lit (.int 0))) (.cons (.par [(3, false), (4, false)] (.cons (.call 73 (.cons (.v 0) (.cons (.call 22 (.cons (.v 0) (.cons (.lit (.int 4)) .nil))) .nil))) (.cons (.call 73 (.cons (.v 0) (.cons (.call 22 (.cons (.v 0) (.cons (.lit (.int 4)) .nil))) .nil))) .nil))) (.cons (.ret (.tup (.cons (.call 25 (.cons (.v 0) (.cons (.lst (.cons (.lit (.str [43])) (.cons (.lit (.str [45])) (.cons (.lit (.str [42])) .nil)))) .nil))) (.cons (.v 3) (.cons (.v 4) .nil))))) .nil)) .nil) (.cons (.ret (.call 27 (.cons (.v 0) (.cons (.bin .add (.lit (.int 1)) (.call 22 (.cons (.v 0) (.cons (.v 1) .nil)))) (.cons (.call 25 (.cons (.v 0) (.cons (.lst (.cons (.lit (.int 0)) (.cons (.lit (.int 5)) (.cons (.lit (.int 3)) .nil)))) .nil))) .nil))))) .nil))), fresh := false }
/-- _law_parts -/
def f29 : FDef := { name := "_law_parts", params := 1, names := ["tree_so", "lap", "table_so", "found", "open_so", "path_so", "part_so", "k", "own"], body := (.cons (.par [(3, true), (4, true)] (.cons (.lst .nil) (.cons (.lst (.cons (.tup (.cons (.tup .nil) (.cons (.v 0) .nil))) .nil)) .nil))) (.cons (.for_ (.v 1) (.range1 (.lit (.int 2000))) (.cons (.ifs (.cmp .eq (.b 4) (.lst .nil)) (.cons (.brk) .nil) .nil) (.cons (.popTo (.tp (.cons (.v 5) (.cons (.v 6) .nil))) 4) (.cons (.app 3 (.tup (.cons (.v 5) (.cons (.v 6) .nil)))) (.cons (.for_ (.tp (.cons (.v 7) (.cons (.v 8) .nil))) (.enum (.call 28 (.cons (.v 6) .nil))) (.cons (.app 4 (.tup (.cons (.bin .add (.v 5) (.tup (.cons (.v 7) .nil))) (.cons (.v 8) .nil)))) .nil)) .nil))))) (.cons (.asg (.v 2) (.bi (.dict 1) (.cons (.b 3) .nil))) (.cons (.ret (.comp (.tup (.cons (.v 8) (.cons (.idx (.v 2) (.v 8)) .nil))) (.mk (.v 8) (.e (.bi .sorted (.cons (.v 2) .nil))) .no))) .nil)))), fresh := true }
/-- _law_deep -/
def f31 : FDef := { name := "_law_deep", params := 1, names := ["tree_so", "own", "its"], body := (.cons (.ret (.bi .max1 (.cons (.comp (.bi .len (.cons (.v 1) .nil)) (.mk (.tp (.cons (.v 1) (.cons (.v 2) .nil))) (.e (.call 29 (.cons (.v 0) .nil))) .no)) .nil))) .nil), fresh := false }
/-- _law_leaves -/
def f287 : FDef := { name := "_law_leaves", params := 1, names := ["shape_so"], body := (.cons (.ret (.ite (.cmp .eq (.v 0) (.tup .nil)) (.lit (.int 1)) (.bin .add (.call 287 (.cons (.idx (.v 0) (.lit (.int 0))) .nil)) (.call 287 (.cons (.idx (.v 0) (.lit (.int 1))) .nil))))) .nil), fresh := false }
/-- _law_before -/
def f288 : FDef := { name := "_law_before", params := 2, names := ["one", "two", "a", "b"], body := (.cons (.ifs (.cmp .eq (.v 0) (.v 1)) (.cons (.ret (.lit (.int 0))) .nil) .nil) (.cons (.par [(2, false), (3, false)] (.cons (.call 287 (.cons (.idx (.v 0) (.lit (.int 0))) .nil)) (.cons (.call 287 (.cons (.idx (.v 1) (.lit (.int 0))) .nil)) .nil))) (.cons (.ifs (.cmp .ne (.v 2) (.v 3)) (.cons (.ret (.ite (.cmp .lt (.v 2) (.v 3)) (.neg (.lit (.int 1))) (.lit (.int 1)))) .nil) .nil) (.cons (.ret (.ite (.cmp .ne (.idx (.v 0) (.lit (.int 0))) (.idx (.v 1) (.lit (.int 0)))) (.call 288 (.cons (.idx (.v 0) (.lit (.int 0))) (.cons (.idx (.v 1) (.lit (.int 0))) .nil))) (.call 288 (.cons (.idx (.v 0) (.lit (.int 1))) (.cons (.idx (.v 1) (.lit (.int 1))) .nil))))) .nil)))), fresh := false }
/-- _law_shape -/
def f289 : FDef := { name := "_law_shape", params := 2, names := ["tin", "many_so", "k"], body := (.cons (.ifs (.cmp .eq (.v 1) (.lit (.int 1))) (.cons (.ret (.tup .nil)) .nil) .nil) (.cons (.asg (.v 2) (.bin .add (.lit (.int 1)) (.call 22 (.cons (.v 0) (.cons (.bin .sub (.v 1) (.lit (.int 1))) .nil))))) (.cons (.ret (.tup (.cons (.call 289 (.cons (.v 0) (.cons (.v 2) .nil))) (.cons (.call 289 (.cons (.v 0) (.cons (.bin .sub (.v 1) (.v 2)) .nil))) .nil)))) .nil))), fresh := false }
/-- _law_bare -/
def f290 : FDef := { name := "_law_bare", params := 1, names := ["tree_so", "sides_so", "own"], body := (.cons (.asg (.v 1) (.comp (.call 290 (.cons (.v 2) .nil)) (.mk (.v 2) (.e (.call 28 (.cons (.v 0) .nil))) .no))) (.cons (.ret (.ite (.cmp .eq (.bi .len (.cons (.v 1) .nil)) (.lit (.int 1))) (.idx (.v 1) (.lit (.int 0))) (.bi .tuple (.cons (.v 1) .nil)))) .nil)), fresh := false }
/-- _law_right -/
def f297 : FDef := { name := "_law_right", params := 1, names := ["tin", "n", "many_so", "tree_so", "sign_so", "made_so", "one", "two", "a", "b", "bare_so", "path_so", "own"], body := (.cons (.asg (.v 1) (.bin .add (.lit (.int 1)) (.call 22 (.cons (.v 0) (.cons (.call 25 (.cons (.v 0) (.cons (.lst (.cons (.lit (.int 5)) (.cons (.lit (.int 40)) .nil))) .nil))) .nil))))) (.cons (.par [(6, false), (7, false)] (.cons (.call 289 (.cons (.v 0) (.cons (.v 1) .nil))) (.cons (.call 289 (.cons (.v 0) (.cons (.v 1) .nil))) .nil))) (.cons (.asg (.v 2) (.call 271 (.cons (.v 1) .nil))) (.cons (.par [(8, false), (9, false)] (.cons (.call 291 (.cons (.call 23 (.cons (.v 0) (.cons (.v 6) .nil))) .nil)) (.cons (.call 291 (.cons (.v 7) .nil)) .nil))) (.cons (.ifs (.not (.call 24 (.cons (.lst (.cons (.call 292 (.cons (.v 1) (.cons (.v 8) .nil))) (.cons (.call 292 (.cons (.v 1) (.cons (.v 9) .nil))) (.cons (.call 293 (.cons (.v 6) .nil)) (.cons (.chain .le .lt (.lit (.int 0)) (.v 8) (.v 2)) (.cons (.bin .sub (.cmp .gt (.v 8) (.v 9)) (.cmp .lt (.v 8) (.v 9))) .nil)))))) (.cons (.lst (.cons (.v 6) (.cons (.v 7) (.cons (.lit (.bl true)) (.cons (.lit (.bl true)) (.cons (.call 288 (.cons (.v 6) (.cons (.v 7) .nil))) .nil)))))) .nil)))) (.cons (.ret (.lit (.bl false))) .nil) .nil) (.cons (.ifs (.and (.cmp .lt (.bin .add (.v 8) (.lit (.int 1))) (.v 2)) (.cons (.or (.cmp .ne (.call 288 (.cons (.v 6) (.cons (.call 292 (.cons (.v 1) (.cons (.bin .add (.v 8) (.lit (.int 1))) .nil))) .nil))) (.neg (.lit (.int 1)))) (.cons (.cmp .ne (.call 291 (.cons (.call 292 (.cons (.v 1) (.cons (.bin .add (.v 8) (.lit (.int 1))) .nil))) .nil)) (.bin .add (.v 8) (.lit (.int 1)))) .nil)) .nil)) (.cons (.ret (.lit (.bl false))) .nil) .nil) (.cons (.ifs (.not (.call 24 (.cons (.lst (.cons (.call 86 (.cons (.gc (.fn 292)) (.cons (.tup (.cons (.v 1) (.cons (.v 2) .nil))) .nil))) (.cons (.call 291 (.cons (.call 292 (.cons (.v 1) (.cons (.bin .sub (.v 2) (.lit (.int 1))) .nil))) .nil)) (.cons (.call 291 (.cons (.call 292 (.cons (.v 1) (.cons (.lit (.int 0)) .nil))) .nil)) .nil)))) (.cons (.lst (.cons (.lst (.cons (.lit (.str [99, 97, 110, 32, 110, 111, 116])) (.cons (.lit (.bl true)) .nil))) (.cons (.bin .sub (.v 2) (.lit (.int 1))) (.cons (.lit (.int 0)) .nil)))) .nil)))) (.cons (.ret (.lit (.bl false))) .nil) .nil) (.cons (.asg (.v 3) (.call 76 (.cons (.v 0) (.cons (.lit (.int 24)) .nil)))) (.cons (.ifs (.and (.cmp .le (.call 31 (.cons (.v 3) .nil)) (.lit (.int 30))) (.cons (.cmp .le (.bi .len (.cons (.call 29 (.cons (.v 3) .nil)) .nil)) (.lit (.int 200))) .nil)) (.cons (.asg (.v 10) (.call 290 (.cons (.v 3) .nil))) (.cons (.ifs (.not (.call 24 (.cons (.lst (.cons (.call 294 (.cons (.call 23 (.cons (.v 0) (.cons (.v 3) .nil))) .nil)) (.cons (.cmp .eq (.call 274 (.cons (.v 10) .nil)) (.call 112 (.cons (.v 3) .nil))) .nil))) (.cons (.lst (.cons (.v 10) (.cons (.lit (.bl true)) .nil))) .nil)))) (.cons (.ret (.lit (.bl false))) .nil) .nil) .nil)) .nil) (.cons (.asg (.v 4) (.call 25 (.cons (.v 0) (.cons (.lst (.cons (.lit (.str [43])) (.cons (.lit (.str [45])) (.cons (.lit (.str [42])) .nil)))) .nil)))) (.cons (.asg (.v 5) (.call 295 (.cons (.call 23 (.cons (.v 0) (.cons (.v 6) .nil))) (.cons (.v 4) .nil)))) (.cons (.ifs (.cmp .gt (.call 31 (.cons (.v 5) .nil)) (.lit (.int 30))) (.cons (.ret (.lit (.bl true))) .nil) .nil) (.cons (.ifs (.not (.call 24 (.cons (.lst (.cons (.call 294 (.cons (.v 5) .nil)) (.cons (.call 170 (.cons (.v 5) .nil)) (.cons (.call 112 (.cons (.v 5) .nil)) .nil)))) (.cons (.lst (.cons (.v 6) (.cons (.bi .rangeT1 (.cons (.v 1) .nil)) (.cons (.call 274 (.cons (.v 6) .nil)) .nil)))) .nil)))) (.cons (.ret (.lit (.bl false))) .nil) .nil) (.cons (.ret (.cmp .eq (.comp (.v 12) (.mk (.tp (.cons (.v 11) (.cons (.v 12) .nil))) (.e (.call 29 (.cons (.v 5) .nil))) (.so (.and (.cmp .ne (.call 28 (.cons (.v 12) .nil)) (.tup .nil)) (.cons (.cmp .ne (.idx (.v 12) (.lit (.int 0))) (.v 4)) .nil))))) (.lst .nil))) .nil)))))))))))))), fresh := false }
/-- law -/
def f546 : FDef := { name := "law", params := 1, names := ["script", "tin", "even", "got", "lap"], body := (.cons (.asg (.v 2) (.tup (.cons (.tup (.cons (.tup .nil) (.cons (.tup .nil) .nil))) (.cons (.tup (.cons (.tup .nil) (.cons (.tup .nil) .nil))) .nil)))) (.cons (.asg (.v 3) (.lst (.cons (.call 292 (.cons (.lit (.int 4)) (.cons (.lit (.int 2)) .nil))) (.cons (.call 291 (.cons (.v 2) .nil)) (.cons (.call 294 (.cons (.tup (.cons (.lit (.str [42])) (.cons (.tup (.cons (.lit (.str [43])) (.cons (.lit (.str [97])) (.cons (.lit (.str [98])) .nil)))) (.cons (.tup (.cons (.lit (.str [45])) (.cons (.tup (.cons (.lit (.str [43])) (.cons (.lit (.str [99])) (.cons (.lit (.str [100])) .nil)))) .nil))) .nil)))) .nil)) (.cons (.call 295 (.cons (.tup (.cons (.tup .nil) (.cons (.tup (.cons (.tup .nil) (.cons (.tup .nil) .nil))) .nil))) (.cons (.lit (.str [45])) .nil))) (.cons (.call 274 (.cons (.v 2) .nil)) (.cons (.call 86 (.cons (.gc (.fn 292)) (.cons (.tup (.cons (.lit (.int 3)) (.cons (.lit (.int 2)) .nil))) .nil))) (.cons (.call 293 (.cons (.tup (.cons (.tup .nil) (.cons (.tup .nil) (.cons (.tup .nil) .nil)))) .nil)) (.cons (.call 293 (.cons (.tup .nil) .nil)) .nil)))))))))) (.cons (.ifs (.not (.call 24 (.cons (.v 3) (.cons (.lst (.cons (.v 2) (.cons (.lit (.int 2)) (.cons (.v 2) (.cons (.tup (.cons (.lit (.str [45])) (.cons (.lit (.int 0)) (.cons (.tup (.cons (.lit (.str [45])) (.cons (.lit (.int 1)) (.cons (.lit (.int 2)) .nil)))) .nil)))) (.cons (.lit (.int 3)) (.cons (.lst (.cons (.lit (.str [99, 97, 110, 32, 110, 111, 116])) (.cons (.lit (.bl true)) .nil))) (.cons (.lit (.bl false)) (.cons (.lit (.bl true)) .nil))))))))) .nil)))) (.cons (.ret (.lit (.bl false))) .nil) .nil) (.cons (.ret (.bi .all (.cons (.comp (.call 297 (.cons (.v 1) .nil)) (.mk (.v 4) (.range1 (.lit (.int 4))) .no)) .nil))) .nil)))), fresh := false }
def T (n : Nat) : Option FDef := match n with
  | 0 => some f0
  | 1 => some f1
  | 2 => some f2
  | 3 => some f3
  | 4 => some f4
  | 5 => some f5
  | 6 => some f6
  | 7 => some f7
  | 8 => some f8
  | 9 => some f9
  | 10 => some f10
  | 11 => some f11
  | 21 => some f21
  | 22 => some f22
  | 23 => some f23
  | 24 => some f24
  | 25 => some f25
  | 26 => some f26
  | 27 => some f27
  | 28 => some f28
  | 29 => some f29
  | 31 => some f31
  | 37 => some f37
  | 39 => some f39
  | 64 => some f64
  | 65 => some f65
  | 70 => some f70
  | 71 => some f71
  | 72 => some f72
  | 73 => some f73
  | 76 => some f76
  | 86 => some f86
  | 112 => some f112
  | 123 => some f123
  | 170 => some f170
  | 260 => some f260
  | 261 => some f261
  | 263 => some f263
  | 264 => some f264
  | 265 => some f265
  | 271 => some f271
  | 274 => some f274
  | 283 => some f283
  | 284 => some f284
  | 285 => some f285
  | 286 => some f286
  | 287 => some f287
  | 288 => some f288
  | 289 => some f289
  | 290 => some f290
  | 291 => some f291
  | 292 => some f292
  | 293 => some f293
  | 294 => some f294
  | 295 => some f295
  | 296 => some f296
  | 297 => some f297
  | _ => none
abbrev n_is_number : Nat := 0
abbrev n_is_within : Nat := 2
abbrev n_sure_within : Nat := 123
abbrev n_is_long : Nat := 5
abbrev n_tupled : Nat := 1
abbrev n_is_label_in : Nat := 3
abbrev n_is_leaf_in : Nat := 4
abbrev n_is_sign : Nat := 7
abbrev n_is_tree_in : Nat := 6
abbrev n_sides_in : Nat := 8
abbrev n_size_in : Nat := 9
abbrev n_deep_in : Nat := 10
abbrev n_is_near_tree : Nat := 11
abbrev n_sure_tree : Nat := 21
abbrev n_parts_in : Nat := 39
abbrev n_leaves_of : Nat := 170
abbrev n_shape_in : Nat := 283
abbrev n_is_shape_in : Nat := 260
abbrev n_leaves_in : Nat := 261
abbrev n_sure_shape : Nat := 264
abbrev n_all_counts : Nat := 265
abbrev n_place_in : Nat := 284
abbrev n_nth_in : Nat := 285
abbrev n_number_of_shape : Nat := 263
abbrev n_named_tree : Nat := 286
abbrev n_is_shape : Nat := 293
abbrev n_shape_of : Nat := 294
abbrev n_tree_of_shape : Nat := 295
abbrev n_shape_number : Nat := 274
abbrev n_how_many_shapes : Nat := 271
abbrev n_shape_place : Nat := 291
abbrev n_nth_shape : Nat := 292
abbrev n_higher : Nat := 65
abbrev n_number_in : Nat := 64
abbrev n_number_of : Nat := 112
abbrev n__law_box : Nat := 296
abbrev n__law_take : Nat := 22
abbrev n__law_cells : Nat := 37
abbrev n__law_of : Nat := 25
abbrev n__law_mixed : Nat := 23
abbrev n__law_same : Nat := 24
abbrev n__law_unmarked : Nat := 71
abbrev n__law_call : Nat := 72
abbrev n__law_slip : Nat := 70
abbrev n__law_heard : Nat := 86
abbrev n__law_sides : Nat := 28
abbrev n__law_leaf : Nat := 26
abbrev n__law_tree : Nat := 27
abbrev n__law_even : Nat := 73
abbrev n__law_any : Nat := 76
abbrev n__law_parts : Nat := 29
abbrev n__law_deep : Nat := 31
abbrev n__law_leaves : Nat := 287
abbrev n__law_before : Nat := 288
abbrev n__law_shape : Nat := 289
abbrev n__law_bare : Nat := 290
abbrev n__law_right : Nat := 297
abbrev n_law : Nat := 546
end Mi

set_option Elab.async false
set_option linter.all false
set_option maxRecDepth 100000
set_option maxHeartbeats 4000000
namespace Mi
/-! ## The draws -/
theorem mulOk_r {i j : Int} (h : j.natAbs < 2 ^ 64) : mulOk i j = true := by
  unfold mulOk
  simp [h]
theorem mulOk_l {i j : Int} (h : i.natAbs < 2 ^ 64) : mulOk i j = true := by
  unfold mulOk
  simp [h]
theorem call_rt {T : Nat → Option FDef} {n f : Nat} {fd : FDef} {xs : List D} {C C' : Cells} {d : D} (h : T f = some fd) (hl : xs.length = fd.params) (hs : evSs (callD T n) fd.body (startS fd.names.length xs) C = .ok (.rt d) C') : callD T (n + 1) f xs C = .ok d C' := by
  simp only [callD, h, runF, if_pos hl, hs]
  cases fd.mute <;> rfl
theorem ss_nx {cl : Call} {s : S} {r : Ss} {σ σ' : List Sl} {C C1 : Cells} {o : R Fl} (h1 : evS cl s σ C = .ok (.nx σ') C1) (h2 : evSs cl r σ' C1 = o) : evSs cl (.cons s r) σ C = o := by
  simp only [evSs, h1]
  exact h2
theorem ss_rt {cl : Call} {s : S} {r : Ss} {σ : List Sl} {C C' : Cells} {d : D} (h1 : evS cl s σ C = .ok (.rt d) C') : evSs cl (.cons s r) σ C = .ok (.rt d) C' := by
  simp only [evSs, h1]
/-- one draw -/
theorem take_ok (n : Nat) (a b c m : Int) (hm : 0 < m) (hm2 : m < 1000000000) (hc : 0 ≤ c) (hc2 : c < 1000000000) :
    ∃ r a' c', callD T (n + 1) 22 [.cell, .int m] [a, b, c] = .ok (.int r) [a', b, c'] ∧ 0 ≤ r ∧ r < m ∧ c ≤ c' ∧ c' ≤ c + 1 := by
  have h0 : (ixD 3 0) = some 0 := rfl
  have h1 : (ixD 3 1) = some 1 := rfl
  have h2 : (ixD 3 2) = some 2 := rfl
  have hlog : m.natAbs.log2 < 9000 := by
    have : m.natAbs < 2 ^ 30 := by omega
    have h3 := Nat.log2_lt (n := m.natAbs) (k := 30) (by omega)
    have := h3.mpr this
    omega
  by_cases ha : 0 < a
  · refine ⟨a % m, a / m, c, ?_, Int.emod_nonneg _ (by omega), Int.emod_lt_of_pos _ hm, Int.le_refl _, by omega⟩
    simp [callD, runF, hush, T, f22, evSs, evS, ev, evs, evAnd, R.bind, R.of, startS, slotD, truthD, tyD, tyOk, cmpD, idxD, h0, h1, h2, biD, binD, bindT, ha, hm, hlog]
  · have m1 : ∀ x : Int, mulOk x (39373 + (c + 1)) = true := fun x => mulOk_r (by omega)
    have m2 : ∀ x : Int, mulOk 48271 x = true := fun x => mulOk_l (by decide)
    have m3 : ∀ x : Int, mulOk x 48271 = true := fun x => mulOk_r (by decide)
    have m4 : ∀ x y : Int, mulOk x (y % 40009 + 7) = true := fun x y => mulOk_r (by
      have a1 := Int.emod_nonneg y (show (40009 : Int) ≠ 0 by decide)
      have a2 := Int.emod_lt_of_pos y (show (0 : Int) < 40009 by decide)
      omega)
    have l1 : Nat.log2 1000003 < 9000 := by decide
    have l2 : Nat.log2 64 < 9000 := by decide
    obtain ⟨e, he⟩ : ∃ e, callD T (n + 1) 22 [.cell, .int m] [a, b, c] = .ok (.int (e % m)) [a, b, c + 1] := by
      refine ⟨(((((b + 48271 * (c + 1)) * (39373 + (c + 1)) % 2147483647 + (c + 1) + b / 1000003) * ((b + 48271 * (c + 1)) * (39373 + (c + 1)) % 2147483647 % 40009 + 7) % 2147483629) * 48271 + (b + 48271 * (c + 1)) * (39373 + (c + 1)) % 2147483647) % 2147483587) / 64, ?_⟩
      simp [callD, runF, hush, T, f22, evSs, evS, ev, evs, evAnd, R.bind, R.of, startS, slotD, truthD, tyD, tyOk, cmpD, idxD, h0, h1, h2, biD, binD, bindT, ha, hm, hlog, m1, m2, m3, m4, l1, l2]
    exact ⟨e % m, a, c + 1, he, Int.emod_nonneg _ (by omega), Int.emod_lt_of_pos _ hm, by omega, Int.le_refl _⟩

theorem loopS_nx {f : D → List Sl → Cells → R Fl} {x : D} {xs : List D} {σ σ' : List Sl} {C C' : Cells} (h : f x σ C = .ok (.nx σ') C') : loopS f (x :: xs) σ C = loopS f xs σ' C' := by
  simp only [loopS, h]
/-- the cells: of a script, one number -/
theorem cells_loop (cl : Call) (s0 : Sl) : ∀ (xs : List (Int × Int)) (x : Int) (s3 s4 s5 : Sl) (C : Cells), (∀ p ∈ xs, 0 ≤ p.1 ∧ p.1 < 1000000) → ∃ x' t3 t4 t5, loopS (fun x σ C => match bindT (.tp (.cons (.v 3) (.cons (.v 4) .nil))) x σ with
    | none => .bad
    | some σ => evSs cl (.cons (.asg (.v 5) (.bin .mod (.bi .int (.cons (.v 3) .nil)) (.v 1))) (.cons (.setI 2 (.v 5) (.bin .add (.idx (.b 2) (.v 5)) (.bin .mul (.v 4) (.bin .add (.v 3) (.lit (.int 2)))))) .nil)) σ C)
    (xs.map fun p => .tup [.int p.1, .int p.2]) [s0, .val (.int 1), .ol [.int x], s3, s4, s5] C = .ok (.nx [s0, .val (.int 1), .ol [.int x'], t3, t4, t5]) C
  | [], x, s3, s4, s5, C, _ => ⟨x, s3, s4, s5, rfl⟩
  | p :: r, x, s3, s4, s5, C, h => by
    have hp := h p List.mem_cons_self
    obtain ⟨x', t3, t4, t5, ih⟩ := cells_loop cl s0 r (x + p.2 * (p.1 + 2)) (.val (.int p.1)) (.val (.int p.2)) (.val (.int 0)) C fun q hq => h q (List.mem_cons_of_mem _ hq)
    refine ⟨x', t3, t4, t5, ?_⟩
    have m1 : mulOk p.2 (p.1 + 2) = true := mulOk_r (by omega)
    have e0 : p.1 % 1 = 0 := by omega
    have h0 : ixD 1 0 = some 0 := rfl
    rw [List.map_cons]
    refine (loopS_nx ?_).trans ih
    simp [evSs, evS, ev, evs, R.bind, R.of, slotD, slotB, biD, binD, bindT, bindTs, idxD, atD, m1, e0, h0]
theorem enum_ints : ∀ (ns : List Int) (k : Nat), List.zipWith (fun (n : Nat) y => D.tup [.int (n : Nat), y]) ((List.range ns.length).map (· + k)) (ns.map D.int) = ((List.zip ((List.range ns.length).map fun i => ((i + k : Nat) : Int)) ns)).map fun p => D.tup [.int p.1, .int p.2]
  | ns, k => by
    apply List.ext_getElem?
    intro j
    simp only [List.getElem?_zipWith, List.getElem?_map, List.zip]
    cases h : ns[j]? with
    | none => simp
    | some y =>
      have hj : j < ns.length := (List.getElem?_eq_some_iff.mp h).1
      simp [hj]
theorem cells_ok (n : Nat) (ns : List Int) (hl : ns.length ≤ 63) (C : Cells) : ∃ x, callD T (n + 1) 37 [.frl (ns.map .int), .int 1] C = .ok (.lst [.int x]) C := by
  cases ns with
  | nil => exact ⟨0, rfl⟩
  | cons a r =>
    have hcut : ∀ lo hi : Option Int, cutL ((a :: r).map D.int) lo hi = (cutL (a :: r) lo hi).map D.int := fun lo hi => by
      unfold cutL
      rw [List.length_map, List.map_take, List.map_drop]
    generalize hr : cutL (a :: r) (some 1) (some 63) = rest
    have hrl : rest.length ≤ 63 := by
      rw [← hr]
      unfold cutL
      rw [List.length_take, List.length_drop]
      omega
    have h1 : cutL (a :: r) none (some 1) = [a] := by
      unfold cutL cutIx
      simp
    have hen := enum_ints rest 0
    simp only [Nat.add_zero, List.map_id'] at hen
    obtain ⟨x', t3, t4, t5, hloop⟩ := cells_loop (callD T n) (.val (.frl ((a :: r).map .int))) (List.zip ((List.range rest.length).map fun i : Nat => (i : Int)) rest) a .emp .emp .emp C (fun p hp => by
      have := (List.of_mem_zip hp).1
      obtain ⟨i, hi, e⟩ := List.mem_map.mp this
      have := List.mem_range.mp hi
      omega)
    refine ⟨x', ?_⟩
    rw [← hen] at hloop
    have e1 : ev (callD T n) (.or (.bi .list (.cons (.sl (.v 0) .no (.so (.v 1))) .nil)) (.cons (.lst (.cons (.lit (.int 0)) .nil)) .nil)) [.val (.frl ((a :: r).map .int)), .val (.int 1), .emp, .emp, .emp, .emp] C = .ok (.lst [.int a]) C := by
      simp only [ev, evs, evo, evOr, R.bind, R.of, slotD, List.getElem?_cons_zero, List.getElem?_cons_succ, slD, hcut, h1, biD, truthD]
      rfl
    have e2 : evi (callD T n) (.enum (.sl (.v 0) (.so (.v 1)) (.so (.lit (.int 63))))) [.val (.frl ((a :: r).map .int)), .val (.int 1), .ol [.int a], .emp, .emp, .emp] C = .ok (List.zipWith (fun (n : Nat) y => D.tup [.int (n : Nat), y]) (List.range rest.length) (rest.map D.int)) C := by
      simp only [evi, ev, evs, evo, R.bind, R.of, slotD, List.getElem?_cons_zero, List.getElem?_cons_succ, slD, hcut, hr, seqD, Option.map, List.length_map]
    refine call_rt (fd := f37) rfl rfl ?_
    refine ss_nx (σ' := [.val (.frl ((a :: r).map .int)), .val (.int 1), .ol [.int a], .emp, .emp, .emp]) (C1 := C) ?_ (ss_nx (σ' := [.val (.frl ((a :: r).map .int)), .val (.int 1), .ol [.int x'], t3, t4, t5]) (C1 := C) ?_ (ss_rt ?_))
    · have es : startS f37.names.length [D.frl (List.map D.int (a :: r)), D.int 1] = [.val (.frl ((a :: r).map .int)), .val (.int 1), .emp, .emp, .emp, .emp] := rfl
      rw [es]
      simp only [evS, e1]
      rfl
    · simp only [evS, e2]
      exact hloop
    · rfl
/-- the box -/
theorem box_ok (n : Nat) (x : Int) (C : Cells) : ∃ a b, callD T (n + 1) 296 [.lst [.int x], .int 0] C = .ok (.lst [.int a, .int b, .int 0]) C := by
  have h0 : ixD 1 0 = some 0 := rfl
  have m1 : ∀ (y : Int) (p : Prop) [Decidable p], mulOk y (if p then 1 else 0) = true := fun y p _ => mulOk_r (by split <;> decide)
  have m2 : mulOk 39373 0 = true := by decide
  refine ⟨(if x < 0 then -x else x) * (if decide ((10 : Int) ^ 18 ≤ (if x < 0 then -x else x)) = true then 1 else 0), x % 2305843009213693951 + 39373 * 0 + 26308016, ?_⟩
  refine call_rt (fd := f296) rfl rfl ?_
  refine ss_nx (σ' := [.val (.lst [.int x]), .val (.int 0), .val (.int x)]) (C1 := C) ?_ (ss_rt ?_)
  · have es : startS f296.names.length [.lst [.int x], .int 0] = [.val (.lst [.int x]), .val (.int 0), .emp] := rfl
    rw [es]
    simp [evS, ev, evs, R.bind, R.of, slotD, biD, cmpD, truthD, idxD, atD, h0, bindT]
  · have e1 : binD .pow (.int 10) (.int 18) = some (.int ((10 : Int) ^ 18)) := rfl
    simp [evS, ev, evs, R.bind, R.of, slotD, biD, cmpD, truthD, e1, binD, m1, m2]
theorem draws_ok (n : Nat) (k : Nat) (hk : 1 ≤ k) (ns : List Int) (hl : ns.length ≤ 63) : ∃ a b : Int, ev (callD T (n + 1)) (.call 296 (.cons (.call 37 (.cons (.v 0) (.cons (.lit (.int 1)) .nil))) (.cons (.lit (.int 0)) .nil))) (startS k [.frl (ns.map .int)]) [] = .ok (.lst ([a, b, 0].map .int)) [] := by
  obtain ⟨x, hx⟩ := cells_ok n ns hl []
  obtain ⟨a, b, hb⟩ := box_ok n x []
  refine ⟨a, b, ?_⟩
  have es : slotD (startS k [.frl (ns.map .int)])[0]? = some (.frl (ns.map .int)) := rfl
  simp only [ev, evs, R.bind, R.of, es, hx, hb]
  rfl
/-- so many draws more may come -/
def Dr (k : Nat) (C : Cells) : Prop := ∃ a b c : Int, C = [a, b, c] ∧ 0 ≤ c ∧ c + (k : Int) < 1000000000
theorem Dr.mono {j k : Nat} {C : Cells} (h : Dr k C) (hj : j ≤ k) : Dr j C := by
  obtain ⟨a, b, c, e, h1, h2⟩ := h
  exact ⟨a, b, c, e, h1, by omega⟩
theorem take_dr (n : Nat) {k : Nat} {C : Cells} (m : Int) (hm : 0 < m) (hm2 : m < 1000000000) (h : Dr (k + 1) C) : ∃ (r : Int) (C' : Cells), callD T (n + 1) 22 [.cell, .int m] C = .ok (.int r) C' ∧ 0 ≤ r ∧ r < m ∧ Dr k C' := by
  obtain ⟨a, b, c, rfl, h1, h2⟩ := h
  obtain ⟨r, a', c', e, g1, g2, g3, g4⟩ := take_ok n a b c m hm hm2 h1 (by omega)
  exact ⟨r, _, e, g1, g2, a', b, c', rfl, by omega, by omega⟩
/-- a drawn one of several -/
theorem of_dr (n : Nat) {k : Nat} {C : Cells} (xs : List D) (h1 : 0 < xs.length) (h2 : xs.length < 1000) (h : Dr (k + 1) C) : ∃ (x : D) (C' : Cells), callD T (n + 2) 25 [.cell, .lst xs] C = .ok x C' ∧ x ∈ xs ∧ Dr k C' := by
  obtain ⟨r, C', e, g1, g2, g3⟩ := take_dr n (xs.length : Int) (by omega) (by omega) h
  have hr : r.toNat < xs.length := by omega
  refine ⟨xs[r.toNat], C', ?_, List.getElem_mem hr, g3⟩
  refine call_rt (fd := f25) rfl rfl (ss_rt ?_)
  have es : startS f25.names.length [.cell, .lst xs] = [.val .cell, .val (.lst xs)] := rfl
  rw [es]
  have ha : atD xs r = some xs[r.toNat] := by
    unfold atD ixD
    rw [if_pos g1, if_pos (by omega)]
    simp [hr]
  simp [evS, ev, evs, R.bind, R.of, slotD, biD, e, idxD, ha]
end Mi

set_option Elab.async false
set_option linter.all false
set_option maxRecDepth 100000
set_option maxHeartbeats 4000000
namespace Mi
theorem rangeD_succ (lo : Int) (n : Nat) : rangeD lo (n + 1) = .int lo :: rangeD (lo + 1) n := by
  unfold rangeD
  rw [List.range_succ_eq_map, List.map_cons, List.map_map]
  refine congr (congrArg _ (by simp)) (List.map_congr_left fun i _ => ?_)
  show D.int (lo + ((i + 1 : Nat) : Int)) = D.int (lo + 1 + (i : Nat))
  congr 1
  omega
theorem log_small {j : Int} (h : j.natAbs < 2 ^ 62) : j.natAbs.log2 < 9000 := by
  by_cases h0 : j.natAbs = 0
  · rw [h0]; decide
  · have := (Nat.log2_lt h0).mpr h
    omega
mutual
/-- plain data, of a depth -/
def pl : Nat → D → Bool
  | _, .int _ => true
  | _, .bl _ => true
  | _, .str _ => true
  | n + 1, .tup xs => pls n xs
  | n + 1, .lst xs => pls n xs
  | _, _ => false
def pls : Nat → List D → Bool
  | _, [] => true
  | n, x :: xs => pl n x && pls n xs
end
mutual
def szOk : D → Bool
  | .tup xs => decide (xs.length ≤ sizeMost) && szOks xs
  | .lst xs => decide (xs.length ≤ sizeMost) && szOks xs
  | _ => true
def szOks : List D → Bool
  | [] => true
  | x :: xs => szOk x && szOks xs
end
theorem eq_self_int (i : Int) : cmpD .eq (.int i) (.int i) = some (.bl true) := by simp [cmpD, okD, dep, eqD]
theorem same_int (n : Nat) (i : Int) (C : Cells) : callD T (n + 1) 24 [.int i, .int i] C = .ok (.bl true) C := by
  refine call_rt (fd := f24) rfl rfl ?_
  have es : startS f24.names.length [.int i, .int i] = [.val (.int i), .val (.int i), .emp, .emp] := rfl
  rw [es]
  simp [f24, evSs, evS, ev, evs, evAnd, R.bind, R.of, slotD, tyD, tyOk, truthD, cmpD, nonD, okD, dep, eqD]
theorem same_bl (n : Nat) (i : Bool) (C : Cells) : callD T (n + 1) 24 [.bl i, .bl i] C = .ok (.bl true) C := by
  refine call_rt (fd := f24) rfl rfl ?_
  have es : startS f24.names.length [.bl i, .bl i] = [.val (.bl i), .val (.bl i), .emp, .emp] := rfl
  rw [es]
  simp [f24, evSs, evS, ev, evs, evAnd, R.bind, R.of, slotD, tyD, tyOk, truthD, cmpD, nonD, okD, dep, eqD]
theorem same_str (n : Nat) (i : List Nat) (C : Cells) : callD T (n + 1) 24 [.str i, .str i] C = .ok (.bl true) C := by
  refine call_rt (fd := f24) rfl rfl ?_
  have es : startS f24.names.length [.str i, .str i] = [.val (.str i), .val (.str i), .emp, .emp] := rfl
  rw [es]
  simp [f24, evSs, evS, ev, evs, evAnd, R.bind, R.of, slotD, tyD, tyOk, truthD, cmpD, nonD, okD, dep, eqD]
theorem loopC_all {f : D → Cells → R (List D)} {C : Cells} : ∀ {xs : List D}, (∀ x ∈ xs, f (.tup [x, x]) C = .ok [.bl true] C) → loopC f (List.zipWith (fun x y => D.tup [x, y]) xs xs) C = .ok (xs.map fun _ => .bl true) C
  | [], _ => rfl
  | x :: xs, h => by
    have ih := loopC_all (xs := xs) fun y hy => h y (List.mem_cons_of_mem _ hy)
    have hx := h x List.mem_cons_self
    show (f (.tup [x, x]) C).bind _ = _
    rw [hx]
    show (loopC f (List.zipWith (fun x y => D.tup [x, y]) xs xs) C).bind _ = _
    rw [ih]
    rfl
theorem bools_all : ∀ xs : List D, boolsD (xs.map fun _ => D.bl true) = some (xs.map fun _ => true)
  | [] => rfl
  | x :: xs => by rw [List.map_cons, boolsD, bools_all xs]; rfl
theorem ev_bi1 {cl : Call} {f : Bi} {e : E} {σ : List Sl} {C C1 : Cells} {x d : D} (h : ev cl e σ C = .ok x C1) (hb : biD f [x] = some d) : ev cl (.bi f (.cons e .nil)) σ C = .ok d C1 := by
  simp only [ev, evs, h, R.bind, R.of, hb]
theorem ev_and1 {cl : Call} {a b : E} {σ : List Sl} {C C1 C2 : Cells} {d : D} (h : ev cl a σ C = .ok (.bl true) C1) (h2 : ev cl b σ C1 = .ok d C2) : ev cl (.and a (.cons b .nil)) σ C = .ok d C2 := by
  simp only [ev, evAnd, h, h2, R.bind, truthD]
theorem st_ifs_t {cl : Call} {c : E} {a b : Ss} {σ : List Sl} {C C1 : Cells} {x : D} {r : R Fl} (h : ev cl c σ C = .ok x C1) (ht : truthD x = some true) (h2 : evSs cl a σ C1 = r) : evS cl (.ifs c a b) σ C = r := by
  simp only [evS, h, R.bind, ht]
  exact h2
theorem same_list (n : Nat) (xs : List D) (C : Cells) (hl : xs.length ≤ sizeMost) (h : ∀ x ∈ xs, callD T n 24 [x, x] C = .ok (.bl true) C) : callD T (n + 1) 24 [.lst xs, .lst xs] C = .ok (.bl true) C := by
  refine call_rt (fd := f24) rfl rfl ?_
  have es : startS f24.names.length [.lst xs, .lst xs] = [.val (.lst xs), .val (.lst xs), .emp, .emp] := rfl
  rw [es]
  have hc : ev (callD T n) (.comp (.call 24 (.cons (.v 2) (.cons (.v 3) .nil))) (.mk (.tp (.cons (.v 2) (.cons (.v 3) .nil))) (.zip (.v 0) (.v 1)) .no)) [.val (.lst xs), .val (.lst xs), .emp, .emp] C = .ok (.lst (xs.map fun _ => .bl true)) C := by
    simp only [ev, evi, R.bind, R.of, slotD, List.getElem?_cons_zero, List.getElem?_cons_succ]
    rw [loopC_all fun x hx => ?_]
    · simp [hl]
    · have := h x hx
      simp [bindT, bindTs, wipeS, Tg.vars, Tgs.vars, evc, ev, evs, R.bind, R.of, slotD, this]
  have he : cmpD .eq (.int xs.length) (.int xs.length) = some (.bl true) := eq_self_int _
  have hall := ev_bi1 (f := .all) (d := .bl true) hc (by simp only [biD, bools_all, Option.map]; simp)
  have hlen : ev (callD T n) (.cmp .eq (.bi .len (.cons (.v 0) .nil)) (.bi .len (.cons (.v 1) .nil))) [.val (.lst xs), .val (.lst xs), .emp, .emp] C = .ok (.bl true) C := by
    simp only [ev, evs, R.bind, R.of, slotD, List.getElem?_cons_zero, List.getElem?_cons_succ, biD, he]
  refine ss_rt (st_ifs_t (x := .bl true) (C1 := C) rfl rfl (ss_nx (σ' := [.val (.lst xs), .val (.lst xs), .emp, .emp]) (C1 := C) ?_ (ss_rt ?_)))
  · rfl
  · simp only [evS, ev_and1 hlen hall, R.bind]
theorem same_tup (n : Nat) (xs : List D) (C : Cells) (hl : xs.length ≤ sizeMost) (h : ∀ x ∈ xs, callD T n 24 [x, x] C = .ok (.bl true) C) : callD T (n + 1) 24 [.tup xs, .tup xs] C = .ok (.bl true) C := by
  refine call_rt (fd := f24) rfl rfl ?_
  have es : startS f24.names.length [.tup xs, .tup xs] = [.val (.tup xs), .val (.tup xs), .emp, .emp] := rfl
  rw [es]
  have hc : ev (callD T n) (.comp (.call 24 (.cons (.v 2) (.cons (.v 3) .nil))) (.mk (.tp (.cons (.v 2) (.cons (.v 3) .nil))) (.zip (.v 0) (.v 1)) .no)) [.val (.tup xs), .val (.tup xs), .emp, .emp] C = .ok (.lst (xs.map fun _ => .bl true)) C := by
    simp only [ev, evi, R.bind, R.of, slotD, List.getElem?_cons_zero, List.getElem?_cons_succ]
    rw [loopC_all fun x hx => ?_]
    · simp [hl]
    · have := h x hx
      simp [bindT, bindTs, wipeS, Tg.vars, Tgs.vars, evc, ev, evs, R.bind, R.of, slotD, this]
  have he : cmpD .eq (.int xs.length) (.int xs.length) = some (.bl true) := eq_self_int _
  have hall := ev_bi1 (f := .all) (d := .bl true) hc (by simp only [biD, bools_all, Option.map]; simp)
  have hlen : ev (callD T n) (.cmp .eq (.bi .len (.cons (.v 0) .nil)) (.bi .len (.cons (.v 1) .nil))) [.val (.tup xs), .val (.tup xs), .emp, .emp] C = .ok (.bl true) C := by
    simp only [ev, evs, R.bind, R.of, slotD, List.getElem?_cons_zero, List.getElem?_cons_succ, biD, he]
  refine ss_rt (st_ifs_t (x := .bl true) (C1 := C) rfl rfl (ss_nx (σ' := [.val (.tup xs), .val (.tup xs), .emp, .emp]) (C1 := C) ?_ (ss_rt ?_)))
  · rfl
  · simp only [evS, ev_and1 hlen hall, R.bind]

mutual
theorem same_ok : ∀ (n : Nat) (d : D) (C : Cells), pl n d = true → szOk d = true → callD T (n + 1) 24 [d, d] C = .ok (.bl true) C
  | n, .int i, C, _, _ => same_int n i C
  | n, .bl i, C, _, _ => same_bl n i C
  | n, .str i, C, _, _ => same_str n i C
  | n + 1, .tup xs, C, h, hz => by
    simp only [pl] at h
    simp only [szOk, Bool.and_eq_true, decide_eq_true_eq] at hz
    exact same_tup (n + 1) xs C hz.1 fun x hx => same_oks n xs C h hz.2 x hx
  | n + 1, .lst xs, C, h, hz => by
    simp only [pl] at h
    simp only [szOk, Bool.and_eq_true, decide_eq_true_eq] at hz
    exact same_list (n + 1) xs C hz.1 fun x hx => same_oks n xs C h hz.2 x hx
  | 0, .tup xs, C, h, _ => by simp [pl] at h
  | 0, .lst xs, C, h, _ => by simp [pl] at h
  | _, .non, _, h, _ => by simp [pl] at h
  | _, .dct _ _ _, _, h, _ => by simp [pl] at h
  | _, .fn _, _, h, _ => by simp [pl] at h
  | _, .cell, _, h, _ => by simp [pl] at h
  | _, .frl _, _, h, _ => by simp [pl] at h
  | _, .frt _, _, h, _ => by simp [pl] at h
  | _, .frd _ _, _, h, _ => by simp [pl] at h
theorem same_oks : ∀ (n : Nat) (xs : List D) (C : Cells), pls n xs = true → szOks xs = true → ∀ x ∈ xs, callD T (n + 1) 24 [x, x] C = .ok (.bl true) C
  | n, [], C, _, _ => fun x hx => by cases hx
  | n, y :: ys, C, h, hz => fun x hx => by
    simp only [pls, Bool.and_eq_true] at h
    simp only [szOks, Bool.and_eq_true] at hz
    rcases List.mem_cons.mp hx with e | hx
    · rw [e]; exact same_ok n y C h.1 hz.1
    · exact same_oks n ys C h.2 hz.2 x hx
end
/-- all_counts -/
def hv : Nat → Int
  | 0 => 0
  | 1 => 1
  | k + 2 => hv (k + 1) * 2 * (2 * ((k + 2 : Nat) : Int) - 3) / ((k + 2 : Nat) : Int)
def hvs (m : Nat) : List D := (List.range m).map fun i => .int (hv i)
theorem hvs_succ (m : Nat) : hvs (m + 1) = hvs m ++ [.int (hv m)] := by
  unfold hvs
  rw [List.range_succ, List.map_append]
  rfl
theorem hvs_len (m : Nat) : (hvs m).length = m := by unfold hvs; rw [List.length_map, List.length_range]
theorem hvs_last (m : Nat) : atD (hvs (m + 1)) (-1) = some (.int (hv m)) := by
  unfold atD ixD
  rw [hvs_len, if_neg (by decide), if_pos (by omega)]
  have : (-1 + ((m + 1 : Nat) : Int)).toNat = m := by omega
  simp only [Option.bind, this]
  unfold hvs
  simp
theorem hvs_at (m : Nat) (i : Int) (h0 : 0 ≤ i) (h : i < m) : atD (hvs m) i = some (.int (hv i.toNat)) := by
  unfold atD ixD
  rw [hvs_len, if_pos h0, if_pos h]
  have hi : i.toNat < m := by omega
  simp only [Option.bind]
  unfold hvs
  simp [hi]
theorem hv_loop (cl : Call) (s0 : Sl) (C : Cells) : ∀ (n m : Nat) (s2 : Sl), 1 ≤ m → m + n < 100000 → ∃ s2', loopS (fun x σ C => match bindT (.v 2) x σ with
    | none => .bad
    | some σ => evSs cl (.cons (.app 1 (.bin .fdiv (.bin .mul (.bin .mul (.idx (.b 1) (.neg (.lit (.int 1)))) (.lit (.int 2))) (.bin .sub (.bin .mul (.lit (.int 2)) (.v 2)) (.lit (.int 3)))) (.v 2))) .nil) σ C)
    (rangeD ((m + 1 : Nat) : Int) n) [s0, .ol (hvs (m + 1)), s2] C = .ok (.nx [s0, .ol (hvs (m + 1 + n)), s2']) C
  | 0, m, s2, _, _ => ⟨s2, rfl⟩
  | n + 1, m, s2, h1, h2 => by
    obtain ⟨s2', ih⟩ := hv_loop cl s0 C n (m + 1) (.val (.int ((m + 1 : Nat) : Int))) (by omega) (by omega)
    refine ⟨s2', ?_⟩
    rw [rangeD_succ]
    have e1 : m + 1 + (n + 1) = m + 1 + 1 + n := by omega
    have e2 : ((m + 1 : Nat) : Int) + 1 = ((m + 1 + 1 : Nat) : Int) := by omega
    rw [e1, e2]
    refine (loopS_nx ?_).trans ih
    have m1 : mulOk (hv m) 2 = true := mulOk_r (by decide)
    have m2 : mulOk 2 ((m : Int) + 1) = true := mulOk_l (by decide)
    have m3 : ∀ x : Int, mulOk x (2 * ((m : Int) + 1) - 3) = true := fun x => mulOk_r (by omega)
    have p1 : 0 < (m : Int) + 1 := by omega
    have l1 : ((m : Int) + 1).natAbs.log2 < 9000 := log_small (by omega)
    have hl : (hvs (m + 1)).length < sizeMost := by rw [hvs_len]; unfold sizeMost; omega
    have hv1 : hv (m + 1) = hv m * 2 * (2 * ((m : Int) + 1) - 3) / ((m : Int) + 1) := by
      cases m with
      | zero => omega
      | succ k =>
        have e : ((k + 2 : Nat) : Int) = ((k + 1 : Nat) : Int) + 1 := by omega
        rw [hv, e]
    rw [hvs_succ (m + 1), hv1]
    simp [evSs, evS, ev, evs, R.bind, R.of, slotD, slotB, binD, bindT, idxD, intD, hvs_last, m1, m2, m3, p1, l1, hl]
theorem evi_range2 {cl : Call} {a b : E} {σ : List Sl} {C C1 C2 : Cells} {i j : Int} (h1 : ev cl a σ C = .ok (.int i) C1) (h2 : ev cl b σ C1 = .ok (.int j) C2) (hr : rngOk i j = true) : evi cl (.range2 a b) σ C = .ok (rangeD i (j - i).toNat) C2 := by
  simp only [evi, h1, h2, R.bind, hr, if_true]
theorem counts_ok (n : Nat) (k : Nat) (C : Cells) (h1 : 1 ≤ k) (h2 : k ≤ 1000) : callD T (n + 1) 265 [.int k] C = .ok (.lst (hvs (k + 1))) C := by
  obtain ⟨s2', hl⟩ := hv_loop (callD T n) (.val (.int k)) C (k - 1) 1 .emp (by omega) (by omega)
  refine call_rt (fd := f265) rfl rfl ?_
  have es : startS f265.names.length [.int k] = [.val (.int k), .emp, .emp] := rfl
  rw [es]
  have f0 : evS (callD T n) (.asgO 1 (.lst (.cons (.lit (.int 0)) (.cons (.lit (.int 1)) .nil)))) [.val (.int k), .emp, .emp] C = .ok (.nx [.val (.int k), .ol (hvs 2), .emp]) C := by
    simp [evS, ev, evs, R.bind, hvs, hv, List.range, List.range.loop]
  refine ss_nx (C1 := C) (σ' := [.val (.int k), .ol (hvs 2), .emp]) f0 (ss_nx (C1 := C) (σ' := [.val (.int k), .ol (hvs (k + 1)), s2']) ?_ (ss_rt rfl))
  have hr : rngOk 2 (k + 1) = true := by unfold rngOk; simp; omega
  have e0 : ((k : Int) + 1 - 2).toNat = k - 1 := by omega
  have e1 : evi (callD T n) (.range2 (.lit (.int 2)) (.bin .add (.v 0) (.lit (.int 1)))) [.val (.int k), .ol (hvs 2), .emp] C = .ok (rangeD 2 (k - 1)) C := by
    rw [← e0]
    exact evi_range2 rfl rfl hr
  have e3 : 1 + 1 + (k - 1) = k + 1 := by omega
  rw [e3] at hl
  have hl : loopS _ (rangeD 2 (k - 1)) _ C = _ := hl
  simp only [evS, e1]
  exact hl
theorem within_ok (n : Nat) (C : Cells) (x lo hi : Int) (h1 : lo ≤ x) (h2 : x ≤ hi) : callD T (n + 3) 123 [.int x, .int lo, .int hi] C = .ok (.int x) C := by
  simp [callD, runF, hush, T, f123, f2, f0, evSs, evS, ev, evs, evAnd, R.bind, R.of, startS, slotD, truthD, tyD, tyOk, cmpD, h1, h2]
theorem many_ok (n : Nat) (k : Nat) (C : Cells) (h1 : 1 ≤ k) (h2 : k ≤ 200) : callD T (n + 4) 271 [.int k] C = .ok (.int (hv k)) C := by
  refine call_rt (fd := f271) rfl rfl (ss_rt ?_)
  have es : startS f271.names.length [.int k] = [.val (.int k)] := rfl
  rw [es]
  have hw := within_ok n C k 1 200 (by omega) (by omega)
  have hc := counts_ok (n + 2) k C h1 (by omega)
  have ha := hvs_at (k + 1) (k : Int) (by omega) (by omega)
  have hk : ((k : Int)).toNat = k := by omega
  rw [hk] at ha
  simp [evS, ev, evs, R.bind, R.of, slotD, hw, hc, idxD, ha]
end Mi

set_option Elab.async false
set_option linter.all false
set_option maxRecDepth 100000
set_option maxHeartbeats 4000000
namespace Mi
/-! ## Shapes and their places -/
inductive Sh where
  | lf | nd (a b : Sh)
  deriving DecidableEq
def Sh.lv : Sh → Nat
  | .lf => 1
  | .nd a b => a.lv + b.lv
def Sh.d : Sh → D
  | .lf => .tup []
  | .nd a b => .tup [a.d, b.d]
theorem Sh.lv_pos : ∀ s : Sh, 1 ≤ s.lv
  | .lf => Nat.le_refl _
  | .nd a b => by have := a.lv_pos; show 1 ≤ a.lv + b.lv; omega
/-- the sum over own from 1 to k - 1 -/
def pre (n : Nat) : Nat → Int
  | 0 => 0
  | 1 => 0
  | k + 2 => pre n (k + 1) + hv (k + 1) * hv (n - (k + 1))
theorem pre_succ {n k : Nat} (h : 1 ≤ k) : pre n (k + 1) = pre n k + hv k * hv (n - k) := by
  cases k with
  | zero => omega
  | succ j => rw [pre]
theorem conv_b : ((List.range 61).all fun n => decide (n < 2) || decide (pre n n = hv n)) = true := by decide +kernel
theorem pos_b : ((List.range 61).all fun n => decide (n = 0) || decide (0 < hv n)) = true := by decide +kernel
theorem conv {n : Nat} (h1 : 2 ≤ n) (h2 : n ≤ 60) : pre n n = hv n := by
  have h := List.all_eq_true.mp conv_b n (List.mem_range.mpr (by omega))
  simp only [Bool.or_eq_true, decide_eq_true_eq] at h
  rcases h with h | h
  · omega
  · exact h
theorem hv_pos {n : Nat} (h1 : 1 ≤ n) (h2 : n ≤ 60) : 0 < hv n := by
  have h := List.all_eq_true.mp pos_b n (List.mem_range.mpr (by omega))
  simp only [Bool.or_eq_true, decide_eq_true_eq] at h
  rcases h with h | h
  · omega
  · exact h
theorem hv_nn {n : Nat} (h2 : n ≤ 60) : 0 ≤ hv n := by
  cases n with
  | zero => exact Int.le_refl _
  | succ k => exact Int.le_of_lt (hv_pos (by omega) h2)
theorem pre_mono {n : Nat} (hn : n ≤ 60) {k : Nat} : ∀ {j : Nat}, k ≤ j → j ≤ n → pre n k ≤ pre n j
  | 0, h, _ => by have : k = 0 := by omega
                  subst this; exact Int.le_refl _
  | j + 1, h, hj => by
    by_cases e : k = j + 1
    · subst e; exact Int.le_refl _
    · have ih := pre_mono hn (k := k) (j := j) (by omega) (by omega)
      cases j with
      | zero => have : k = 0 := by omega
                subst this; exact Int.le_refl _
      | succ i =>
        rw [pre_succ (by omega)]
        have := Int.mul_nonneg (hv_nn (n := i + 1) (by omega)) (hv_nn (n := n - (i + 1)) (by omega))
        omega
theorem pre_nn {n k : Nat} (hn : n ≤ 60) (h : k ≤ n) : 0 ≤ pre n k := by
  have := pre_mono hn (Nat.zero_le k) h
  exact this
def Sh.plc : Sh → Int
  | .lf => 0
  | .nd a b => pre (a.lv + b.lv) a.lv + a.plc * hv b.lv + b.plc
theorem plc_bd : ∀ s : Sh, s.lv ≤ 60 → 0 ≤ s.plc ∧ s.plc < hv s.lv
  | .lf, _ => ⟨Int.le_refl _, by decide⟩
  | .nd a b, h => by
    have ha := a.lv_pos
    have hb := b.lv_pos
    have hl : a.lv + b.lv ≤ 60 := h
    obtain ⟨a1, a2⟩ := plc_bd a (by omega)
    obtain ⟨b1, b2⟩ := plc_bd b (by omega)
    have p := hv_pos hb (by omega)
    have e1 := Int.mul_nonneg a1 (Int.le_of_lt p)
    have e2 := pre_nn (n := a.lv + b.lv) (k := a.lv) hl (by omega)
    have e3 : (a.plc + 1) * hv b.lv ≤ hv a.lv * hv b.lv := Int.mul_le_mul_of_nonneg_right (by omega) (Int.le_of_lt p)
    have e4 : (a.plc + 1) * hv b.lv = a.plc * hv b.lv + hv b.lv := by rw [Int.add_mul, Int.one_mul]
    have e5 := pre_succ (n := a.lv + b.lv) ha
    have e6 : a.lv + b.lv - a.lv = b.lv := by omega
    rw [e6] at e5
    have e7 := pre_mono hl (k := a.lv + 1) (j := a.lv + b.lv) (by omega) (by omega)
    rw [conv (by omega) hl] at e7
    show 0 ≤ pre (a.lv + b.lv) a.lv + a.plc * hv b.lv + b.plc ∧ pre (a.lv + b.lv) a.lv + a.plc * hv b.lv + b.plc < hv (a.lv + b.lv)
    omega
theorem plc_step (a b : Sh) (h : a.lv + b.lv ≤ 60) : pre (a.lv + b.lv) a.lv ≤ (Sh.nd a b).plc ∧ (Sh.nd a b).plc < pre (a.lv + b.lv) (a.lv + 1) := by
  have ha := a.lv_pos
  have hb := b.lv_pos
  obtain ⟨a1, a2⟩ := plc_bd a (by omega)
  obtain ⟨b1, b2⟩ := plc_bd b (by omega)
  have p := hv_pos hb (by omega)
  have e1 := Int.mul_nonneg a1 (Int.le_of_lt p)
  have e3 : (a.plc + 1) * hv b.lv ≤ hv a.lv * hv b.lv := Int.mul_le_mul_of_nonneg_right (by omega) (Int.le_of_lt p)
  have e4 : (a.plc + 1) * hv b.lv = a.plc * hv b.lv + hv b.lv := by rw [Int.add_mul, Int.one_mul]
  have e5 := pre_succ (n := a.lv + b.lv) ha
  have e6 : a.lv + b.lv - a.lv = b.lv := by omega
  rw [e6] at e5
  show pre (a.lv + b.lv) a.lv ≤ pre (a.lv + b.lv) a.lv + a.plc * hv b.lv + b.plc ∧ pre (a.lv + b.lv) a.lv + a.plc * hv b.lv + b.plc < pre (a.lv + b.lv) (a.lv + 1)
  omega
theorem plc_far {a b c e : Sh} (h : a.lv + b.lv ≤ 60) (hl : a.lv + b.lv = c.lv + e.lv) (hc : a.lv < c.lv) : (Sh.nd a b).plc < (Sh.nd c e).plc := by
  have h1 := (plc_step a b h).2
  have h2 := (plc_step c e (by omega)).1
  have h3 := pre_mono h (k := a.lv + 1) (j := c.lv) (by omega) (by have := e.lv_pos; omega)
  rw [hl] at h1 h3
  omega
theorem plc_near {a b c e : Sh} (h : a.lv + b.lv ≤ 60) (hl : a.lv + b.lv = c.lv + e.lv) (hc : a.lv = c.lv) (hp : a.plc < c.plc) : (Sh.nd a b).plc < (Sh.nd c e).plc := by
  have hb := b.lv_pos
  have eb : b.lv = e.lv := by omega
  obtain ⟨b1, b2⟩ := plc_bd b (by omega)
  obtain ⟨c1, c2⟩ := plc_bd e (by omega)
  have p := hv_pos hb (by omega)
  have e3 : (a.plc + 1) * hv b.lv ≤ c.plc * hv b.lv := Int.mul_le_mul_of_nonneg_right (by omega) (Int.le_of_lt p)
  have e4 : (a.plc + 1) * hv b.lv = a.plc * hv b.lv + hv b.lv := by rw [Int.add_mul, Int.one_mul]
  show pre (a.lv + b.lv) a.lv + a.plc * hv b.lv + b.plc < pre (c.lv + e.lv) c.lv + c.plc * hv e.lv + e.plc
  rw [← hl, ← hc, ← eb]
  omega
theorem plc_last {a b e : Sh} (hl : b.lv = e.lv) (hp : b.plc < e.plc) : (Sh.nd a b).plc < (Sh.nd a e).plc := by
  show pre (a.lv + b.lv) a.lv + a.plc * hv b.lv + b.plc < pre (a.lv + e.lv) a.lv + a.plc * hv e.lv + e.plc
  rw [hl]
  omega
theorem plc_inj : ∀ s t : Sh, s.lv = t.lv → s.lv ≤ 60 → s.plc = t.plc → s = t
  | .lf, .lf, _, _, _ => rfl
  | .lf, .nd a b, h, _, _ => by
    have := a.lv_pos
    have := b.lv_pos
    have h : 1 = a.lv + b.lv := h
    omega
  | .nd a b, .lf, h, _, _ => by
    have := a.lv_pos
    have := b.lv_pos
    have h : a.lv + b.lv = 1 := h
    omega
  | .nd a b, .nd c e, h, hm, hp => by
    have h : a.lv + b.lv = c.lv + e.lv := h
    have hm : a.lv + b.lv ≤ 60 := hm
    have hac : a.lv = c.lv := by
      rcases Nat.lt_trichotomy a.lv c.lv with q | q | q
      · have := plc_far hm h q; omega
      · exact q
      · have := plc_far (by omega) h.symm q; omega
    have hpa : a.plc = c.plc := by
      rcases Int.lt_trichotomy a.plc c.plc with q | q | q
      · have := plc_near hm h hac q; omega
      · exact q
      · have := plc_near (by omega) h.symm hac.symm q; omega
    have ea := plc_inj a c hac (by omega) hpa
    subst ea
    have hpb : b.plc = e.plc := by
      rcases Int.lt_trichotomy b.plc e.plc with q | q | q
      · have := plc_last (a := a) (by omega) q; omega
      · exact q
      · have := plc_last (a := a) (b := e) (e := b) (by omega) q; omega
    have eb := plc_inj b e (by omega) (by omega) hpb
    subst eb
    rfl
/-- -1, 0, 1 -/
def sg (s t : Sh) : Int := if s.plc < t.plc then -1 else if t.plc < s.plc then 1 else 0
theorem find_k {n : Nat} {p : Int} (h0 : 0 ≤ p) : ∀ j : Nat, p < pre n j → ∃ k, 1 ≤ k ∧ k < j ∧ pre n k ≤ p ∧ p < pre n (k + 1)
  | 0, h => by have h : p < 0 := h
               omega
  | 1, h => by have h : p < 0 := h
               omega
  | j + 2, h => by
    by_cases q : pre n (j + 1) ≤ p
    · exact ⟨j + 1, by omega, by omega, q, h⟩
    · obtain ⟨k, h1, h2, h3, h4⟩ := find_k (n := n) h0 (j + 1) (by omega)
      exact ⟨k, h1, by omega, h3, h4⟩
theorem unr (n : Nat) : ∀ p : Int, 1 ≤ n → n ≤ 60 → 0 ≤ p → p < hv n → ∃ s : Sh, s.lv = n ∧ s.plc = p := by
  induction n using Nat.strongRecOn with
  | _ n ih =>
    intro p h1 h2 h3 h4
    by_cases e : n = 1
    · subst e
      have h4 : p < 1 := h4
      exact ⟨.lf, rfl, by show (0 : Int) = p; omega⟩
    · rw [← conv (by omega) h2] at h4
      obtain ⟨k, k1, k2, k3, k4⟩ := find_k h3 n h4
      rw [pre_succ k1] at k4
      have pm := hv_pos (n := n - k) (by omega) (by omega)
      have q1 : 0 ≤ (p - pre n k) / hv (n - k) := Int.ediv_nonneg (by omega) (by omega)
      have q2 : (p - pre n k) / hv (n - k) < hv k := Int.ediv_lt_of_lt_mul pm (by omega)
      obtain ⟨a, a1, a2⟩ := ih k k2 _ k1 (by omega) q1 q2
      obtain ⟨b, b1, b2⟩ := ih (n - k) (by omega) _ (by omega) (by omega) (Int.emod_nonneg (p - pre n k) (by omega)) (Int.emod_lt_of_pos _ pm)
      refine ⟨.nd a b, by show a.lv + b.lv = n; omega, ?_⟩
      show pre (a.lv + b.lv) a.lv + a.plc * hv b.lv + b.plc = p
      have e1 : a.lv + b.lv = n := by omega
      have := Int.mul_ediv_add_emod (p - pre n k) (hv (n - k))
      rw [e1, a1, b1, a2, b2, Int.mul_comm]
      omega
end Mi

set_option Elab.async false
set_option linter.all false
set_option maxRecDepth 100000
set_option maxHeartbeats 4000000
namespace Mi
/-! ## Defs of shapes -/
theorem eqS : ∀ s t : Sh, eqD s.d t.d = decide (s = t)
  | .lf, .lf => rfl
  | .lf, .nd a b => rfl
  | .nd a b, .lf => rfl
  | .nd a b, .nd c e => by
    simp only [Sh.d, eqD, eqDs, eqS a c, eqS b e, Sh.nd.injEq, Bool.and_true, Bool.decide_and]
theorem okS : ∀ s : Sh, okD s.d = true
  | .lf => rfl
  | .nd a b => by simp only [Sh.d, okD, okDs, okS a, okS b, Bool.and_self]
theorem depS : ∀ s : Sh, dep s.d ≤ s.lv
  | .lf => Nat.le_refl _
  | .nd a b => by
    have := depS a
    have := depS b
    have := a.lv_pos
    have := b.lv_pos
    simp only [Sh.d, dep, deps, Sh.lv]
    omega
theorem cmpS {s t : Sh} (h : s.lv ≤ 200) : cmpD .eq s.d t.d = some (.bl (decide (s = t))) := by
  have := depS s
  simp only [cmpD, okS, eqS, Bool.true_and, Bool.and_self]
  rw [if_pos (by simp; left; omega)]
theorem cmpSn {s t : Sh} (h : s.lv ≤ 200) : cmpD .ne s.d t.d = some (.bl (!decide (s = t))) := by
  have := depS s
  simp only [cmpD, okS, eqS, Bool.true_and, Bool.and_self]
  rw [if_pos (by simp; left; omega)]
theorem cmpS0 (s : Sh) : cmpD .eq s.d (.tup []) = some (.bl (decide (s = .lf))) := by
  have h : D.tup [] = Sh.lf.d := rfl
  rw [h]
  simp only [cmpD, okS, eqS, Bool.true_and, Bool.and_self]
  rw [if_pos (by simp; right; decide)]
theorem cmpL0 (a b : Sh) : cmpD .eq (.tup [a.d, b.d]) (.tup []) = some (.bl false) := cmpS0 (.nd a b)
theorem cmp00 : cmpD .eq (.tup []) (.tup []) = some (.bl true) := rfl
theorem cmpI (i j : Int) : cmpD .eq (.int i) (.int j) = some (.bl (decide (i = j))) := by
  have e : (i == j) = decide (i = j) := by
    by_cases h : i = j
    · subst h; simp
    · simp [h]
  simp [cmpD, okD, dep, eqD, e]
theorem cmpIn (i j : Int) : cmpD .ne (.int i) (.int j) = some (.bl (!decide (i = j))) := by
  have e : (i == j) = decide (i = j) := by
    by_cases h : i = j
    · subst h; simp
    · simp [h]
  simp [cmpD, okD, dep, eqD, e]
theorem ix20 (C : Cells) (x y : D) : idxD C (.tup [x, y]) (.int 0) = some x := rfl
theorem ix21 (C : Cells) (x y : D) : idxD C (.tup [x, y]) (.int 1) = some y := rfl
theorem leaves_ok (C : Cells) : ∀ (s : Sh) (n : Nat), s.lv ≤ n → callD T (n + 1) 261 [s.d] C = .ok (.int s.lv) C
  | .lf, n, h => by
    refine call_rt (fd := f261) rfl rfl (ss_rt ?_)
    simp [f261, startS, evS, ev, evs, R.bind, R.of, slotD, Sh.d, cmp00, truthD, Sh.lv]
  | .nd a b, n, h => by
    have ha := a.lv_pos
    have hb := b.lv_pos
    have h : a.lv + b.lv ≤ n := h
    obtain ⟨m, rfl⟩ : ∃ m, n = m + 1 := ⟨n - 1, by omega⟩
    have i1 := leaves_ok C a m (by omega)
    have i2 := leaves_ok C b m (by omega)
    refine call_rt (fd := f261) rfl rfl (ss_rt ?_)
    simp [f261, startS, evS, ev, evs, R.bind, R.of, slotD, Sh.d, cmpL0, truthD, Sh.lv, ix20, ix21, i1, i2, binD]
theorem lleaves_ok (C : Cells) : ∀ (s : Sh) (n : Nat), s.lv ≤ n → callD T (n + 1) 287 [s.d] C = .ok (.int s.lv) C
  | .lf, n, h => by
    refine call_rt (fd := f287) rfl rfl (ss_rt ?_)
    simp [f287, startS, evS, ev, evs, R.bind, R.of, slotD, Sh.d, cmp00, truthD, Sh.lv]
  | .nd a b, n, h => by
    have ha := a.lv_pos
    have hb := b.lv_pos
    have h : a.lv + b.lv ≤ n := h
    obtain ⟨m, rfl⟩ : ∃ m, n = m + 1 := ⟨n - 1, by omega⟩
    have i1 := lleaves_ok C a m (by omega)
    have i2 := lleaves_ok C b m (by omega)
    refine call_rt (fd := f287) rfl rfl (ss_rt ?_)
    simp [f287, startS, evS, ev, evs, R.bind, R.of, slotD, Sh.d, cmpL0, truthD, Sh.lv, ix20, ix21, i1, i2, binD]
theorem long2_ok (n : Nat) (C : Cells) (x y : D) : callD T (n + 1) 5 [.tup [x, y], .int 2] C = .ok (.bl true) C := by
  refine call_rt (fd := f5) rfl rfl (ss_rt ?_)
  simp [f5, startS, evS, ev, evs, evAnd, R.bind, R.of, slotD, truthD, tyD, tyOk, biD, cmpD, okD, dep, eqD]
theorem isshape_ok (C : Cells) : ∀ (s : Sh) (n : Nat), s.lv ≤ n → callD T (n + 1) 260 [s.d] C = .ok (.bl true) C
  | .lf, n, h => by
    refine call_rt (fd := f260) rfl rfl (ss_rt ?_)
    simp [f260, startS, evS, evSs, ev, evs, evAnd, R.bind, R.of, slotD, Sh.d, cmp00, truthD, tyD, tyOk]
  | .nd a b, n, h => by
    have ha := a.lv_pos
    have hb := b.lv_pos
    have h : a.lv + b.lv ≤ n := h
    obtain ⟨m, rfl⟩ : ∃ m, n = m + 1 := ⟨n - 1, by omega⟩
    have i1 := isshape_ok C a m (by omega)
    have i2 := isshape_ok C b m (by omega)
    refine call_rt (fd := f260) rfl rfl ?_
    simp [f260, startS, evS, evSs, ev, evs, evAnd, R.bind, R.of, slotD, Sh.d, cmpL0, truthD, tyD, tyOk, ix20, ix21, i1, i2, long2_ok]
/-- the number of a shape -/
def Sh.num : Sh → Int
  | .lf => 1
  | .nd a b => if a.num = b.num then a.num + 1 else if b.num > a.num then b.num else a.num
theorem numS_ok (C : Cells) : ∀ (s : Sh) (n : Nat), s.lv ≤ n → callD T (n + 1) 263 [s.d] C = .ok (.int s.num) C
  | .lf, n, h => by
    refine call_rt (fd := f263) rfl rfl (ss_rt ?_)
    simp [f263, startS, evS, evSs, ev, evs, R.bind, R.of, slotD, Sh.d, cmp00, truthD, Sh.num]
  | .nd a b, n, h => by
    have ha := a.lv_pos
    have hb := b.lv_pos
    have h : a.lv + b.lv ≤ n := h
    obtain ⟨m, rfl⟩ : ∃ m, n = m + 1 := ⟨n - 1, by omega⟩
    have i1 := numS_ok C a m (by omega)
    have i2 := numS_ok C b m (by omega)
    refine call_rt (fd := f263) rfl rfl ?_
    by_cases e : a.num = b.num
    · simp [f263, startS, evS, evSs, ev, evs, R.bind, R.of, slotD, Sh.d, cmpL0, truthD, ix20, ix21, i1, i2, parS, cmpI, binD, biD, Sh.num, e]
    · simp [f263, startS, evS, evSs, ev, evs, R.bind, R.of, slotD, Sh.d, cmpL0, truthD, ix20, ix21, i1, i2, parS, cmpI, binD, biD, Sh.num, e]
end Mi

set_option Elab.async false
set_option linter.all false
set_option maxRecDepth 100000
set_option maxHeartbeats 4000000
namespace Mi
theorem big_b : ((List.range 61).all fun n => decide (hv n < 2 ^ 200)) = true := by decide +kernel
theorem hv_big {n : Nat} (h2 : n ≤ 60) : hv n < 2 ^ 200 := by
  have h := List.all_eq_true.mp big_b n (List.mem_range.mpr (by omega))
  simpa using h
theorem mulOk_big {i j : Int} (h1 : 0 ≤ i) (h2 : i < 2 ^ 200) (h3 : 0 ≤ j) (h4 : j < 2 ^ 200) : mulOk i j = true := by
  have e : ∀ x : Int, 0 ≤ x → x < 2 ^ 200 → x.natAbs.log2 ≤ 200 := fun x a b => by
    by_cases z : x.natAbs = 0
    · rw [z]; decide
    · have : x.natAbs < 2 ^ 201 := by
        have : (2 : Int) ^ 200 < 2 ^ 201 := by decide
        omega
      have := (Nat.log2_lt (n := x.natAbs) (k := 201) z).mpr this
      omega
  have := e i h1 h2
  have := e j h3 h4
  unfold mulOk
  simp only [Bool.or_eq_true, decide_eq_true_eq]
  right
  omega
theorem log_big {j : Int} (h3 : 0 < j) (h4 : j < 2 ^ 200) : j.natAbs.log2 < 9000 := by
  have : j.natAbs < 2 ^ 201 := by
    have : (2 : Int) ^ 200 < 2 ^ 201 := by decide
    omega
  have := (Nat.log2_lt (n := j.natAbs) (k := 201) (by omega)).mpr this
  omega
theorem loopC_map {f : D → Cells → R (List D)} {g : D → D} {C : Cells} : ∀ {xs : List D}, (∀ x ∈ xs, f x C = .ok [g x] C) → loopC f xs C = .ok (xs.map g) C
  | [], _ => rfl
  | x :: xs, h => by
    have ih := loopC_map (xs := xs) fun y hy => h y (List.mem_cons_of_mem _ hy)
    show (f x C).bind _ = _
    rw [h x List.mem_cons_self]
    show (loopC f xs C).bind _ = _
    rw [ih]
    rfl
theorem intsD_mp : ∀ ns : List Int, intsD (ns.map .int) = some ns
  | [] => rfl
  | n :: r => by rw [List.map_cons, intsD, intsD_mp r]; rfl
theorem sum_pre (n : Nat) : ∀ k : Nat, ((List.range k).map fun i => hv (i + 1) * hv (n - (i + 1))).sum = pre n (k + 1)
  | 0 => rfl
  | k + 1 => by
    rw [List.range_succ, List.map_append, List.sum_append, sum_pre n k, pre_succ (n := n) (k := k + 1) (by omega)]
    simp
theorem rangeD_len (lo : Int) (n : Nat) : (rangeD lo n).length = n := by unfold rangeD; rw [List.length_map, List.length_range]
/-- what a comprehension does with one thing -/
def cmF (cl : Call) (e : E) (t : Tg) (c : Oe) (σ : List Sl) (x : D) (C : Cells) : R (List D) := match bindT t x (wipeS σ t.vars) with
  | none => .bad
  | some σ' => (evc cl c σ' C).bind fun k C => if k then (ev cl e σ' C).bind fun y C => .ok [y] C else .ok [] C
theorem ev_comp {cl : Call} {e : E} {t : Tg} {it : It} {c : Oe} {σ : List Sl} {C C1 C2 : Cells} {xs ys : List D} (h1 : evi cl it σ C = .ok xs C1) (h2 : loopC (cmF cl e t c σ) xs C1 = .ok ys C2) (h3 : ys.length ≤ sizeMost) : ev cl (.comp e (.mk t it c)) σ C = .ok (.lst ys) C2 := by
  rw [ev, h1]
  show (loopC (cmF cl e t c σ) xs C1).bind _ = _
  rw [h2]
  show (if ys.length ≤ sizeMost then _ else _) = _
  rw [if_pos h3]
theorem ev_map {cl : Call} {e : E} {t : Tg} {it : It} {c : Oe} {σ : List Sl} {C C1 : Cells} {xs : List D} (g : D → D) (h1 : evi cl it σ C = .ok xs C1) (h2 : ∀ x ∈ xs, cmF cl e t c σ x C1 = .ok [g x] C1) (h3 : xs.length ≤ sizeMost) : ev cl (.comp e (.mk t it c)) σ C = .ok (.lst (xs.map g)) C1 :=
  ev_comp h1 (loopC_map h2) (by rw [List.length_map]; exact h3)
/-- the products of place_in -/
theorem place_sum (cl : Call) (C : Cells) (m n k : Nat) (hm : m ≤ 60) (hk : 1 ≤ k) (hkn : k ≤ n) (hn : n ≤ m) (x0 x2 : Sl) :
    ev cl (.bi .sum (.cons (.comp (.bin .mul (.idx (.v 1) (.v 5)) (.idx (.v 1) (.bin .sub (.v 4) (.v 5)))) (.mk (.v 5) (.range2 (.lit (.int 1)) (.v 3)) .no)) .nil)) [x0, .val (.lst (hvs (m + 1))), x2, .val (.int k), .val (.int n), .emp] C = .ok (.int (pre n k)) C := by
  have hr : rngOk 1 (k : Int) = true := by unfold rngOk; simp; omega
  have e0 : ((k : Int) - 1).toNat = k - 1 := by omega
  have e1 : evi cl (.range2 (.lit (.int 1)) (.v 3)) [x0, .val (.lst (hvs (m + 1))), x2, .val (.int k), .val (.int n), .emp] C = .ok (rangeD 1 (k - 1)) C := by
    rw [← e0]
    exact evi_range2 rfl rfl hr
  have e2 : ev cl (.comp (.bin .mul (.idx (.v 1) (.v 5)) (.idx (.v 1) (.bin .sub (.v 4) (.v 5)))) (.mk (.v 5) (.range2 (.lit (.int 1)) (.v 3)) .no)) [x0, .val (.lst (hvs (m + 1))), x2, .val (.int k), .val (.int n), .emp] C = .ok (.lst (((List.range (k - 1)).map fun i => hv (i + 1) * hv (n - (i + 1))).map .int)) C := by
    have hm := ev_map (g := fun x => match x with
      | .int i => .int (hv i.toNat * hv (n - i.toNat))
      | x => x) (e := .bin .mul (.idx (.v 1) (.v 5)) (.idx (.v 1) (.bin .sub (.v 4) (.v 5)))) (t := .v 5) (c := .no) e1 (fun x hx => ?_) (by rw [rangeD_len]; unfold sizeMost; omega)
    · rw [hm]
      unfold rangeD
      rw [List.map_map, List.map_map]
      have : List.map ((fun x => match x with
          | .int i => D.int (hv i.toNat * hv (n - i.toNat))
          | x => x) ∘ fun (i : Nat) => D.int (1 + (i : Nat))) (List.range (k - 1)) = List.map (D.int ∘ fun i => hv (i + 1) * hv (n - (i + 1))) (List.range (k - 1)) := by
        refine List.map_congr_left fun i hi => ?_
        have e : ((1 : Int) + (i : Nat)).toNat = i + 1 := by omega
        simp only [Function.comp, e]
      rw [this]
    · unfold rangeD at hx
      obtain ⟨i, hi, rfl⟩ := List.mem_map.mp hx
      have hi := List.mem_range.mp hi
      have h1 := hvs_at (m + 1) (1 + (i : Int)) (by omega) (by omega)
      have h2 := hvs_at (m + 1) ((n : Int) - (1 + (i : Int))) (by omega) (by omega)
      have e2 : ((n : Int) - (1 + (i : Int))).toNat = n - (1 + (i : Int)).toNat := by omega
      rw [e2] at h2
      have hk := mulOk_big (hv_nn (n := (1 + (i : Int)).toNat) (by omega)) (hv_big (by omega)) (hv_nn (n := n - (1 + (i : Int)).toNat) (by omega)) (hv_big (by omega))
      simp [cmF, bindT, wipeS, Tg.vars, evc, ev, evs, R.bind, R.of, slotD, idxD, binD, h1, h2, hk]
  refine ev_bi1 e2 ?_
  simp only [biD, intsD_mp, Option.map]
  rw [sum_pre, Nat.sub_add_cancel hk]
end Mi

set_option Elab.async false
set_option linter.all false
set_option maxRecDepth 100000
set_option maxHeartbeats 4000000
namespace Mi
theorem ixL (C : Cells) (xs : List D) (i : Int) : idxD C (.lst xs) (.int i) = atD xs i := rfl
/-- place_in -/
theorem place_ok (C : Cells) (m : Nat) (hm : m ≤ 60) (s : Sh) : ∀ n : Nat, s.lv ≤ m → s.lv + 1 ≤ n → callD T (n + 1) 284 [s.d, .lst (hvs (m + 1))] C = .ok (.int s.plc) C := by
  induction s with
  | lf =>
    intro n _ h
    refine call_rt (fd := f284) rfl rfl (ss_rt ?_)
    simp [f284, startS, evS, evSs, ev, evs, R.bind, R.of, slotD, Sh.d, cmp00, truthD, Sh.plc]
  | nd a b iha ihb =>
    intro n hs h
    have ha := a.lv_pos
    have hb := b.lv_pos
    have h : a.lv + b.lv + 1 ≤ n := h
    have hs : a.lv + b.lv ≤ m := hs
    obtain ⟨k, rfl⟩ : ∃ k, n = k + 1 := ⟨n - 1, by omega⟩
    have i1 := iha k (by omega) (by omega)
    have i2 := ihb k (by omega) (by omega)
    have l1 := leaves_ok C a k (by omega)
    have l2 : callD T (k + 1) 261 [.tup [a.d, b.d]] C = .ok (.int ((a.lv + b.lv : Nat) : Int)) C := leaves_ok C (.nd a b) k (by show a.lv + b.lv ≤ k; omega)
    refine call_rt (fd := f284) rfl rfl ?_
    have es : startS f284.names.length [(Sh.nd a b).d, .lst (hvs (m + 1))] = [.val (.tup [a.d, b.d]), .val (.lst (hvs (m + 1))), .emp, .emp, .emp, .emp] := rfl
    rw [es]
    have e3 := place_sum (callD T (k + 1)) C m (a.lv + b.lv) a.lv hm ha (by omega) hs (.val (.tup [a.d, b.d])) .emp
    have h2 := hvs_at (m + 1) (b.lv : Int) (by omega) (by omega)
    have e4 : ((b.lv : Int)).toNat = b.lv := by omega
    rw [e4] at h2
    obtain ⟨p1, p2⟩ := plc_bd a (by omega)
    have q1 := hv_big (n := a.lv) (by omega)
    have hk := mulOk_big p1 (by omega) (hv_nn (n := b.lv) (by omega)) (hv_big (by omega))
    have e5 : (a.lv : Int) + b.lv - a.lv = b.lv := by omega
    refine ss_nx (C1 := C) (σ' := [.val (.tup [a.d, b.d]), .val (.lst (hvs (m + 1))), .emp, .emp, .emp, .emp]) ?_ (ss_nx (C1 := C) (σ' := [.val (.tup [a.d, b.d]), .val (.lst (hvs (m + 1))), .emp, .val (.int a.lv), .val (.int ((a.lv + b.lv : Nat) : Int)), .emp]) ?_ (ss_nx (C1 := C) (σ' := [.val (.tup [a.d, b.d]), .val (.lst (hvs (m + 1))), .val (.int (pre (a.lv + b.lv) a.lv)), .val (.int a.lv), .val (.int ((a.lv + b.lv : Nat) : Int)), .emp]) ?_ (ss_rt ?_)))
    · simp [evS, evSs, ev, evs, R.bind, R.of, slotD, cmpL0, truthD]
    · simp [evS, ev, evs, R.bind, R.of, slotD, ix20, l1, l2, parS]
    · rw [evS, e3]
      rfl
    · simp [evS, ev, evs, R.bind, R.of, slotD, ix20, ix21, i1, i2, ixL, binD, e5, h2, hk, Sh.plc]
/-- the while of nth_in -/
theorem nth_loop (cl : Call) (C : Cells) (m n : Nat) (hm : m ≤ 60) (hn : n ≤ m) (k : Nat) (hk : 1 ≤ k) (hkn : k < n) (p : Int) (p0 : 0 ≤ p) (p1 : pre n k ≤ p) (p2 : p < pre n (k + 1)) (x1 : Sl) : ∀ (t j r : Nat), j + r = k → 1 ≤ j → r < t →
    loopW (fun σ C => (ev cl (.cmp .ge (.v 5) (.bin .mul (.idx (.v 2) (.v 4)) (.idx (.v 2) (.bin .sub (.v 0) (.v 4))))) σ C).bind fun x C => .of (truthD x) C)
      (fun σ C => evSs cl (.cons (.asg (.v 5) (.bin .sub (.v 5) (.bin .mul (.idx (.v 2) (.v 4)) (.idx (.v 2) (.bin .sub (.v 0) (.v 4)))))) (.cons (.asg (.v 4) (.bin .add (.v 4) (.lit (.int 1)))) .nil)) σ C) t
      [.val (.int n), x1, .val (.lst (hvs (m + 1))), .emp, .val (.int j), .val (.int (p - pre n j))] C = .ok (.nx [.val (.int n), x1, .val (.lst (hvs (m + 1))), .emp, .val (.int k), .val (.int (p - pre n k))]) C
  | 0, j, r, _, _, h => by omega
  | t + 1, j, r, hr, hj, ht => by
    have h1 := hvs_at (m + 1) (j : Int) (by omega) (by omega)
    have h2 := hvs_at (m + 1) ((n : Int) - j) (by omega) (by omega)
    have e1 : ((j : Int)).toNat = j := by omega
    have e2 : ((n : Int) - j).toNat = n - j := by omega
    rw [e1] at h1
    rw [e2] at h2
    have hmul := mulOk_big (hv_nn (n := j) (by omega)) (hv_big (by omega)) (hv_nn (n := n - j) (by omega)) (hv_big (by omega))
    have hs := pre_succ (n := n) hj
    by_cases hr0 : r = 0
    · have hjk : j = k := by omega
      subst hjk
      have hlt : ¬ (hv j * hv (n - j) ≤ p - pre n j) := by omega
      simp [loopW, ev, R.bind, R.of, slotD, idxD, binD, cmpD, truthD, h1, h2, hmul, hlt]
    · obtain ⟨r', rfl⟩ : ∃ r', r = r' + 1 := ⟨r - 1, by omega⟩
      have hle : hv j * hv (n - j) ≤ p - pre n j := by
        have := pre_mono (n := n) (by omega) (k := j + 1) (j := k) (by omega) (by omega)
        omega
      have ih := nth_loop cl C m n hm hn k hk hkn p p0 p1 p2 x1 t (j + 1) r' (by omega) (by omega) (by omega)
      have e3 : p - pre n j - hv j * hv (n - j) = p - pre n (j + 1) := by omega
      have e4 : ((j : Int) + 1) = ((j + 1 : Nat) : Int) := by omega
      rw [← ih]
      simp [loopW, evSs, evS, ev, R.bind, R.of, slotD, idxD, binD, cmpD, truthD, bindT, h1, h2, hmul, hle, e3]
theorem fdiv_id {x y r : Int} (h1 : 0 ≤ r) (h2 : r < y) : (x * y + r) / y = x ∧ (x * y + r) % y = r := by
  have hy : y ≠ 0 := by omega
  constructor
  · rw [Int.add_comm, Int.add_mul_ediv_right _ _ hy, Int.ediv_eq_zero_of_lt h1 h2, Int.zero_add]
  · rw [Int.add_comm, Int.add_mul_emod_self_right, Int.emod_eq_of_lt h1 h2]
/-- nth_in -/
theorem nth_ok (C : Cells) (m : Nat) (hm : m ≤ 60) (s : Sh) : ∀ n : Nat, s.lv ≤ m → s.lv + 1 ≤ n → callD T (n + 1) 285 [.int s.lv, .int s.plc, .lst (hvs (m + 1))] C = .ok s.d C := by
  induction s with
  | lf =>
    intro n _ h
    refine call_rt (fd := f285) rfl rfl (ss_rt ?_)
    simp [f285, startS, evS, evSs, ev, evs, R.bind, R.of, slotD, Sh.d, cmpI, truthD, Sh.plc, Sh.lv]
  | nd a b iha ihb =>
    intro n hs h
    have ha := a.lv_pos
    have hb := b.lv_pos
    have h : a.lv + b.lv + 1 ≤ n := h
    have hs : a.lv + b.lv ≤ m := hs
    obtain ⟨k, rfl⟩ : ∃ k, n = k + 1 := ⟨n - 1, by omega⟩
    have i1 := iha k (by omega) (by omega)
    have i2 := ihb k (by omega) (by omega)
    obtain ⟨pa1, pa2⟩ := plc_bd a (by omega)
    obtain ⟨pb1, pb2⟩ := plc_bd b (by omega)
    obtain ⟨q1, q2⟩ := plc_step a b (by omega)
    have q0 := (plc_bd (.nd a b) (by show a.lv + b.lv ≤ 60; omega)).1
    have hl := nth_loop (callD T (k + 1)) C m (a.lv + b.lv) hm hs a.lv ha (by omega) _ q0 q1 q2 (.val (.int (Sh.nd a b).plc)) mostTurns 1 (a.lv - 1) (by omega) (by omega) (by unfold mostTurns; omega)
    have ep : pre (a.lv + b.lv) 1 = 0 := rfl
    rw [ep, Int.sub_zero] at hl
    have el : (Sh.nd a b).plc - pre (a.lv + b.lv) a.lv = a.plc * hv b.lv + b.plc := by
      show pre (a.lv + b.lv) a.lv + a.plc * hv b.lv + b.plc - pre (a.lv + b.lv) a.lv = _
      omega
    rw [el] at hl
    refine call_rt (fd := f285) rfl rfl ?_
    have es : startS f285.names.length [.int ((Sh.nd a b).lv : Nat), .int (Sh.nd a b).plc, .lst (hvs (m + 1))] = [.val (.int ((a.lv + b.lv : Nat) : Int)), .val (.int (Sh.nd a b).plc), .val (.lst (hvs (m + 1))), .emp, .emp, .emp] := rfl
    rw [es]
    have h2 := hvs_at (m + 1) (b.lv : Int) (by omega) (by omega)
    have e4 : ((b.lv : Int)).toNat = b.lv := by omega
    rw [e4] at h2
    have hp := hv_pos (n := b.lv) (by omega) (by omega)
    have hlg := log_big hp (hv_big (by omega))
    obtain ⟨d1, d2⟩ := fdiv_id (x := a.plc) pb1 pb2
    have e5 : (a.lv : Int) + b.lv - a.lv = b.lv := by omega
    have e6 : ¬ ((a.lv : Int) + b.lv = 1) := by omega
    refine ss_nx (C1 := C) (σ' := [.val (.int ((a.lv + b.lv : Nat) : Int)), .val (.int (Sh.nd a b).plc), .val (.lst (hvs (m + 1))), .emp, .emp, .emp]) ?_ (ss_nx (C1 := C) (σ' := [.val (.int ((a.lv + b.lv : Nat) : Int)), .val (.int (Sh.nd a b).plc), .val (.lst (hvs (m + 1))), .emp, .val (.int (1 : Nat)), .val (.int (Sh.nd a b).plc)]) ?_ (ss_nx (C1 := C) (σ' := [.val (.int ((a.lv + b.lv : Nat) : Int)), .val (.int (Sh.nd a b).plc), .val (.lst (hvs (m + 1))), .emp, .val (.int a.lv), .val (.int (a.plc * hv b.lv + b.plc))]) ?_ (ss_nx (C1 := C) (σ' := [.val (.int ((a.lv + b.lv : Nat) : Int)), .val (.int (Sh.nd a b).plc), .val (.lst (hvs (m + 1))), .val (.int (hv b.lv)), .val (.int a.lv), .val (.int (a.plc * hv b.lv + b.plc))]) ?_ (ss_rt ?_))))
    · simp [evS, evSs, ev, evs, R.bind, R.of, slotD, cmpI, truthD, e6]
    · simp [evS, ev, evs, R.bind, R.of, slotD, parS]
    · rw [evS]
      exact hl
    · simp [evS, ev, evs, R.bind, R.of, slotD, idxD, binD, e5, h2, bindT]
    · simp [evS, ev, evs, R.bind, R.of, slotD, binD, e5, hp, hlg, d1, d2, i1, i2, Sh.d]
end Mi

set_option Elab.async false
set_option linter.all false
set_option maxRecDepth 100000
set_option maxHeartbeats 4000000
namespace Mi
/-! ## Lists in the place of tuples -/
mutual
inductive Mx : D → D → Prop
  | int (i : Int) : Mx (.int i) (.int i)
  | str (s : List Nat) : Mx (.str s) (.str s)
  | tup {xs ys : List D} : Mxs xs ys → Mx (.tup xs) (.tup ys)
  | lst {xs ys : List D} : Mxs xs ys → Mx (.tup xs) (.lst ys)
inductive Mxs : List D → List D → Prop
  | nil : Mxs [] []
  | cons {d e : D} {ds es : List D} : Mx d e → Mxs ds es → Mxs (d :: ds) (e :: es)
end
theorem Mxs.len : ∀ {ds es : List D}, Mxs ds es → ds.length = es.length
  | _, _, .nil => rfl
  | _, _, .cons _ r => congrArg (· + 1) r.len
mutual
/-- tuples, ints, texts -/
def td : D → Bool
  | .int _ => true
  | .str _ => true
  | .tup xs => tds xs
  | _ => false
def tds : List D → Bool
  | [] => true
  | x :: xs => td x && tds xs
end
mutual
def szD : D → Nat
  | .tup xs => szDs xs + 1
  | _ => 0
def szDs : List D → Nat
  | [] => 0
  | x :: xs => szD x + szDs xs
end
abbrev upE : E := .call 1 (.cons (.v 1) .nil)
mutual
theorem tupled_ok (C : Cells) : ∀ {d e : D}, Mx d e → ∀ n : Nat, dep d ≤ n → szOk d = true → callD T (n + 1) 1 [e] C = .ok d C
  | _, _, .int i, n, _, _ => by
    refine call_rt (fd := f1) rfl rfl (ss_rt ?_)
    simp [f1, startS, evS, ev, evs, R.bind, R.of, slotD, truthD, tyD, tyOk]
  | _, _, .str s, n, _, _ => by
    refine call_rt (fd := f1) rfl rfl (ss_rt ?_)
    simp [f1, startS, evS, ev, evs, R.bind, R.of, slotD, truthD, tyD, tyOk]
  | _, _, @Mx.tup xs ys h, n, hd, hz => by
    have hd : deps xs + 1 ≤ n := hd
    obtain ⟨m, rfl⟩ : ∃ m, n = m + 1 := ⟨n - 1, by omega⟩
    simp only [szOk, Bool.and_eq_true, decide_eq_true_eq] at hz
    have hl := tupled_oks C h m (by omega) hz.2 (.tup ys)
    have he := ev_comp (cl := callD T (m + 1)) (it := .e (.v 0)) (xs := ys) (σ := [.val (.tup ys), .emp]) (C := C) rfl hl hz.1
    refine call_rt (fd := f1) rfl rfl (ss_rt ?_)
    have e2 := ev_bi1 (f := .tuple) he (d := .tup xs) rfl
    have e3 : ev (callD T (m + 1)) (.isi (.v 0) [.list, .tuple]) [.val (.tup ys), .emp] C = .ok (.bl true) C := rfl
    have es : startS f1.names.length [.tup ys] = [.val (.tup ys), .emp] := rfl
    rw [es]
    rw [evS, ev, e3]
    show (ev (callD T (m + 1)) (.bi .tuple _) _ C).bind _ = _
    rw [e2]
  | _, _, @Mx.lst xs ys h, n, hd, hz => by
    have hd : deps xs + 1 ≤ n := hd
    obtain ⟨m, rfl⟩ : ∃ m, n = m + 1 := ⟨n - 1, by omega⟩
    simp only [szOk, Bool.and_eq_true, decide_eq_true_eq] at hz
    have hl := tupled_oks C h m (by omega) hz.2 (.lst ys)
    have he := ev_comp (cl := callD T (m + 1)) (it := .e (.v 0)) (xs := ys) (σ := [.val (.lst ys), .emp]) (C := C) rfl hl hz.1
    refine call_rt (fd := f1) rfl rfl (ss_rt ?_)
    have e2 := ev_bi1 (f := .tuple) he (d := .tup xs) rfl
    have e3 : ev (callD T (m + 1)) (.isi (.v 0) [.list, .tuple]) [.val (.lst ys), .emp] C = .ok (.bl true) C := rfl
    have es : startS f1.names.length [.lst ys] = [.val (.lst ys), .emp] := rfl
    rw [es]
    rw [evS, ev, e3]
    show (ev (callD T (m + 1)) (.bi .tuple _) _ C).bind _ = _
    rw [e2]
theorem tupled_oks (C : Cells) : ∀ {ds es : List D}, Mxs ds es → ∀ n : Nat, deps ds ≤ n → szOks ds = true → ∀ x0 : D, loopC (cmF (callD T (n + 1)) upE (.v 1) .no [.val x0, .emp]) es C = .ok ds C
  | _, _, .nil, n, _, _, x0 => rfl
  | _, _, @Mxs.cons d e ds es h r, n, hd, hz, x0 => by
    simp only [deps] at hd
    simp only [szOks, Bool.and_eq_true] at hz
    have i1 := tupled_ok C h n (by omega) hz.1
    have i2 := tupled_oks C r n (by omega) hz.2 x0
    have e1 : cmF (callD T (n + 1)) upE (.v 1) .no [.val x0, .emp] e C = .ok [d] C := by
      simp [cmF, bindT, wipeS, Tg.vars, evc, ev, evs, R.bind, R.of, slotD, i1]
    show (cmF _ _ _ _ _ e C).bind _ = _
    rw [e1]
    show (loopC _ es C).bind _ = _
    rw [i2]
    rfl
end
abbrev mxE : E := .call 23 (.cons (.v 0) (.cons (.v 3) .nil))
mutual
theorem mixed_ok : ∀ (d : D) (n k : Nat) (C : Cells), td d = true → szOk d = true → dep d ≤ n → Dr (szD d + k) C → ∃ e C', callD T (n + 1) 23 [.cell, d] C = .ok e C' ∧ Mx d e ∧ Dr k C'
  | .int i, n, k, C, _, _, _, hk => by
    refine ⟨.int i, C, ?_, .int i, hk.mono (by omega)⟩
    refine call_rt (fd := f23) rfl rfl (ss_rt ?_)
    simp [f23, startS, evS, evSs, ev, evs, R.bind, R.of, slotD, truthD, tyD, tyOk]
  | .str i, n, k, C, _, _, _, hk => by
    refine ⟨.str i, C, ?_, .str i, hk.mono (by omega)⟩
    refine call_rt (fd := f23) rfl rfl (ss_rt ?_)
    simp [f23, startS, evS, evSs, ev, evs, R.bind, R.of, slotD, truthD, tyD, tyOk]
  | .tup xs, n, k, C, ht, hz, hd, hk => by
    have hd : deps xs + 1 ≤ n := hd
    obtain ⟨m, rfl⟩ : ∃ m, n = m + 1 := ⟨n - 1, by omega⟩
    simp only [szOk, Bool.and_eq_true, decide_eq_true_eq] at hz
    obtain ⟨ys, C1, h1, h2, h3⟩ := mixed_oks xs m (k + 1) C ht hz.2 (by omega) (hk.mono (by simp only [szD]; omega)) (.tup xs)
    obtain ⟨r, C2, g1, g2, g3, g4⟩ := take_dr m 2 (by omega) (by omega) h3
    have he := ev_comp (cl := callD T (m + 1)) (it := .e (.v 1)) (xs := xs) (σ := [.val .cell, .val (.tup xs), .emp, .emp]) (C := C) rfl h1 (by rw [← h2.len]; exact hz.1)
    have hb : ∀ y, (if r = 0 then D.lst ys else .tup ys) = y → callD T (m + 2) 23 [.cell, .tup xs] C = .ok y C2 := fun y hy => by
      refine call_rt (fd := f23) rfl rfl (ss_nx (C1 := C) (σ' := [.val .cell, .val (.tup xs), .emp, .emp]) ?_ (ss_nx (C1 := C1) (σ' := [.val .cell, .val (.tup xs), .val (.lst ys), .emp]) ?_ (ss_rt ?_)))
      · simp [startS, f23, evS, evSs, ev, evs, R.bind, R.of, slotD, truthD, tyD, tyOk]
      · rw [evS, he]
        rfl
      · subst hy
        by_cases hr : r = 0
        · simp [evS, ev, evs, R.bind, R.of, slotD, truthD, cmpI, g1, hr]
        · simp [evS, ev, evs, R.bind, R.of, slotD, truthD, cmpI, g1, hr, biD]
    by_cases hr : r = 0
    · exact ⟨.lst ys, C2, hb _ (if_pos hr), .lst h2, g4⟩
    · exact ⟨.tup ys, C2, hb _ (if_neg hr), .tup h2, g4⟩
  | .non, _, _, _, h, _, _, _ => by cases h
  | .bl _, _, _, _, h, _, _, _ => by cases h
  | .lst _, _, _, _, h, _, _, _ => by cases h
  | .dct _ _ _, _, _, _, h, _, _, _ => by cases h
  | .fn _, _, _, _, h, _, _, _ => by cases h
  | .cell, _, _, _, h, _, _, _ => by cases h
  | .frl _, _, _, _, h, _, _, _ => by cases h
  | .frt _, _, _, _, h, _, _, _ => by cases h
  | .frd _ _, _, _, _, h, _, _, _ => by cases h
theorem mixed_oks : ∀ (ds : List D) (n k : Nat) (C : Cells), tds ds = true → szOks ds = true → deps ds ≤ n → Dr (szDs ds + k) C → ∀ x1 : D, ∃ es C', loopC (cmF (callD T (n + 1)) mxE (.v 3) .no [.val .cell, .val x1, .emp, .emp]) ds C = .ok es C' ∧ Mxs ds es ∧ Dr k C'
  | [], n, k, C, _, _, _, hk, x1 => ⟨[], C, rfl, .nil, hk.mono (by omega)⟩
  | d :: ds, n, k, C, ht, hz, hd, hk, x1 => by
    simp only [deps] at hd
    simp only [tds, Bool.and_eq_true] at ht
    simp only [szOks, Bool.and_eq_true] at hz
    obtain ⟨e, C1, a1, a2, a3⟩ := mixed_ok d n (szDs ds + k) C ht.1 hz.1 (by omega) (hk.mono (by simp only [szDs]; omega))
    obtain ⟨es, C2, b1, b2, b3⟩ := mixed_oks ds n k C1 ht.2 hz.2 (by omega) a3 x1
    refine ⟨e :: es, C2, ?_, .cons a2 b2, b3⟩
    have e1 : cmF (callD T (n + 1)) mxE (.v 3) .no [.val .cell, .val x1, .emp, .emp] d C = .ok [e] C1 := by
      simp [cmF, bindT, wipeS, Tg.vars, evc, ev, evs, R.bind, R.of, slotD, a1]
    show (cmF _ _ _ _ _ d C).bind _ = _
    rw [e1]
    show (loopC _ ds C1).bind _ = _
    rw [b1]
    rfl
end
end Mi

set_option Elab.async false
set_option linter.all false
set_option maxRecDepth 100000
set_option maxHeartbeats 4000000
namespace Mi
theorem call_ex {T : Nat → Option FDef} {n f : Nat} {fd : FDef} {xs : List D} {C C' : Cells} {c : Nat} {a : Option D} (h : T f = some fd) (hl : xs.length = fd.params) (hm : fd.mute = false) (hs : evSs (callD T n) fd.body (startS fd.names.length xs) C = .ex c a C') : callD T (n + 1) f xs C = .ex c a C' := by
  simp only [callD, h, runF, if_pos hl, hs, hm]
  rfl
theorem tdS : ∀ s : Sh, td s.d = true
  | .lf => rfl
  | .nd a b => by simp only [Sh.d, td, tds, tdS a, tdS b, Bool.and_self]
theorem szS : ∀ s : Sh, szOk s.d = true
  | .lf => rfl
  | .nd a b => by
    have : ([a.d, b.d] : List D).length ≤ sizeMost := by show 2 ≤ sizeMost; unfold sizeMost; omega
    simp only [Sh.d, szOk, szOks, szS a, szS b, Bool.and_self, decide_eq_true this]
theorem szD_S : ∀ s : Sh, szD s.d + 1 = 2 * s.lv
  | .lf => rfl
  | .nd a b => by
    have := szD_S a
    have := szD_S b
    simp only [Sh.d, szD, szDs, Sh.lv]
    omega
mutual
theorem mx_refl : ∀ d : D, td d = true → Mx d d
  | .int i, _ => .int i
  | .str i, _ => .str i
  | .tup xs, h => .tup (mxs_refl xs h)
  | .non, h => by cases h
  | .bl _, h => by cases h
  | .lst _, h => by cases h
  | .dct _ _ _, h => by cases h
  | .fn _, h => by cases h
  | .cell, h => by cases h
  | .frl _, h => by cases h
  | .frt _, h => by cases h
  | .frd _ _, h => by cases h
theorem mxs_refl : ∀ ds : List D, tds ds = true → Mxs ds ds
  | [], _ => .nil
  | d :: ds, h => by
    simp only [tds, Bool.and_eq_true] at h
    exact .cons (mx_refl d h.1) (mxs_refl ds h.2)
end
theorem cmpGt (i j : Int) : cmpD .gt (.int i) (.int j) = some (.bl (decide (j < i))) := rfl
theorem cmpLt (i j : Int) : cmpD .lt (.int i) (.int j) = some (.bl (decide (i < j))) := rfl
theorem cmpGe (i j : Int) : cmpD .ge (.int i) (.int j) = some (.bl (decide (j ≤ i))) := rfl
theorem cmpLe (i j : Int) : cmpD .le (.int i) (.int j) = some (.bl (decide (i ≤ j))) := rfl
/-- sure_shape -/
theorem sureS_ok (C : Cells) (s : Sh) {e : D} (h : Mx s.d e) (n : Nat) (hl : s.lv ≤ 60) (hn : s.lv + 1 ≤ n) : callD T (n + 1) 264 [e] C = .ok s.d C := by
  obtain ⟨k, rfl⟩ : ∃ k, n = k + 1 := ⟨n - 1, by omega⟩
  have i1 := tupled_ok C h k (by have := depS s; omega) (szS s)
  have i2 := isshape_ok C s k (by omega)
  have i3 := leaves_ok C s k (by omega)
  have hlt : ¬ (60 : Int) < s.lv := by omega
  refine call_rt (fd := f264) rfl rfl (ss_nx (C1 := C) (σ' := [.val e, .val s.d]) ?_ ?_)
  · simp [startS, f264, evS, ev, evs, R.bind, R.of, slotD, i1, bindT]
  · simp [evSs, evS, ev, evs, evOr, R.bind, R.of, slotD, i2, i3, truthD, cmpGt, hlt]
/-- shape_place -/
theorem splace_ok (C : Cells) (s : Sh) {e : D} (h : Mx s.d e) (n : Nat) (hl : s.lv ≤ 60) (hn : s.lv + 3 ≤ n) : callD T (n + 1) 291 [e] C = .ok (.int s.plc) C := by
  obtain ⟨k, rfl⟩ : ∃ k, n = k + 1 := ⟨n - 1, by omega⟩
  have i1 := sureS_ok C s h k hl (by omega)
  have i2 := leaves_ok C s k (by omega)
  have i3 := counts_ok k s.lv C s.lv_pos (by omega)
  have i4 := place_ok C s.lv hl s k (Nat.le_refl _) (by omega)
  refine call_rt (fd := f291) rfl rfl (ss_nx (C1 := C) (σ' := [.val e, .val s.d]) ?_ (ss_rt ?_))
  · simp [startS, f291, evS, ev, evs, R.bind, R.of, slotD, i1, bindT]
  · simp [evS, ev, evs, R.bind, R.of, slotD, i2, i3, i4]
/-- shape_number -/
theorem snum_ok (C : Cells) (s : Sh) {e : D} (h : Mx s.d e) (n : Nat) (hl : s.lv ≤ 60) (hn : s.lv + 2 ≤ n) : callD T (n + 1) 274 [e] C = .ok (.int s.num) C := by
  obtain ⟨k, rfl⟩ : ∃ k, n = k + 1 := ⟨n - 1, by omega⟩
  have i1 := sureS_ok C s h k hl (by omega)
  have i2 := numS_ok C s k (by omega)
  refine call_rt (fd := f274) rfl rfl (ss_rt ?_)
  simp [startS, f274, evS, ev, evs, R.bind, R.of, slotD, i1, i2]
theorem iss_ok (C : Cells) (s : Sh) (n : Nat) (hn : s.lv + 1 ≤ n) : callD T (n + 1) 293 [s.d] C = .ok (.bl true) C := by
  obtain ⟨k, rfl⟩ : ∃ k, n = k + 1 := ⟨n - 1, by omega⟩
  have i2 := isshape_ok C s k (by omega)
  refine call_rt (fd := f293) rfl rfl (ss_rt ?_)
  simp [startS, f293, evS, ev, evs, R.bind, R.of, slotD, i2]
/-- nth_shape -/
theorem snth_gen (m : Nat) (C : Cells) (a p h : Int) (L : List D) (d : D) (i1 : callD T m 123 [.int a, .int 1, .int 60] C = .ok (.int a) C) (i3 : callD T m 265 [.int a] C = .ok (.lst L) C) (hL : atD L a = some (.int h)) (n1 : ¬ p < 0) (n2 : ¬ h ≤ p) (i4 : callD T m 285 [.int a, .int p, .lst L] C = .ok d C) : callD T (m + 1) 292 [.int a, .int p] C = .ok d C := by
  refine call_rt (fd := f292) rfl rfl (ss_nx (C1 := C) (σ' := [.val (.int a), .val (.int p), .val (.int a), .emp]) ?_ (ss_nx (C1 := C) (σ' := [.val (.int a), .val (.int p), .val (.int a), .val (.lst L)]) ?_ ?_))
  · simp [startS, f292, evS, ev, evs, R.bind, R.of, slotD, i1, bindT]
  · simp [evS, ev, evs, R.bind, R.of, slotD, i3, bindT]
  · simp [evSs, evS, ev, evs, evOr, R.bind, R.of, slotD, truthD, tyD, tyOk, cmpLt, cmpGe, n1, ixL, hL, n2, i4]
theorem snth_genx (m : Nat) (C : Cells) (a p : Int) (L : List D) (i1 : callD T m 123 [.int a, .int 1, .int 60] C = .ok (.int a) C) (i3 : callD T m 265 [.int a] C = .ok (.lst L) C) (hL : atD L a = some (.int p)) (n1 : ¬ p < 0) : callD T (m + 1) 292 [.int a, .int p] C = .ex 2 none C := by
  refine call_ex (fd := f292) rfl rfl rfl (ss_nx (C1 := C) (σ' := [.val (.int a), .val (.int p), .val (.int a), .emp]) ?_ (ss_nx (C1 := C) (σ' := [.val (.int a), .val (.int p), .val (.int a), .val (.lst L)]) ?_ ?_))
  · simp [startS, f292, evS, ev, evs, R.bind, R.of, slotD, i1, bindT]
  · simp [evS, ev, evs, R.bind, R.of, slotD, i3, bindT]
  · simp [evSs, evS, ev, evs, evOr, R.bind, R.of, slotD, truthD, tyD, tyOk, cmpLt, cmpGe, n1, ixL, hL]
theorem snth_ok (C : Cells) (s : Sh) (n : Nat) (hl : s.lv ≤ 60) (hn : s.lv + 3 ≤ n) : callD T (n + 1) 292 [.int s.lv, .int s.plc] C = .ok s.d C := by
  obtain ⟨k, rfl⟩ : ∃ k, n = k + 3 := ⟨n - 3, by omega⟩
  have hp := s.lv_pos
  obtain ⟨p1, p2⟩ := plc_bd s hl
  have h2 := hvs_at (s.lv + 1) (s.lv : Int) (by omega) (by omega)
  have e4 : ((s.lv : Int)).toNat = s.lv := by omega
  rw [e4] at h2
  exact snth_gen (k + 3) C _ _ _ _ _ (within_ok k C s.lv 1 60 (by omega) (by omega)) (counts_ok (k + 2) s.lv C hp (by omega)) h2 (by omega) (by omega) (nth_ok C s.lv hl s (k + 2) (Nat.le_refl _) (by omega))
/-- .. behind the last place -/
theorem snth_ex (C : Cells) (m : Nat) (n : Nat) (h1 : 1 ≤ m) (hl : m ≤ 60) (hn : 3 ≤ n) : callD T (n + 1) 292 [.int m, .int (hv m)] C = .ex 2 none C := by
  obtain ⟨k, rfl⟩ : ∃ k, n = k + 3 := ⟨n - 3, by omega⟩
  have h2 := hvs_at (m + 1) (m : Int) (by omega) (by omega)
  have e4 : ((m : Int)).toNat = m := by omega
  rw [e4] at h2
  exact snth_genx (k + 3) C _ _ _ (within_ok k C m 1 60 (by omega) (by omega)) (counts_ok (k + 2) m C h1 (by omega)) h2 (by have := hv_nn hl; omega)
theorem heard_gen (k : Nat) (C : Cells) (a p : Int) (i1 : callD T k 292 [.int a, .int p] C = .ex 2 none C) : callD T (k + 3) 86 [.fn 292, .tup [.int a, .int p]] C = .ok (.lst [.str [99, 97, 110, 32, 110, 111, 116], .bl true]) C := by
  have i2 : callD T (k + 1) 72 [.fn 292, .tup [.int a, .int p]] C = .ex 2 none C := by
    refine call_ex (fd := f72) rfl rfl rfl ?_
    simp [startS, f72, evSs, evS, ev, evs, R.bind, R.of, slotD, biD, cmpI, truthD, ix20, ix21, i1]
  have i3 : callD T (k + 2) 70 [.fn 292, .tup [.int a, .int p]] C = .ok (.str [99, 97, 110, 32, 110, 111, 116]) C := by
    refine call_rt (fd := f70) rfl rfl (ss_rt ?_)
    have e : evs (callD T (k + 1)) (.cons (.v 0) (.cons (.v 1) .nil)) (startS f70.names.length [.fn 292, .tup [.int a, .int p]]) C = .ok [.fn 292, .tup [.int a, .int p]] C := rfl
    rw [evS, e]
    show slipR _ (callD T (k + 1) 72 [.fn 292, .tup [.int a, .int p]] C) = _
    rw [i2]
    rfl
  refine call_rt (fd := f86) rfl rfl (ss_nx (C1 := C) (σ' := [.val (.fn 292), .val (.tup [.int a, .int p]), .val (.str [99, 97, 110, 32, 110, 111, 116])]) ?_ (ss_rt ?_))
  · simp [startS, f86, evS, ev, evs, R.bind, R.of, slotD, i3, bindT]
  · have e : cmpD .isin (.str [99, 97, 110, 32, 110, 111, 116]) (.tup [.str [117, 110, 102, 105, 116], .str [99, 97, 110, 32, 110, 111, 116], .str [109, 97, 110, 121], .str [111, 100, 100]]) = some (.bl true) := rfl
    simp [evS, ev, evs, R.bind, R.of, slotD, e, truthD]
theorem heard_ex (C : Cells) (m : Nat) (n : Nat) (h1 : 1 ≤ m) (hl : m ≤ 60) (hn : 6 ≤ n) : callD T (n + 1) 86 [.fn 292, .tup [.int m, .int (hv m)]] C = .ok (.lst [.str [99, 97, 110, 32, 110, 111, 116], .bl true]) C := by
  obtain ⟨k, rfl⟩ : ∃ k, n = k + 3 := ⟨n - 3, by omega⟩
  exact heard_gen (k + 1) C _ _ (snth_ex C m k h1 hl (by omega))
end Mi

set_option Elab.async false
set_option linter.all false
set_option maxRecDepth 100000
set_option maxHeartbeats 4000000
namespace Mi
/-! ## _law_before -/
theorem sg_self (s : Sh) : sg s s = 0 := by unfold sg; rw [if_neg (by omega), if_neg (by omega)]
theorem sg_far {a b c e : Sh} (h : a.lv + b.lv ≤ 60) (hl : a.lv + b.lv = c.lv + e.lv) (hc : a.lv ≠ c.lv) : sg (.nd a b) (.nd c e) = if (a.lv : Int) < c.lv then -1 else 1 := by
  unfold sg
  by_cases q : a.lv < c.lv
  · rw [if_pos (plc_far h hl q), if_pos (by omega)]
  · have := plc_far (a := c) (b := e) (c := a) (e := b) (by omega) hl.symm (by omega)
    rw [if_neg (by omega), if_pos this, if_neg (by omega)]
theorem sg_near {a b c e : Sh} (h : a.lv + b.lv ≤ 60) (hl : a.lv + b.lv = c.lv + e.lv) (hc : a.lv = c.lv) (hn : a ≠ c) : sg (.nd a b) (.nd c e) = sg a c := by
  have hb := b.lv_pos
  unfold sg
  rcases Int.lt_trichotomy a.plc c.plc with q | q | q
  · rw [if_pos (plc_near h hl hc q), if_pos q]
  · exact absurd (plc_inj a c hc (by omega) q) hn
  · have := plc_near (a := c) (b := e) (c := a) (e := b) (by omega) hl.symm hc.symm q
    rw [if_neg (by omega), if_pos this, if_neg (by omega), if_pos q]
theorem sg_last {a b e : Sh} (hl : b.lv = e.lv) (hb : b.lv ≤ 60) (hn : b ≠ e) : sg (.nd a b) (.nd a e) = sg b e := by
  unfold sg
  rcases Int.lt_trichotomy b.plc e.plc with q | q | q
  · rw [if_pos (plc_last (a := a) hl q), if_pos q]
  · exact absurd (plc_inj b e hl hb q) hn
  · have := plc_last (a := a) (b := e) (e := b) hl.symm q
    rw [if_neg (by omega), if_pos this, if_neg (by omega), if_pos q]
theorem bef_eq (m : Nat) (C : Cells) (x y : D) (h : cmpD .eq x y = some (.bl true)) : callD T (m + 1) 288 [x, y] C = .ok (.int 0) C := by
  refine call_rt (fd := f288) rfl rfl (ss_rt ?_)
  simp [startS, f288, evSs, evS, ev, evs, R.bind, R.of, slotD, truthD, h]
theorem bef_far (m : Nat) (C : Cells) (x y a b : D) (i j : Int) (h : cmpD .eq x y = some (.bl false)) (h1 : idxD C x (.int 0) = some a) (h2 : idxD C y (.int 0) = some b) (l1 : callD T m 287 [a] C = .ok (.int i) C) (l2 : callD T m 287 [b] C = .ok (.int j) C) (hn : i ≠ j) : callD T (m + 1) 288 [x, y] C = .ok (.int (if i < j then -1 else 1)) C := by
  refine call_rt (fd := f288) rfl rfl (ss_nx (C1 := C) (σ' := [.val x, .val y, .emp, .emp]) ?_ (ss_nx (C1 := C) (σ' := [.val x, .val y, .val (.int i), .val (.int j)]) ?_ (ss_rt ?_)))
  · simp [startS, f288, evSs, evS, ev, evs, R.bind, R.of, slotD, truthD, h]
  · simp [evS, ev, evs, R.bind, R.of, slotD, h1, h2, l1, l2, parS]
  · by_cases q : i < j
    · simp [evSs, evS, ev, evs, R.bind, R.of, slotD, truthD, cmpIn, cmpLt, hn, q, intD]
    · simp [evSs, evS, ev, evs, R.bind, R.of, slotD, truthD, cmpIn, cmpLt, hn, q]
theorem bef_near (m : Nat) (C : Cells) (x y a b a2 b2 : D) (i : Int) (ne : Bool) (r : Int) (h : cmpD .eq x y = some (.bl false)) (h1 : idxD C x (.int 0) = some a) (h2 : idxD C y (.int 0) = some b) (h3 : idxD C x (.int 1) = some a2) (h4 : idxD C y (.int 1) = some b2) (l1 : callD T m 287 [a] C = .ok (.int i) C) (l2 : callD T m 287 [b] C = .ok (.int i) C)
    (hn : cmpD .ne a b = some (.bl ne)) (hr : (if ne = true then callD T m 288 [a, b] C else callD T m 288 [a2, b2] C) = .ok (.int r) C) : callD T (m + 1) 288 [x, y] C = .ok (.int r) C := by
  refine call_rt (fd := f288) rfl rfl (ss_nx (C1 := C) (σ' := [.val x, .val y, .emp, .emp]) ?_ (ss_nx (C1 := C) (σ' := [.val x, .val y, .val (.int i), .val (.int i)]) ?_ (ss_nx (C1 := C) (σ' := [.val x, .val y, .val (.int i), .val (.int i)]) ?_ (ss_rt ?_))))
  · simp [startS, f288, evSs, evS, ev, evs, R.bind, R.of, slotD, truthD, h]
  · simp [evS, ev, evs, R.bind, R.of, slotD, h1, h2, l1, l2, parS]
  · simp [evSs, evS, ev, evs, R.bind, R.of, slotD, truthD, cmpIn]
  · cases ne with
    | true =>
      have hr : callD T m 288 [a, b] C = .ok (.int r) C := hr
      simp [evS, ev, evs, R.bind, R.of, slotD, truthD, h1, h2, h3, h4, hn, hr]
    | false =>
      have hr : callD T m 288 [a2, b2] C = .ok (.int r) C := hr
      simp [evS, ev, evs, R.bind, R.of, slotD, truthD, h1, h2, h3, h4, hn, hr]
theorem before_ok (C : Cells) (s : Sh) : ∀ (t : Sh) (n : Nat), s.lv = t.lv → s.lv ≤ 60 → s.lv ≤ n → callD T (n + 1) 288 [s.d, t.d] C = .ok (.int (sg s t)) C := by
  induction s with
  | lf =>
    intro t n hl _ _
    cases t with
    | lf => rw [sg_self]; exact bef_eq n C _ _ rfl
    | nd c e =>
      have := c.lv_pos
      have := e.lv_pos
      have hl : 1 = c.lv + e.lv := hl
      omega
  | nd a b iha ihb =>
    intro t n hl hm hn
    have ha := a.lv_pos
    have hb := b.lv_pos
    have hm : a.lv + b.lv ≤ 60 := hm
    have hn : a.lv + b.lv ≤ n := hn
    by_cases e : Sh.nd a b = t
    · subst e
      rw [sg_self]
      exact bef_eq n C _ _ (by rw [cmpS (by show a.lv + b.lv ≤ 200; omega)]; simp)
    · have hc : cmpD .eq (Sh.nd a b).d t.d = some (.bl false) := by rw [cmpS (by show a.lv + b.lv ≤ 200; omega)]; simp [e]
      cases t with
      | lf =>
        have hl : a.lv + b.lv = 1 := hl
        omega
      | nd c g =>
        have hl : a.lv + b.lv = c.lv + g.lv := hl
        have hg := g.lv_pos
        have hc0 := c.lv_pos
        obtain ⟨k, rfl⟩ : ∃ k, n = k + 1 := ⟨n - 1, by omega⟩
        have l1 := lleaves_ok C a k (by omega)
        have l2 := lleaves_ok C c k (by omega)
        by_cases q : a.lv = c.lv
        · rw [← q] at l2
          refine bef_near (k + 1) C _ _ a.d c.d b.d g.d a.lv (!decide (a = c)) _ hc rfl rfl rfl rfl l1 l2 (cmpSn (by omega)) ?_
          by_cases e2 : a = c
          · subst e2
            have e3 : b ≠ g := fun z => e (by rw [z])
            rw [sg_last (by omega) (by omega) e3]
            simp only [decide_true, Bool.not_true, Bool.false_eq_true, if_false]
            exact ihb g k (by omega) (by omega) (by omega)
          · rw [sg_near hm hl q e2]
            simp only [e2, decide_false, Bool.not_false, if_true]
            exact iha c k q (by omega) (by omega)
        · rw [sg_far hm hl q]
          exact bef_far (k + 1) C _ _ a.d c.d _ _ hc rfl rfl l1 l2 (by omega)
/-! ## _law_shape -/
theorem shp_1 (m : Nat) (C : Cells) : callD T (m + 1) 289 [.cell, .int 1] C = .ok (.tup []) C := by
  refine call_rt (fd := f289) rfl rfl (ss_rt ?_)
  simp [startS, f289, evSs, evS, ev, evs, R.bind, R.of, slotD, truthD, cmpI]
theorem shp_n (m : Nat) (C C1 C2 C3 : Cells) (n r : Int) (x y : D) (h : n ≠ 1) (h1 : callD T m 22 [.cell, .int (n - 1)] C = .ok (.int r) C1) (h2 : callD T m 289 [.cell, .int (1 + r)] C1 = .ok x C2) (h3 : callD T m 289 [.cell, .int (n - (1 + r))] C2 = .ok y C3) : callD T (m + 1) 289 [.cell, .int n] C = .ok (.tup [x, y]) C3 := by
  refine call_rt (fd := f289) rfl rfl (ss_nx (C1 := C) (σ' := [.val .cell, .val (.int n), .emp]) ?_ (ss_nx (C1 := C1) (σ' := [.val .cell, .val (.int n), .val (.int (1 + r))]) ?_ (ss_rt ?_)))
  · simp [startS, f289, evSs, evS, ev, evs, R.bind, R.of, slotD, truthD, cmpI, h]
  · simp [evS, ev, evs, R.bind, R.of, slotD, binD, h1, bindT]
  · simp [evS, ev, evs, R.bind, R.of, slotD, binD, h2, h3]
theorem shape_dr (n : Nat) : ∀ (m k : Nat) (C : Cells), 1 ≤ n → n < 1000 → n ≤ m → Dr (n - 1 + k) C → ∃ (s : Sh) (C' : Cells), callD T (m + 1) 289 [.cell, .int n] C = .ok s.d C' ∧ s.lv = n ∧ Dr k C' := by
  induction n using Nat.strongRecOn with
  | _ n ih =>
    intro m k C h1 hb hm hk
    by_cases e : n = 1
    · subst e
      exact ⟨.lf, C, shp_1 m C, rfl, hk.mono (by omega)⟩
    · obtain ⟨m, rfl⟩ : ∃ m', m = m' + 1 := ⟨m - 1, by omega⟩
      obtain ⟨r, C1, g1, g2, g3, g4⟩ := take_dr m (k := n - 2 + k) ((n : Int) - 1) (by omega) (by omega) (hk.mono (by omega))
      obtain ⟨a, C2, a1, a2, a3⟩ := ih (1 + r.toNat) (by omega) m (n - (1 + r.toNat) - 1 + k) C1 (by omega) (by omega) (by omega) (g4.mono (by omega))
      obtain ⟨b, C3, b1, b2, b3⟩ := ih (n - (1 + r.toNat)) (by omega) m k C2 (by omega) (by omega) (by omega) a3
      have e1 : ((1 + r.toNat : Nat) : Int) = 1 + r := by omega
      have e2 : ((n - (1 + r.toNat) : Nat) : Int) = (n : Int) - (1 + r) := by omega
      rw [e1] at a1
      rw [e2] at b1
      exact ⟨.nd a b, C3, shp_n (m + 1) C C1 C2 C3 n r _ _ (by omega) g1 a1 b1, by show a.lv + b.lv = n; omega, b3⟩
end Mi

set_option Elab.async false
set_option linter.all false
set_option maxRecDepth 100000
set_option maxHeartbeats 4000000
namespace Mi
/-! ## Trees -/
inductive Tr where
  | leaf (d : D) | turn (t : Tr) | fork (g : List Nat) (a b : Tr)
namespace Tr
def d : Tr → D
  | .leaf x => x
  | .turn t => .tup [.str [45], t.d]
  | .fork g a b => .tup [.str g, a.d, b.d]
def kids : Tr → List Tr
  | .leaf _ => []
  | .turn t => [t]
  | .fork _ a b => [a, b]
def size : Tr → Nat
  | .leaf _ => 1
  | .turn t => t.size + 1
  | .fork _ a b => a.size + b.size + 1
def dep : Tr → Nat
  | .leaf _ => 0
  | .turn t => t.dep + 1
  | .fork _ a b => max a.dep b.dep + 1
def lfOk (x : D) : Prop := (∃ i : Int, x = .int i ∧ 0 ≤ i ∧ i ≤ 1000000000) ∨ x ∈ [D.str [97], .str [98], .str [99], .str [120, 49], .str [108, 111, 110, 103, 110, 97, 109, 101], .str [100]]
def ok : Tr → Prop
  | .leaf x => lfOk x
  | .turn t => t.ok
  | .fork g a b => g ∈ [[43], [45], [42]] ∧ a.ok ∧ b.ok
def bare : Tr → Sh
  | .leaf _ => .lf
  | .turn t => t.bare
  | .fork _ a b => .nd a.bare b.bare
end Tr
open Tr (lfOk)
theorem loopC_mp {α : Type} {f : D → Cells → R (List D)} {dd : α → D} {g : α → D} {C : Cells} : ∀ {l : List α}, (∀ x ∈ l, f (dd x) C = .ok [g x] C) → loopC f (l.map dd) C = .ok (l.map g) C
  | [], _ => rfl
  | x :: xs, h => by
    have ih := loopC_mp (l := xs) fun y hy => h y (List.mem_cons_of_mem _ hy)
    show (f (dd x) C).bind _ = _
    rw [h x List.mem_cons_self]
    show (loopC f (xs.map dd) C).bind _ = _
    rw [ih]
    rfl
theorem evi_e {cl : Call} {e : E} {σ : List Sl} {C C1 : Cells} {x : D} {xs : List D} (h : ev cl e σ C = .ok x C1) (hx : itemsD x = some xs) : evi cl (.e e) σ C = .ok xs C1 := by
  simp only [evi, h, R.bind, hx, R.of]
theorem kids_len (t : Tr) : t.kids.length ≤ 2 := by cases t <;> simp [Tr.kids]
theorem ev_kids {cl : Call} {e es : E} {tg : Tg} {σ : List Sl} {C : Cells} {t : Tr} (F : Tr → D) (h1 : ev cl es σ C = .ok (.tup (t.kids.map Tr.d)) C) (h2 : ∀ y ∈ t.kids, cmF cl e tg .no σ y.d C = .ok [F y] C) : ev cl (.comp e (.mk tg (.e es) .no)) σ C = .ok (.lst (t.kids.map F)) C :=
  ev_comp (evi_e h1 rfl) (loopC_mp h2) (by rw [List.length_map]; have := kids_len t; unfold sizeMost; omega)
/-- what is a leaf -/
theorem lf_cases {x : D} (h : lfOk x) : (∃ i : Int, x = .int i ∧ 0 ≤ i ∧ i ≤ 1000000000) ∨ x = .str [97] ∨ x = .str [98] ∨ x = .str [99] ∨ x = .str [120, 49] ∨ x = .str [108, 111, 110, 103, 110, 97, 109, 101] ∨ x = .str [100] := by
  rcases h with h | h
  · exact .inl h
  · exact .inr (by simpa using h)
theorem sides_lf (C : Cells) {x : D} (h : lfOk x) (n : Nat) : callD T (n + 1) 8 [x] C = .ok (.tup []) C ∧ callD T (n + 1) 28 [x] C = .ok (.tup []) C := by
  rcases lf_cases h with ⟨i, rfl, _, _⟩ | rfl | rfl | rfl | rfl | rfl | rfl <;> exact ⟨rfl, rfl⟩
theorem sides_ok (C : Cells) (t : Tr) (h : t.ok) (n : Nat) : callD T (n + 1) 8 [t.d] C = .ok (.tup (t.kids.map Tr.d)) C ∧ callD T (n + 1) 28 [t.d] C = .ok (.tup (t.kids.map Tr.d)) C := by
  cases t with
  | leaf x => exact sides_lf C h n
  | turn t => exact ⟨rfl, rfl⟩
  | fork g a b => exact ⟨rfl, rfl⟩
theorem isleaf_lf (C : Cells) {x : D} (h : lfOk x) (n : Nat) : callD T (n + 4) 4 [x] C = .ok (.bl true) C := by
  rcases lf_cases h with ⟨i, rfl, h1, h2⟩ | rfl | rfl | rfl | rfl | rfl | rfl
  · have h3 : callD T (n + 3) 2 [.int i, .int 0, .int 1000000000] C = .ok (.bl true) C := by
      simp [callD, runF, hush, T, f2, f0, evSs, evS, ev, evs, evAnd, R.bind, R.of, startS, slotD, truthD, tyD, tyOk, cmpLe, cmpD, h1, h2]
    refine call_rt (fd := f4) rfl rfl (ss_rt ?_)
    simp [startS, f4, evS, ev, evs, evOr, R.bind, R.of, slotD, truthD, h3]
  all_goals rfl
theorem isleaf_tup (C : Cells) (xs : List D) (n : Nat) : callD T (n + 4) 4 [.tup xs] C = .ok (.bl false) C := rfl
theorem issign_ok (C : Cells) {g : List Nat} (h : g ∈ [[43], [45], [42]]) (n : Nat) : callD T (n + 1) 7 [.str g] C = .ok (.bl true) C := by
  simp only [List.mem_cons, List.not_mem_nil, or_false] at h
  rcases h with rfl | rfl | rfl <;> rfl
theorem long2_t (C : Cells) (x y : D) (n : Nat) : callD T (n + 1) 5 [.tup [x, y], .int 2] C = .ok (.bl true) C := rfl
theorem long2_f (C : Cells) (x y z : D) (n : Nat) : callD T (n + 1) 5 [.tup [x, y, z], .int 2] C = .ok (.bl false) C := rfl
theorem long3_f (C : Cells) (x y z : D) (n : Nat) : callD T (n + 1) 5 [.tup [x, y, z], .int 3] C = .ok (.bl true) C := rfl
theorem tree_lf (m : Nat) (C : Cells) (x : D) (h : callD T m 4 [x] C = .ok (.bl true) C) : callD T (m + 1) 6 [x] C = .ok (.bl true) C := by
  refine call_rt (fd := f6) rfl rfl (ss_rt ?_)
  simp [startS, f6, evSs, evS, ev, evs, R.bind, R.of, slotD, truthD, h]
theorem tree_turn (m : Nat) (C : Cells) (x : D) (h : callD T m 4 [.tup [.str [45], x]] C = .ok (.bl false) C) (h2 : callD T m 5 [.tup [.str [45], x], .int 2] C = .ok (.bl true) C) (h3 : callD T m 6 [x] C = .ok (.bl true) C) : callD T (m + 1) 6 [.tup [.str [45], x]] C = .ok (.bl true) C := by
  have e : cmpD .eq (.str [45]) (.str [45]) = some (.bl true) := rfl
  refine call_rt (fd := f6) rfl rfl (ss_nx (C1 := C) (σ' := [.val (.tup [.str [45], x])]) ?_ (ss_rt ?_))
  · simp [startS, f6, evSs, evS, ev, evs, R.bind, R.of, slotD, truthD, h]
  · simp [evSs, evS, ev, evs, evAnd, R.bind, R.of, slotD, truthD, h2, h3, ix20, ix21, tyOk, tyD, e]
theorem tree_fork (m : Nat) (C : Cells) (g : List Nat) (x y : D) (h : callD T m 4 [.tup [.str g, x, y]] C = .ok (.bl false) C) (h2 : callD T m 5 [.tup [.str g, x, y], .int 2] C = .ok (.bl false) C) (h3 : callD T m 5 [.tup [.str g, x, y], .int 3] C = .ok (.bl true) C) (h4 : callD T m 7 [.str g] C = .ok (.bl true) C) (h5 : callD T m 6 [x] C = .ok (.bl true) C) (h6 : callD T m 6 [y] C = .ok (.bl true) C) : callD T (m + 1) 6 [.tup [.str g, x, y]] C = .ok (.bl true) C := by
  have i0 : idxD C (.tup [.str g, x, y]) (.int 0) = some (.str g) := rfl
  have i1 : idxD C (.tup [.str g, x, y]) (.int 1) = some x := rfl
  have i2 : idxD C (.tup [.str g, x, y]) (.int 2) = some y := rfl
  refine call_rt (fd := f6) rfl rfl (ss_nx (C1 := C) (σ' := [.val (.tup [.str g, x, y])]) ?_ (ss_nx (C1 := C) (σ' := [.val (.tup [.str g, x, y])]) ?_ (ss_rt ?_)))
  · simp [startS, f6, evSs, evS, ev, evs, R.bind, R.of, slotD, truthD, h]
  · simp [evSs, evS, ev, evs, R.bind, R.of, slotD, truthD, h2]
  · simp [evSs, evS, ev, evs, evAnd, R.bind, R.of, slotD, truthD, h3, h4, h5, h6, i0, i1, i2]
theorem istree_ok (C : Cells) (t : Tr) : t.ok → ∀ n, t.dep + 4 ≤ n → callD T (n + 1) 6 [t.d] C = .ok (.bl true) C := by
  induction t with
  | leaf x =>
    intro h n hn
    obtain ⟨k, rfl⟩ : ∃ k, n = k + 4 := ⟨n - 4, by simp only [Tr.dep] at hn; omega⟩
    exact tree_lf (k + 4) C x (isleaf_lf C h k)
  | turn t ih =>
    intro h n hn
    simp only [Tr.dep] at hn
    obtain ⟨k, rfl⟩ : ∃ k, n = k + 4 := ⟨n - 4, by omega⟩
    exact tree_turn (k + 4) C _ (isleaf_tup C _ k) (long2_t C _ _ (k + 3)) (ih h (k + 3) (by omega))
  | fork g a b iha ihb =>
    intro h n hn
    simp only [Tr.dep] at hn
    obtain ⟨k, rfl⟩ : ∃ k, n = k + 4 := ⟨n - 4, by omega⟩
    exact tree_fork (k + 4) C g _ _ (isleaf_tup C _ k) (long2_f C _ _ _ (k + 3)) (long3_f C _ _ _ (k + 3)) (issign_ok C h.1 (k + 3)) (iha h.2.1 (k + 3) (by omega)) (ihb h.2.2 (k + 3) (by omega))
theorem Tr.kid_ok {t y : Tr} (h : t.ok) (hy : y ∈ t.kids) : y.ok ∧ y.dep < t.dep ∧ y.size < t.size := by
  cases t with
  | leaf x => cases hy
  | turn t =>
    simp only [Tr.kids, List.mem_singleton] at hy
    subst hy
    exact ⟨h, by simp only [Tr.dep]; omega, by simp only [Tr.size]; omega⟩
  | fork g a b =>
    simp only [Tr.kids, List.mem_cons, List.not_mem_nil, or_false] at hy
    rcases hy with rfl | rfl
    · exact ⟨h.2.1, by simp only [Tr.dep]; omega, by simp only [Tr.size]; omega⟩
    · exact ⟨h.2.2, by simp only [Tr.dep]; omega, by simp only [Tr.size]; omega⟩
theorem Tr.ind {P : Tr → Prop} (h : ∀ t, (∀ y ∈ t.kids, P y) → P t) : ∀ t, P t := by
  intro t
  induction t with
  | leaf x => exact h _ fun y hy => by cases hy
  | turn t ih =>
    refine h _ fun y hy => ?_
    · simp only [Tr.kids, List.mem_singleton] at hy
      subst hy; exact ih
  | fork g a b iha ihb =>
    refine h _ fun y hy => ?_
    · simp only [Tr.kids, List.mem_cons, List.not_mem_nil, or_false] at hy
      rcases hy with rfl | rfl
      · exact iha
      · exact ihb
/-- a comprehension over the sides, each by one call -/
theorem cm_call {cl : Call} {f i : Nat} {σ : List Sl} {C : Cells} {y : D} {z : D} (hs : wipeS σ [i] = σ) (hi : i < σ.length) (h : cl f [y] C = .ok z C) : cmF cl (.call f (.cons (.v i) .nil)) (.v i) .no σ y C = .ok [z] C := by
  have e : slotD (σ.set i (.val y))[i]? = some y := by
    rw [List.getElem?_set_self hi]
    rfl
  simp [cmF, bindT, Tg.vars, hs, hi, evc, ev, evs, R.bind, R.of, slotD, h]
/-- size_in -/
theorem size_gen (m : Nat) (C : Cells) (x : D) (l : List Int) (he : ev (callD T m) (.comp (.call 9 (.cons (.v 1) .nil)) (.mk (.v 1) (.e (.call 8 (.cons (.v 0) .nil))) .no)) [.val x, .emp] C = .ok (.lst (l.map .int)) C) : callD T (m + 1) 9 [x] C = .ok (.int (1 + l.sum)) C := by
  refine call_rt (fd := f9) rfl rfl (ss_rt ?_)
  have es : startS f9.names.length [x] = [.val x, .emp] := rfl
  rw [es]
  have h2 := ev_bi1 (f := .sum) he (d := .int l.sum) (by simp only [biD, intsD_mp, Option.map])
  rw [evS, ev]
  show ((ev (callD T m) (.bi .sum _) _ C).bind _ : R D).bind _ = _
  rw [h2]
  rfl
theorem size_ok (C : Cells) (t : Tr) : t.ok → ∀ n, t.dep + 1 ≤ n → callD T (n + 1) 9 [t.d] C = .ok (.int t.size) C := by
  induction t using Tr.ind with
  | h t ih =>
    intro h n hn
    obtain ⟨k, rfl⟩ : ∃ k, n = k + 1 := ⟨n - 1, by omega⟩
    have hs : ev (callD T (k + 1)) (.call 8 (.cons (.v 0) .nil)) [.val t.d, .emp] C = .ok (.tup (t.kids.map Tr.d)) C := by
      simp [ev, evs, R.bind, R.of, slotD, (sides_ok C t h k).1]
    have he := ev_kids (e := .call 9 (.cons (.v 1) .nil)) (tg := .v 1) (fun y => .int y.size) hs (fun y hy => cm_call rfl (by show 1 < 2; omega) (ih y hy (t.kid_ok h hy).1 k (by have := (t.kid_ok h hy).2.1; omega)))
    have e : t.kids.map (fun y => D.int y.size) = (t.kids.map fun y => (y.size : Int)).map .int := by rw [List.map_map]; rfl
    rw [e] at he
    rw [size_gen (k + 1) C _ _ he]
    congr 2
    cases t <;> simp [Tr.kids, Tr.size] <;> omega
end Mi

set_option Elab.async false
set_option linter.all false
set_option maxRecDepth 100000
set_option maxHeartbeats 4000000
namespace Mi
open Tr (lfOk)
theorem cm_add1 {cl : Call} {f i : Nat} {σ : List Sl} {C : Cells} {y : D} {z : Int} (hs : wipeS σ [i] = σ) (hi : i < σ.length) (h : cl f [y] C = .ok (.int z) C) : cmF cl (.bin .add (.lit (.int 1)) (.call f (.cons (.v i) .nil))) (.v i) .no σ y C = .ok [.int (1 + z)] C := by
  simp [cmF, bindT, Tg.vars, hs, hi, evc, ev, evs, R.bind, R.of, slotD, h, binD]
/-- deep_in -/
theorem deep_gen (m : Nat) (C : Cells) (x : D) (l : List Int) (r : Int) (hl : l.length ≤ 2) (hr : maxI (0 :: l) = some r) (he : ev (callD T m) (.comp (.bin .add (.lit (.int 1)) (.call 10 (.cons (.v 1) .nil))) (.mk (.v 1) (.e (.call 8 (.cons (.v 0) .nil))) .no)) [.val x, .emp] C = .ok (.lst (l.map .int)) C) : callD T (m + 1) 10 [x] C = .ok (.int r) C := by
  refine call_rt (fd := f10) rfl rfl (ss_rt ?_)
  have es : startS f10.names.length [x] = [.val x, .emp] := rfl
  rw [es]
  have hb : binD .add (.lst [.int 0]) (.lst (l.map .int)) = some (.lst ((0 :: l).map .int)) := by
    have : ([D.int 0] : List D).length + (l.map D.int).length ≤ sizeMost := by rw [List.length_map]; show 1 + l.length ≤ sizeMost; unfold sizeMost; omega
    simp only [binD, if_pos this]
    rfl
  have h1 : ev (callD T m) (.bin .add (.lst (.cons (.lit (.int 0)) .nil)) (.comp (.bin .add (.lit (.int 1)) (.call 10 (.cons (.v 1) .nil))) (.mk (.v 1) (.e (.call 8 (.cons (.v 0) .nil))) .no))) [.val x, .emp] C = .ok (.lst ((0 :: l).map .int)) C := by
    rw [ev]
    show ((ev (callD T m) (.comp _ _) _ C).bind _ : R D) = _
    rw [he]
    show R.of (binD .add (.lst [.int 0]) (.lst (l.map .int))) C = _
    rw [hb]
    rfl
  have h2 := ev_bi1 (f := .max1) h1 (d := .int r) (by simp only [biD, intsD_mp, hr, Option.bind, Option.map])
  rw [evS, h2]
theorem deep_ok (C : Cells) (t : Tr) : t.ok → ∀ n, t.dep + 1 ≤ n → callD T (n + 1) 10 [t.d] C = .ok (.int t.dep) C := by
  induction t using Tr.ind with
  | h t ih =>
    intro h n hn
    obtain ⟨k, rfl⟩ : ∃ k, n = k + 1 := ⟨n - 1, by omega⟩
    have hs : ev (callD T (k + 1)) (.call 8 (.cons (.v 0) .nil)) [.val t.d, .emp] C = .ok (.tup (t.kids.map Tr.d)) C := by
      simp [ev, evs, R.bind, R.of, slotD, (sides_ok C t h k).1]
    have he := ev_kids (e := .bin .add (.lit (.int 1)) (.call 10 (.cons (.v 1) .nil))) (tg := .v 1) (fun y => .int (1 + y.dep)) hs (fun y hy => cm_add1 rfl (by show 1 < 2; omega) (ih y hy (t.kid_ok h hy).1 k (by have := (t.kid_ok h hy).2.1; omega)))
    have e : t.kids.map (fun y => D.int (1 + y.dep)) = (t.kids.map fun y => (1 + (y.dep : Int))).map .int := by rw [List.map_map]; rfl
    rw [e] at he
    refine deep_gen (k + 1) C _ _ _ (by rw [List.length_map]; exact kids_len t) ?_ he
    cases t with
    | leaf x => rfl
    | turn t =>
      have : ¬ (1 + (t.dep : Int) ≤ 0) := by omega
      simp [Tr.kids, Tr.dep, maxI]
      split <;> omega
    | fork g a b =>
      simp [Tr.kids, Tr.dep, maxI]
      split <;> split <;> omega
theorem near_gen (m : Nat) (C : Cells) (x : D) (i j : Int) (h1 : callD T m 6 [x] C = .ok (.bl true) C) (h2 : callD T m 9 [x] C = .ok (.int i) C) (h3 : callD T m 10 [x] C = .ok (.int j) C) (hi : i ≤ 200) (hj : j ≤ 30) : callD T (m + 1) 11 [x] C = .ok (.bl true) C := by
  refine call_rt (fd := f11) rfl rfl (ss_rt ?_)
  simp [startS, f11, evS, ev, evs, evAnd, R.bind, R.of, slotD, truthD, h1, h2, h3, cmpLe, hi, hj]
theorem suret_gen (m : Nat) (C : Cells) (x e : D) (h1 : callD T m 1 [e] C = .ok x C) (h2 : callD T m 11 [x] C = .ok (.bl true) C) : callD T (m + 1) 21 [e] C = .ok x C := by
  refine call_rt (fd := f21) rfl rfl (ss_nx (C1 := C) (σ' := [.val e, .val x]) ?_ ?_)
  · simp [startS, f21, evS, ev, evs, R.bind, R.of, slotD, h1, bindT]
  · simp [evSs, evS, ev, evs, R.bind, R.of, slotD, truthD, h2]
theorem lf_td {x : D} (h : lfOk x) : td x = true ∧ szOk x = true ∧ okD x = true ∧ dep x = 0 ∧ szD x = 0 := by
  rcases lf_cases h with ⟨i, rfl, _, _⟩ | rfl | rfl | rfl | rfl | rfl | rfl <;> exact ⟨rfl, rfl, rfl, rfl, rfl⟩
theorem Tr.facts : ∀ t : Tr, t.ok → td t.d = true ∧ szOk t.d = true ∧ okD t.d = true ∧ Mi.dep t.d ≤ t.dep ∧ szD t.d + 1 = t.size + 0 ∨ td t.d = true ∧ szOk t.d = true ∧ okD t.d = true ∧ Mi.dep t.d ≤ t.dep ∧ szD t.d ≤ t.size
  | .leaf x, h => by
    obtain ⟨a, b, c, e, f⟩ := lf_td (show lfOk x from h)
    exact .inr ⟨a, b, c, by show Mi.dep x ≤ 0; omega, by show szD x ≤ 1; omega⟩
  | .turn t, h => by
    have ih : td t.d = true ∧ szOk t.d = true ∧ okD t.d = true ∧ Mi.dep t.d ≤ t.dep ∧ szD t.d ≤ t.size := by
      rcases Tr.facts t h with ⟨a, b, c, e, f⟩ | q
      · exact ⟨a, b, c, e, by omega⟩
      · exact q
    obtain ⟨a, b, c, e, f⟩ := ih
    have hl : ([D.str [45], t.d] : List D).length ≤ sizeMost := by show 2 ≤ sizeMost; unfold sizeMost; omega
    refine .inr ⟨by simp only [Tr.d, td, tds, a, Bool.and_self], by simp only [Tr.d, szOk, szOks, b, decide_eq_true hl, Bool.and_self], by simp only [Tr.d, okD, okDs, c, Bool.and_self], ?_, ?_⟩
    · simp only [Tr.d, Mi.dep, deps, Tr.dep]; omega
    · simp only [Tr.d, szD, szDs, Tr.size]; omega
  | .fork g x y, h => by
    have key : ∀ t : Tr, (td t.d = true ∧ szOk t.d = true ∧ okD t.d = true ∧ Mi.dep t.d ≤ t.dep ∧ szD t.d + 1 = t.size + 0 ∨ td t.d = true ∧ szOk t.d = true ∧ okD t.d = true ∧ Mi.dep t.d ≤ t.dep ∧ szD t.d ≤ t.size) → td t.d = true ∧ szOk t.d = true ∧ okD t.d = true ∧ Mi.dep t.d ≤ t.dep ∧ szD t.d ≤ t.size := fun t q => by
      rcases q with ⟨a, b, c, e, f⟩ | q
      · exact ⟨a, b, c, e, by omega⟩
      · exact q
    obtain ⟨a, b, c, e, f⟩ := key x (Tr.facts x h.2.1)
    obtain ⟨a2, b2, c2, e2, f2⟩ := key y (Tr.facts y h.2.2)
    have hl : ([D.str g, x.d, y.d] : List D).length ≤ sizeMost := by show 3 ≤ sizeMost; unfold sizeMost; omega
    refine .inr ⟨by simp only [Tr.d, td, tds, a, a2, Bool.and_self], by simp only [Tr.d, szOk, szOks, b, b2, decide_eq_true hl, Bool.and_self], by simp only [Tr.d, okD, okDs, c, c2, Bool.and_self], ?_, ?_⟩
    · simp only [Tr.d, Mi.dep, deps, Tr.dep]; omega
    · simp only [Tr.d, szD, szDs, Tr.size]; omega
theorem Tr.dat {t : Tr} (h : t.ok) : td t.d = true ∧ szOk t.d = true ∧ okD t.d = true ∧ Mi.dep t.d ≤ t.dep ∧ szD t.d ≤ t.size := by
  rcases Tr.facts t h with ⟨a, b, c, e, f⟩ | q
  · exact ⟨a, b, c, e, by omega⟩
  · exact q
/-- sure_tree -/
theorem suret_ok (C : Cells) (t : Tr) (h : t.ok) {e : D} (he : Mx t.d e) (hs : t.size ≤ 200) (hd : t.dep ≤ 30) (n : Nat) (hn : t.dep + 7 ≤ n) : callD T (n + 1) 21 [e] C = .ok t.d C := by
  obtain ⟨k, rfl⟩ : ∃ k, n = k + 2 := ⟨n - 2, by omega⟩
  obtain ⟨a, b, c, e1, f⟩ := Tr.dat h
  refine suret_gen (k + 2) C _ _ (tupled_ok C he (k + 1) (by omega) b) (near_gen (k + 1) C _ _ _ (istree_ok C t h k (by omega)) (size_ok C t h k (by omega)) (deep_ok C t h k (by omega)) (by omega) (by omega))
/-! ### shape_in, number_in, _law_bare -/
theorem shin_1 (m : Nat) (C : Cells) (x y z : D) (h1 : callD T m 8 [x] C = .ok (.tup [y]) C) (h2 : callD T m 283 [y] C = .ok z C) : callD T (m + 1) 283 [x] C = .ok z C := by
  have e : cmpD .eq (.int 1) (.int 1) = some (.bl true) := rfl
  have e2 : biD .len [.tup [y]] = some (.int 1) := rfl
  have e3 : idxD C (.tup [y]) (.int 0) = some y := rfl
  refine call_rt (fd := f283) rfl rfl (ss_nx (C1 := C) (σ' := [.val x, .val (.tup [y]), .emp]) ?_ (ss_rt ?_))
  · simp [startS, f283, evS, ev, evs, R.bind, R.of, slotD, h1, bindT]
  · simp [evSs, evS, ev, evs, R.bind, R.of, slotD, truthD, e, e2, e3, h2]
theorem shin_n (m : Nat) (C : Cells) (x : D) (ys zs : List D) (h1 : callD T m 8 [x] C = .ok (.tup ys) C) (hl : ys.length ≠ 1) (he : ev (callD T m) (.comp (.call 283 (.cons (.v 2) .nil)) (.mk (.v 2) (.e (.v 1)) .no)) [.val x, .val (.tup ys), .emp] C = .ok (.lst zs) C) : callD T (m + 1) 283 [x] C = .ok (.tup zs) C := by
  have e2 : biD .len [.tup ys] = some (.int ys.length) := rfl
  have e : cmpD .eq (.int (ys.length : Int)) (.int 1) = some (.bl false) := by rw [cmpI]; simp; omega
  refine call_rt (fd := f283) rfl rfl (ss_nx (C1 := C) (σ' := [.val x, .val (.tup ys), .emp]) ?_ (ss_nx (C1 := C) (σ' := [.val x, .val (.tup ys), .emp]) ?_ (ss_rt ?_)))
  · simp [startS, f283, evS, ev, evs, R.bind, R.of, slotD, h1, bindT]
  · simp [evSs, evS, ev, evs, R.bind, R.of, slotD, truthD, e, e2]
  · have h2 := ev_bi1 (f := .tuple) he (d := .tup zs) rfl
    rw [evS, h2]
theorem shin_ok (C : Cells) (t : Tr) : t.ok → ∀ n, t.dep + 1 ≤ n → callD T (n + 1) 283 [t.d] C = .ok t.bare.d C := by
  induction t with
  | leaf x =>
    intro h n hn
    obtain ⟨k, rfl⟩ : ∃ k, n = k + 1 := ⟨n - 1, by omega⟩
    exact shin_n (k + 1) C _ [] [] (sides_lf C h k).1 (by decide) (ev_comp (xs := []) rfl rfl (by decide))
  | turn t ih =>
    intro h n hn
    simp only [Tr.dep] at hn
    obtain ⟨k, rfl⟩ : ∃ k, n = k + 1 := ⟨n - 1, by omega⟩
    exact shin_1 (k + 1) C _ _ _ (sides_ok C (.turn t) h k).1 (ih h k (by omega))
  | fork g a b iha ihb =>
    intro h n hn
    simp only [Tr.dep] at hn
    obtain ⟨k, rfl⟩ : ∃ k, n = k + 1 := ⟨n - 1, by omega⟩
    have i1 := iha h.2.1 k (by omega)
    have i2 := ihb h.2.2 k (by omega)
    refine shin_n (k + 1) C _ [a.d, b.d] [a.bare.d, b.bare.d] (sides_ok C (.fork g a b) h k).1 (by show 2 ≠ 1; omega) (ev_comp (xs := [a.d, b.d]) rfl ?_ (by show 2 ≤ sizeMost; unfold sizeMost; omega))
    have c1 := cm_call (cl := callD T (k + 1)) (f := 283) (i := 2) (σ := [.val (Tr.fork g a b).d, .val (.tup [a.d, b.d]), .emp]) rfl (by show 2 < 3; omega) i1
    have c2 := cm_call (cl := callD T (k + 1)) (f := 283) (i := 2) (σ := [.val (Tr.fork g a b).d, .val (.tup [a.d, b.d]), .emp]) rfl (by show 2 < 3; omega) i2
    simp only [loopC, c1, c2, R.bind]
    rfl
theorem shapeof_ok (C : Cells) (t : Tr) (h : t.ok) {e : D} (he : Mx t.d e) (hs : t.size ≤ 200) (hd : t.dep ≤ 30) (n : Nat) (hn : t.dep + 8 ≤ n) : callD T (n + 1) 294 [e] C = .ok t.bare.d C := by
  obtain ⟨k, rfl⟩ : ∃ k, n = k + 1 := ⟨n - 1, by omega⟩
  have h1 := suret_ok C t h he hs hd k (by omega)
  have h2 := shin_ok C t h k (by omega)
  refine call_rt (fd := f294) rfl rfl (ss_rt ?_)
  simp [startS, f294, evS, ev, evs, R.bind, R.of, slotD, h1, h2]
end Mi

set_option Elab.async false
set_option linter.all false
set_option maxRecDepth 100000
set_option maxHeartbeats 4000000
namespace Mi
open Tr (lfOk)
/-! ### number_in, _law_bare -/
theorem higher_ok (m : Nat) (C : Cells) (i j : Int) : callD T (m + 1) 65 [.int i, .int j] C = .ok (.int (if i = j then i + 1 else if j > i then j else i)) C := by
  refine call_rt (fd := f65) rfl rfl (ss_rt ?_)
  by_cases e : i = j
  · simp [startS, f65, evS, ev, evs, R.bind, R.of, slotD, truthD, cmpI, binD, biD, e]
  · simp [startS, f65, evS, ev, evs, R.bind, R.of, slotD, truthD, cmpI, binD, biD, e]
theorem cmpLnil (xs : List D) (h : okDs xs = true) : cmpD .eq (.lst xs) (.lst []) = some (.bl xs.isEmpty) := by
  have e : eqDs xs [] = xs.isEmpty := by cases xs <;> rfl
  simp only [cmpD, okD, h, okDs, Bool.and_self, eqD, e, Bool.true_and]
  rw [if_pos (by simp; right; decide)]
theorem numin_gen (m : Nat) (C : Cells) (x : D) (l : List Int) (r : Int) (he : ev (callD T m) (.comp (.call 64 (.cons (.v 2) .nil)) (.mk (.v 2) (.e (.call 8 (.cons (.v 0) .nil))) .no)) [.val x, .emp, .emp] C = .ok (.lst (l.map .int)) C)
    (hr : (l = [] ∧ r = 1) ∨ (l = [r]) ∨ ∃ i j, l = [i, j] ∧ callD T m 65 [.int i, .int j] C = .ok (.int r) C) : callD T (m + 1) 64 [x] C = .ok (.int r) C := by
  have a0 : evS (callD T m) (.asg (.v 1) (.comp (.call 64 (.cons (.v 2) .nil)) (.mk (.v 2) (.e (.call 8 (.cons (.v 0) .nil))) .no))) (startS f64.names.length [x]) C = .ok (.nx [.val x, .val (.lst (l.map .int)), .emp]) C := by
    have es : startS f64.names.length [x] = [.val x, .emp, .emp] := rfl
    rw [es, evS, he]
    rfl
  refine call_rt (fd := f64) rfl rfl (ss_nx a0 ?_)
  rcases hr with ⟨rfl, rfl⟩ | rfl | ⟨i, j, rfl, h⟩
  · rfl
  · rfl
  · have e1 : cmpD .eq (.lst [.int i, .int j]) (.lst []) = some (.bl false) := rfl
    have e2 : biD .len [.lst [.int i, .int j]] = some (.int 2) := rfl
    have e3 : cmpD .eq (.int 2) (.int 1) = some (.bl false) := rfl
    have e4 : idxD C (.lst [.int i, .int j]) (.int 0) = some (.int i) := rfl
    have e5 : idxD C (.lst [.int i, .int j]) (.int 1) = some (.int j) := rfl
    simp [evSs, evS, ev, evs, R.bind, R.of, slotD, truthD, e1, e2, e3, e4, e5, h]
theorem numin_ok (C : Cells) (t : Tr) : t.ok → ∀ n, t.dep + 1 ≤ n → callD T (n + 1) 64 [t.d] C = .ok (.int t.bare.num) C := by
  induction t using Tr.ind with
  | h t ih =>
    intro h n hn
    obtain ⟨k, rfl⟩ : ∃ k, n = k + 1 := ⟨n - 1, by omega⟩
    have hs : ev (callD T (k + 1)) (.call 8 (.cons (.v 0) .nil)) [.val t.d, .emp, .emp] C = .ok (.tup (t.kids.map Tr.d)) C := by
      simp [ev, evs, R.bind, R.of, slotD, (sides_ok C t h k).1]
    have he := ev_kids (e := .call 64 (.cons (.v 2) .nil)) (tg := .v 2) (fun y => .int y.bare.num) hs (fun y hy => cm_call rfl (by show 2 < 3; omega) (ih y hy (t.kid_ok h hy).1 k (by have := (t.kid_ok h hy).2.1; omega)))
    have e : t.kids.map (fun y => D.int y.bare.num) = (t.kids.map fun y => y.bare.num).map .int := by rw [List.map_map]; rfl
    rw [e] at he
    refine numin_gen (k + 1) C _ _ _ he ?_
    cases t with
    | leaf x => exact .inl ⟨rfl, rfl⟩
    | turn t => exact .inr (.inl rfl)
    | fork g a b => exact .inr (.inr ⟨_, _, rfl, higher_ok k C _ _⟩)
theorem numof_ok (C : Cells) (t : Tr) (h : t.ok) {e : D} (he : Mx t.d e) (hs : t.size ≤ 200) (hd : t.dep ≤ 30) (n : Nat) (hn : t.dep + 8 ≤ n) : callD T (n + 1) 112 [e] C = .ok (.int t.bare.num) C := by
  obtain ⟨k, rfl⟩ : ∃ k, n = k + 1 := ⟨n - 1, by omega⟩
  have h1 := suret_ok C t h he hs hd k (by omega)
  have h2 := numin_ok C t h k (by omega)
  refine call_rt (fd := f112) rfl rfl (ss_rt ?_)
  simp [startS, f112, evS, ev, evs, R.bind, R.of, slotD, h1, h2]
theorem lbare_gen (m : Nat) (C : Cells) (x : D) (zs : List D) (r : D) (he : ev (callD T m) (.comp (.call 290 (.cons (.v 2) .nil)) (.mk (.v 2) (.e (.call 28 (.cons (.v 0) .nil))) .no)) [.val x, .emp, .emp] C = .ok (.lst zs) C) (hr : zs = [r] ∨ (zs.length ≠ 1 ∧ r = .tup zs)) : callD T (m + 1) 290 [x] C = .ok r C := by
  have a0 : evS (callD T m) (.asg (.v 1) (.comp (.call 290 (.cons (.v 2) .nil)) (.mk (.v 2) (.e (.call 28 (.cons (.v 0) .nil))) .no))) (startS f290.names.length [x]) C = .ok (.nx [.val x, .val (.lst zs), .emp]) C := by
    have es : startS f290.names.length [x] = [.val x, .emp, .emp] := rfl
    rw [es, evS, he]
    rfl
  refine call_rt (fd := f290) rfl rfl (ss_nx a0 (ss_rt ?_))
  rcases hr with rfl | ⟨hl, rfl⟩
  · rfl
  · have e2 : biD .len [.lst zs] = some (.int zs.length) := rfl
    have e : cmpD .eq (.int (zs.length : Int)) (.int 1) = some (.bl false) := by rw [cmpI]; simp; omega
    have e3 : biD .tuple [.lst zs] = some (.tup zs) := rfl
    simp [evS, ev, evs, R.bind, R.of, slotD, truthD, e, e2, e3]
theorem lbare_ok (C : Cells) (t : Tr) : t.ok → ∀ n, t.dep + 1 ≤ n → callD T (n + 1) 290 [t.d] C = .ok t.bare.d C := by
  induction t using Tr.ind with
  | h t ih =>
    intro h n hn
    obtain ⟨k, rfl⟩ : ∃ k, n = k + 1 := ⟨n - 1, by omega⟩
    have hs : ev (callD T (k + 1)) (.call 28 (.cons (.v 0) .nil)) [.val t.d, .emp, .emp] C = .ok (.tup (t.kids.map Tr.d)) C := by
      simp [ev, evs, R.bind, R.of, slotD, (sides_ok C t h k).2]
    have he := ev_kids (e := .call 290 (.cons (.v 2) .nil)) (tg := .v 2) (fun y => y.bare.d) hs (fun y hy => cm_call rfl (by show 2 < 3; omega) (ih y hy (t.kid_ok h hy).1 k (by have := (t.kid_ok h hy).2.1; omega)))
    refine lbare_gen (k + 1) C _ _ _ he ?_
    cases t with
    | leaf x => exact .inr ⟨by simp [Tr.kids], rfl⟩
    | turn t => exact .inl rfl
    | fork g a b => exact .inr ⟨by simp [Tr.kids], rfl⟩
/-! ### named_tree, tree_of_shape -/
def nam (g : List Nat) : Sh → Nat → Tr
  | .lf, k => .leaf (.int k)
  | .nd a b, k => .fork g (nam g a k) (nam g b (k + a.lv))
theorem nam_ok {g : List Nat} (hg : g ∈ [[43], [45], [42]]) : ∀ (s : Sh) (k : Nat), k + s.lv ≤ 1000 → (nam g s k).ok
  | .lf, k, h => .inl ⟨k, rfl, by omega, by omega⟩
  | .nd a b, k, h => by
    have h : k + (a.lv + b.lv) ≤ 1000 := h
    exact ⟨hg, nam_ok hg a k (by omega), nam_ok hg b (k + a.lv) (by omega)⟩
theorem nam_bare (g : List Nat) : ∀ (s : Sh) (k : Nat), (nam g s k).bare = s
  | .lf, k => rfl
  | .nd a b, k => by simp only [nam, Tr.bare, nam_bare g a, nam_bare g b]
theorem nam_size (g : List Nat) : ∀ (s : Sh) (k : Nat), (nam g s k).size + 1 = 2 * s.lv
  | .lf, k => rfl
  | .nd a b, k => by
    have := nam_size g a k
    have := nam_size g b (k + a.lv)
    simp only [nam, Tr.size, Sh.lv]
    omega
theorem nam_dep (g : List Nat) : ∀ (s : Sh) (k : Nat), (nam g s k).dep + 1 ≤ s.lv
  | .lf, k => Nat.le_refl _
  | .nd a b, k => by
    have := nam_dep g a k
    have := nam_dep g b (k + a.lv)
    simp only [nam, Tr.dep, Sh.lv]
    omega
theorem named_lf (m : Nat) (C : Cells) (g : D) (i : Int) : callD T (m + 1) 286 [.tup [], g, .int i] C = .ok (.tup [.int i, .int (i + 1)]) C := by
  refine call_rt (fd := f286) rfl rfl (ss_rt ?_)
  simp [startS, f286, evSs, evS, ev, evs, R.bind, R.of, slotD, truthD, cmp00, binD]
theorem named_nd (m : Nat) (C : Cells) (a b g x y : D) (i j k : Int) (h : cmpD .eq (.tup [a, b]) (.tup []) = some (.bl false)) (h1 : callD T m 286 [a, g, .int i] C = .ok (.tup [x, .int j]) C) (h2 : callD T m 286 [b, g, .int j] C = .ok (.tup [y, .int k]) C) : callD T (m + 1) 286 [.tup [a, b], g, .int i] C = .ok (.tup [.tup [g, x, y], .int k]) C := by
  refine call_rt (fd := f286) rfl rfl (ss_nx (C1 := C) (σ' := [.val (.tup [a, b]), .val g, .val (.int i), .emp, .emp, .emp]) ?_ (ss_nx (C1 := C) (σ' := [.val (.tup [a, b]), .val g, .val (.int i), .val x, .val (.int j), .emp]) ?_ (ss_nx (C1 := C) (σ' := [.val (.tup [a, b]), .val g, .val (.int i), .val x, .val (.int k), .val y]) ?_ (ss_rt ?_))))
  · simp [startS, f286, evSs, evS, ev, evs, R.bind, R.of, slotD, truthD, h]
  · simp [evS, ev, evs, R.bind, R.of, slotD, ix20, h1, bindT, bindTs]
  · simp [evS, ev, evs, R.bind, R.of, slotD, ix21, h2, bindT, bindTs]
  · simp [evS, ev, evs, R.bind, R.of, slotD]
theorem named_ok (C : Cells) (g : List Nat) (s : Sh) : ∀ (k n : Nat), s.lv ≤ n → callD T (n + 1) 286 [s.d, .str g, .int k] C = .ok (.tup [(nam g s k).d, .int ((k + s.lv : Nat) : Int)]) C := by
  induction s with
  | lf =>
    intro k n _
    rw [show (((k + Sh.lf.lv : Nat) : Int)) = (k : Int) + 1 from rfl]
    exact named_lf n C _ _
  | nd a b iha ihb =>
    intro k n hn
    have ha := a.lv_pos
    have hb := b.lv_pos
    have hn : a.lv + b.lv ≤ n := hn
    obtain ⟨m, rfl⟩ : ∃ m, n = m + 1 := ⟨n - 1, by omega⟩
    have i1 := iha k m (by omega)
    have i2 := ihb (k + a.lv) m (by omega)
    have e : k + (Sh.nd a b).lv = k + a.lv + b.lv := by show k + (a.lv + b.lv) = _; omega
    rw [e]
    exact named_nd (m + 1) C _ _ _ _ _ _ _ _ (cmpL0 a b) i1 i2
theorem treeof_gen (m : Nat) (C : Cells) (e s t : D) (g : List Nat) (k : D) (hg : g ∈ [[43], [45], [42]]) (h1 : callD T m 264 [e] C = .ok s C) (h2 : callD T m 286 [s, .str g, .int 0] C = .ok (.tup [t, k]) C) : callD T (m + 1) 295 [e, .str g] C = .ok t C := by
  have hc : cmpD .notin (.str g) (.tup [.str [43], .str [45], .str [42]]) = some (.bl false) := by
    simp only [List.mem_cons, List.not_mem_nil, or_false] at hg
    rcases hg with rfl | rfl | rfl <;> rfl
  refine call_rt (fd := f295) rfl rfl (ss_nx (C1 := C) (σ' := [.val e, .val (.str g), .val s]) ?_ ?_)
  · simp [startS, f295, evS, ev, evs, R.bind, R.of, slotD, h1, bindT]
  · simp [evSs, evS, ev, evs, evOr, R.bind, R.of, slotD, truthD, tyD, tyOk, hc, h2, ix20]
theorem treeof_ok (C : Cells) (g : List Nat) (hg : g ∈ [[43], [45], [42]]) (s : Sh) {e : D} (h : Mx s.d e) (n : Nat) (hl : s.lv ≤ 60) (hn : s.lv + 2 ≤ n) : callD T (n + 1) 295 [e, .str g] C = .ok (nam g s 0).d C := by
  obtain ⟨k, rfl⟩ : ∃ k, n = k + 1 := ⟨n - 1, by omega⟩
  exact treeof_gen (k + 1) C _ _ _ _ _ hg (sureS_ok C s h k hl (by omega)) (named_ok C g s 0 k (by omega))
end Mi

set_option Elab.async false
set_option linter.all false
set_option maxRecDepth 100000
set_option maxHeartbeats 4000000
namespace Mi
open Tr (lfOk)
/-! ### parts_in, leaves_of -/
abbrev PT := List Int × Tr
def pD (p : PT) : D := .tup [.tup (p.1.map .int), p.2.d]
def cns (i : Int) (p : PT) : PT := (i :: p.1, p.2)
def pts : Tr → List PT
  | .leaf x => [([], .leaf x)]
  | .turn t => ([], .turn t) :: (pts t).map (cns 0)
  | .fork g a b => ([], .fork g a b) :: ((pts a).map (cns 0) ++ (pts b).map (cns 1))
theorem pts_len : ∀ t : Tr, (pts t).length = t.size
  | .leaf x => rfl
  | .turn t => by simp only [pts, List.length_cons, List.length_map, pts_len t, Tr.size]
  | .fork g a b => by simp only [pts, List.length_cons, List.length_append, List.length_map, pts_len a, pts_len b, Tr.size]
theorem pts_all : ∀ (t : Tr), t.ok → ∀ p ∈ pts t, p.1.length ≤ t.dep ∧ p.2.ok ∧ p.2.dep ≤ t.dep
  | .leaf x, h => fun p hp => by
    simp only [pts, List.mem_singleton] at hp
    subst hp
    exact ⟨Nat.le_refl _, h, Nat.le_refl _⟩
  | .turn t, h => fun p hp => by
    simp only [pts, List.mem_cons, List.mem_map] at hp
    rcases hp with rfl | ⟨q, hq, rfl⟩
    · exact ⟨Nat.zero_le _, h, Nat.le_refl _⟩
    · obtain ⟨a, b, c⟩ := pts_all t h q hq
      exact ⟨by simp only [cns, List.length_cons, Tr.dep]; omega, b, by simp only [cns, Tr.dep]; omega⟩
  | .fork g x y, h => fun p hp => by
    simp only [pts, List.mem_cons, List.mem_append, List.mem_map] at hp
    rcases hp with rfl | ⟨q, hq, rfl⟩ | ⟨q, hq, rfl⟩
    · exact ⟨Nat.zero_le _, h, Nat.le_refl _⟩
    · obtain ⟨a, b, c⟩ := pts_all x h.2.1 q hq
      exact ⟨by simp only [cns, List.length_cons, Tr.dep]; omega, b, by simp only [cns, Tr.dep]; omega⟩
    · obtain ⟨a, b, c⟩ := pts_all y h.2.2 q hq
      exact ⟨by simp only [cns, List.length_cons, Tr.dep]; omega, b, by simp only [cns, Tr.dep]; omega⟩
theorem tupAdd (C : Cells) (i : Int) (l : List Int) (h : l.length ≤ 1000) : binD .add (.tup [.int i]) (.tup (l.map .int)) = some (.tup ((i :: l).map .int)) := by
  have : ([D.int i] : List D).length + (l.map D.int).length ≤ sizeMost := by rw [List.length_map]; show 1 + l.length ≤ sizeMost; unfold sizeMost; omega
  simp only [binD, if_pos this]
  rfl
abbrev ptE : E := .tup (.cons (.bin .add (.tup (.cons (.v 2) .nil)) (.v 4)) (.cons (.v 5) .nil))
abbrev ptT : Tg := .tp (.cons (.v 4) (.cons (.v 5) .nil))
theorem pt_one (cl : Call) (C : Cells) (x0 x1 x3 : Sl) (i : Int) (l : List Int) (y z : D) (h : binD .add (.tup [.int i]) z = some y) (w : D) : cmF cl ptE ptT .no [x0, x1, .val (.int i), x3, .emp, .emp] (.tup [z, w]) C = .ok [.tup [y, w]] C := by
  simp [cmF, bindT, bindTs, wipeS, Tg.vars, Tgs.vars, evc, ev, evs, R.bind, R.of, slotD, h]
theorem parts_loop (cl : Call) (C : Cells) (x0 : Sl) : ∀ (rows : List (Int × Tr)) (acc : List PT) (s2 s3 : Sl), (∀ r ∈ rows, cl 39 [r.2.d] C = .ok (.lst ((pts r.2).map pD)) C ∧ ∀ p ∈ pts r.2, p.1.length ≤ 1000) → acc.length + (rows.map fun r => (pts r.2).length).sum ≤ 1000000 →
    ∃ t2 t3, loopS (fun x σ C => match bindT (.tp (.cons (.v 2) (.cons (.v 3) .nil))) x σ with
      | none => .bad
      | some σ => evSs cl (.cons (.ext 1 (.comp ptE (.mk ptT (.e (.call 39 (.cons (.v 3) .nil))) .no))) .nil) σ C) (rows.map fun r => .tup [.int r.1, r.2.d]) [x0, .ol (acc.map pD), s2, s3, .emp, .emp] C = .ok (.nx [x0, .ol ((acc ++ rows.flatMap fun r => (pts r.2).map (cns r.1)).map pD), t2, t3, .emp, .emp]) C
  | [], acc, s2, s3, _, _ => ⟨s2, s3, by rw [List.flatMap_nil, List.append_nil]; rfl⟩
  | r :: rows, acc, s2, s3, h, hl => by
    obtain ⟨h1, h2⟩ := h r List.mem_cons_self
    simp only [List.map_cons, List.sum_cons] at hl
    have hm : loopC (cmF cl ptE ptT .no [x0, .ol (acc.map pD), .val (.int r.1), .val r.2.d, .emp, .emp]) ((pts r.2).map pD) C = .ok ((pts r.2).map fun p => pD (cns r.1 p)) C := loopC_mp fun p hp => pt_one cl C _ _ _ r.1 p.1 _ _ (tupAdd C r.1 p.1 (h2 p hp)) p.2.d
    have he : ev cl (.comp ptE (.mk ptT (.e (.call 39 (.cons (.v 3) .nil))) .no)) [x0, .ol (acc.map pD), .val (.int r.1), .val r.2.d, .emp, .emp] C = .ok (.lst ((pts r.2).map fun p => pD (cns r.1 p))) C := by
      refine ev_comp (xs := (pts r.2).map pD) (evi_e (x := .lst ((pts r.2).map pD)) ?_ rfl) hm (by rw [List.length_map]; unfold sizeMost; omega)
      simp [ev, evs, R.bind, R.of, slotD, h1]
    obtain ⟨t2, t3, ih⟩ := parts_loop cl C x0 rows (acc ++ (pts r.2).map (cns r.1)) (.val (.int r.1)) (.val r.2.d) (fun q hq => h q (List.mem_cons_of_mem _ hq)) (by rw [List.length_append, List.length_map]; omega)
    refine ⟨t2, t3, ?_⟩
    rw [List.flatMap_cons, ← List.append_assoc, List.map_cons]
    refine (loopS_nx ?_).trans ih
    have hlen : (acc.map pD).length + ((pts r.2).map fun p => pD (cns r.1 p)).length ≤ sizeMost := by rw [List.length_map, List.length_map]; unfold sizeMost; omega
    have e1 : evS cl (.ext 1 (.comp ptE (.mk ptT (.e (.call 39 (.cons (.v 3) .nil))) .no))) [x0, .ol (acc.map pD), .val (.int r.1), .val r.2.d, .emp, .emp] C = .ok (.nx [x0, .ol (acc.map pD ++ (pts r.2).map fun p => pD (cns r.1 p)), .val (.int r.1), .val r.2.d, .emp, .emp]) C := by
      rw [evS]
      show ((ev cl _ _ C).bind _ : R Fl) = _
      rw [he]
      show (if _ then _ else _) = _
      rw [if_pos hlen]
      rfl
    show evSs cl _ [x0, .ol (acc.map pD), .val (.int r.1), .val r.2.d, .emp, .emp] C = _
    rw [List.map_append, List.map_map]
    exact ss_nx e1 rfl
def rowsT : Tr → List (Int × Tr)
  | .leaf _ => []
  | .turn t => [(0, t)]
  | .fork _ a b => [(0, a), (1, b)]
theorem rows_mem {t : Tr} {r : Int × Tr} (h : r ∈ rowsT t) : r.2 ∈ t.kids := by
  cases t <;> simp only [rowsT, List.mem_cons, List.not_mem_nil, or_false] at h
  · subst h; simp [Tr.kids]
  · rcases h with rfl | rfl <;> simp [Tr.kids]
theorem pts_eq (t : Tr) : pts t = [([], t)] ++ (rowsT t).flatMap fun r => (pts r.2).map (cns r.1) := by
  cases t <;> simp [pts, rowsT]
theorem rows_sum (t : Tr) : ((rowsT t).map fun r => (pts r.2).length).sum + 1 = t.size := by
  cases t <;> simp [rowsT, pts_len, Tr.size]
theorem rows_enum (t : Tr) : List.zipWith (fun (n : Nat) y => D.tup [.int (n : Nat), y]) (List.range (t.kids.map Tr.d).length) (t.kids.map Tr.d) = (rowsT t).map fun r => .tup [.int r.1, r.2.d] := by
  cases t <;> rfl
theorem parts_ok (C : Cells) (t : Tr) : t.ok → t.size ≤ 1000000 → t.dep ≤ 1000 → ∀ n, t.dep + 1 ≤ n → callD T (n + 1) 39 [t.d] C = .ok (.lst ((pts t).map pD)) C := by
  induction t using Tr.ind with
  | h t ih =>
    intro h hs hd n hn
    obtain ⟨k, rfl⟩ : ∃ k, n = k + 1 := ⟨n - 1, by omega⟩
    have hlen := rows_sum t
    obtain ⟨t2, t3, hl⟩ := parts_loop (callD T (k + 1)) C (.val t.d) (rowsT t) [([], t)] .emp .emp (fun r hr => by
      obtain ⟨a, b, c⟩ := t.kid_ok h (rows_mem hr)
      refine ⟨ih r.2 (rows_mem hr) a (by omega) (by omega) k (by omega), fun p hp => ?_⟩
      have := (pts_all r.2 a p hp).1
      omega) (by show 1 + _ ≤ 1000000; omega)
    rw [← pts_eq] at hl
    have a0 : evS (callD T (k + 1)) (.asgO 1 (.lst (.cons (.tup (.cons (.tup .nil) (.cons (.v 0) .nil))) .nil))) (startS f39.names.length [t.d]) C = .ok (.nx [.val t.d, .ol ([([], t)].map pD), .emp, .emp, .emp, .emp]) C := rfl
    have he : evi (callD T (k + 1)) (.enum (.call 8 (.cons (.v 0) .nil))) [.val t.d, .ol ([([], t)].map pD), .emp, .emp, .emp, .emp] C = .ok ((rowsT t).map fun r => .tup [.int r.1, r.2.d]) C := by
      rw [← rows_enum t]
      simp [evi, ev, evs, R.bind, R.of, slotD, (sides_ok C t h k).1, seqD]
    refine call_rt (fd := f39) rfl rfl (ss_nx a0 (ss_nx (C1 := C) (σ' := [.val t.d, .ol ((pts t).map pD), t2, t3, .emp, .emp]) ?_ (ss_rt rfl)))
    rw [evS, he]
    exact hl
theorem loopC_fl {α : Type} {f : D → Cells → R (List D)} {dd : α → D} {g : α → List D} {C : Cells} : ∀ {l : List α}, (∀ x ∈ l, f (dd x) C = .ok (g x) C) → loopC f (l.map dd) C = .ok (l.flatMap g) C
  | [], _ => rfl
  | x :: xs, h => by
    have ih := loopC_fl (l := xs) fun y hy => h y (List.mem_cons_of_mem _ hy)
    show (f (dd x) C).bind _ = _
    rw [h x List.mem_cons_self]
    show (loopC f (xs.map dd) C).bind _ = _
    rw [ih]
    rfl
def lvD (t : Tr) : List D := (pts t).flatMap fun p => if p.2.kids.isEmpty then [p.2.d] else []
theorem lvD_map (l : List PT) (i : Int) : ((l.map (cns i)).flatMap fun p => if p.2.kids.isEmpty then [p.2.d] else []) = l.flatMap fun p => if p.2.kids.isEmpty then [p.2.d] else [] := by
  rw [List.flatMap_map]
  rfl
theorem lvD_leaf (x : D) : lvD (.leaf x) = [x] := rfl
theorem lvD_fork (g : List Nat) (a b : Tr) : lvD (.fork g a b) = lvD a ++ lvD b := by
  unfold lvD
  rw [pts, List.flatMap_cons, List.flatMap_append, lvD_map, lvD_map]
  rfl
theorem rangeD_app (lo : Int) (m : Nat) : ∀ n : Nat, rangeD lo (m + n) = rangeD lo m ++ rangeD (lo + m) n := by
  intro n
  unfold rangeD
  rw [List.range_add, List.map_append, List.map_map]
  congr 1
  refine List.map_congr_left fun i _ => ?_
  simp only [Function.comp]
  congr 1
  omega
theorem lvD_nam (g : List Nat) : ∀ (s : Sh) (k : Nat), lvD (nam g s k) = rangeD k s.lv
  | .lf, k => by simp [nam, lvD_leaf, rangeD, Sh.lv]
  | .nd a b, k => by
    rw [nam, lvD_fork, lvD_nam g a k, lvD_nam g b (k + a.lv)]
    rw [show (Sh.nd a b).lv = a.lv + b.lv from rfl, rangeD_app]
    rfl
theorem okDs_map {l : List Tr} (h : ∀ y ∈ l, y.ok) : okDs (l.map Tr.d) = true := by
  induction l with
  | nil => rfl
  | cons y l ih =>
    rw [List.map_cons, okDs, (Tr.dat (h y List.mem_cons_self)).2.2.1, ih fun z hz => h z (List.mem_cons_of_mem _ hz)]
    rfl
theorem cmpTnil (xs : List D) (h : okDs xs = true) : cmpD .eq (.tup xs) (.tup []) = some (.bl xs.isEmpty) := by
  have e : eqDs xs [] = xs.isEmpty := by cases xs <;> rfl
  simp only [cmpD, okD, h, okDs, Bool.and_self, eqD, e, Bool.true_and]
  rw [if_pos (by simp; right; decide)]
theorem lv_one (m : Nat) (C : Cells) (x0 : Sl) (z y : D) (ks : List D) (h : callD T m 8 [y] C = .ok (.tup ks) C) (hk : okDs ks = true) : cmF (callD T m) (.v 2) (.tp (.cons (.v 1) (.cons (.v 2) .nil))) (.so (.cmp .eq (.call 8 (.cons (.v 2) .nil)) (.tup .nil))) [x0, .emp, .emp] (.tup [z, y]) C = .ok (if ks.isEmpty then [y] else []) C := by
  have e := cmpTnil ks hk
  cases hb : ks.isEmpty <;> rw [hb] at e <;> simp [cmF, bindT, bindTs, wipeS, Tg.vars, Tgs.vars, evc, ev, evs, R.bind, R.of, slotD, h, e, truthD]
theorem leavesof_ok (C : Cells) (t : Tr) (h : t.ok) {e : D} (he : Mx t.d e) (hs : t.size ≤ 200) (hd : t.dep ≤ 30) (n : Nat) (hn : t.dep + 8 ≤ n) : callD T (n + 1) 170 [e] C = .ok (.tup (lvD t)) C := by
  obtain ⟨k, rfl⟩ : ∃ k, n = k + 1 := ⟨n - 1, by omega⟩
  have h1 := suret_ok C t h he hs hd k (by omega)
  have h2 := parts_ok C t h (by omega) (by omega) k (by omega)
  have hi : evi (callD T (k + 1)) (.e (.call 39 (.cons (.call 21 (.cons (.v 0) .nil)) .nil))) [.val e, .emp, .emp] C = .ok ((pts t).map pD) C := by
    refine evi_e (x := .lst ((pts t).map pD)) ?_ rfl
    simp [ev, evs, R.bind, R.of, slotD, h1, h2]
  have hc : loopC (cmF (callD T (k + 1)) (.v 2) (.tp (.cons (.v 1) (.cons (.v 2) .nil))) (.so (.cmp .eq (.call 8 (.cons (.v 2) .nil)) (.tup .nil))) [.val e, .emp, .emp]) ((pts t).map pD) C = .ok (lvD t) C := by
    refine loopC_fl fun p hp => ?_
    obtain ⟨a, b, c⟩ := pts_all t h p hp
    have := lv_one (k + 1) C (.val e) (.tup (p.1.map .int)) p.2.d _ (sides_ok C p.2 b k).1 (okDs_map fun y hy => (p.2.kid_ok b hy).1)
    rw [show (p.2.kids.map Tr.d).isEmpty = p.2.kids.isEmpty by cases p.2.kids <;> rfl] at this
    exact this
  have hl : (lvD t).length ≤ sizeMost := by
    have : (lvD t).length ≤ (pts t).length := by
      unfold lvD
      generalize pts t = l
      induction l with
      | nil => exact Nat.le_refl _
      | cons p l ih =>
        rw [List.flatMap_cons, List.length_append, List.length_cons]
        have : (if p.2.kids.isEmpty then [p.2.d] else []).length ≤ 1 := by split <;> simp
        omega
    rw [pts_len] at this
    unfold sizeMost
    omega
  have h3 := ev_bi1 (f := .tuple) (ev_comp hi hc hl) (d := .tup (lvD t)) rfl
  refine call_rt (fd := f170) rfl rfl (ss_rt ?_)
  have es : startS f170.names.length [e] = [.val e, .emp, .emp] := rfl
  rw [es, evS, h3]
end Mi

set_option Elab.async false
set_option linter.all false
set_option maxRecDepth 100000
set_option maxHeartbeats 4000000
namespace Mi
open Tr (lfOk)
/-! ### _law_parts: the walk -/
def rp (p : List Int) : Tr → List PT
  | .leaf x => [(p, .leaf x)]
  | .turn t => (p, .turn t) :: rp (p ++ [0]) t
  | .fork g a b => (p, .fork g a b) :: (rp (p ++ [1]) b ++ rp (p ++ [0]) a)
def spread (p : List Int) (t : Tr) : List PT := (rowsT t).map fun r => (p ++ [r.1], r.2)
theorem rp_eq (p : List Int) (t : Tr) : rp p t = (p, t) :: (spread p t).reverse.flatMap fun q => rp q.1 q.2 := by
  cases t <;> simp [rp, spread, rowsT]
def tot (l : List PT) : Nat := (l.map fun q => q.2.size).sum
theorem size_pos (t : Tr) : 1 ≤ t.size := by cases t <;> simp [Tr.size]
theorem tot_spread (p : List Int) (t : Tr) : tot (spread p t) + 1 = t.size := by
  cases t <;> simp [tot, spread, rowsT, Tr.size]
theorem tot_app (a b : List PT) : tot (a ++ b) = tot a + tot b := by simp [tot]
theorem tot_rev (a : List PT) : tot a.reverse = tot a := by simp [tot]
theorem tot_len : ∀ l : List PT, l.length ≤ tot l
  | [] => Nat.le_refl _
  | q :: l => by
    have := tot_len l
    have := size_pos q.2
    simp only [tot, List.map_cons, List.sum_cons, List.length_cons] at *
    omega
theorem addTup (l : List Int) (i : Int) (h : l.length ≤ 1000) : binD .add (.tup (l.map .int)) (.tup [.int i]) = some (.tup ((l ++ [i]).map .int)) := by
  have : (l.map D.int).length + ([D.int i] : List D).length ≤ sizeMost := by rw [List.length_map]; show l.length + 1 ≤ sizeMost; unfold sizeMost; omega
  simp only [binD, if_pos this]
  rw [List.map_append]
  rfl
abbrev lpG (cl : Call) (x : D) (σ : List Sl) (C : Cells) : R Fl := match bindT (.tp (.cons (.v 7) (.cons (.v 8) .nil))) x σ with
  | none => .bad
  | some σ => evSs cl (.cons (.app 4 (.tup (.cons (.bin .add (.v 5) (.tup (.cons (.v 7) .nil))) (.cons (.v 8) .nil)))) .nil) σ C
theorem lp_one (cl : Call) (C : Cells) (x0 x1 x2 x3 x6 s7 s8 : Sl) (st : List D) (pth z y : D) (i : Int) (h : binD .add pth (.tup [.int i]) = some z) (hl : st.length < sizeMost) : lpG cl (.tup [.int i, y]) [x0, x1, x2, x3, .ol st, .val pth, x6, s7, s8] C = .ok (.nx [x0, x1, x2, x3, .ol (st ++ [.tup [z, y]]), .val pth, x6, .val (.int i), .val y]) C := by
  show evSs cl (.cons (.app 4 (.tup (.cons (.bin .add (.v 5) (.tup (.cons (.v 7) .nil))) (.cons (.v 8) .nil)))) .nil) [x0, x1, x2, x3, .ol st, .val pth, x6, .val (.int i), .val y] C = _
  simp [evSs, evS, ev, evs, R.bind, R.of, slotD, h, hl]
theorem loopS_bk {f : D → List Sl → Cells → R Fl} {x : D} {xs : List D} {σ σ' : List Sl} {C C' : Cells} (h : f x σ C = .ok (.bk σ') C') : loopS f (x :: xs) σ C = .ok (.nx σ') C' := by
  simp only [loopS, h]
theorem mapPD (a : List PT) (q : PT) : (a ++ [q]).map pD = a.map pD ++ [.tup [.tup (q.1.map .int), q.2.d]] := by
  rw [@List.map_append _ _ pD]
  rfl
theorem lp_inner (cl : Call) (C : Cells) (x0 x1 x2 x3 x6 : Sl) (p : List Int) (hp : p.length ≤ 1000) : ∀ (rows : List (Int × Tr)) (st : List PT) (s7 s8 : Sl), st.length + rows.length ≤ 1000000 → ∃ t7 t8, loopS (lpG cl) (rows.map fun r => .tup [.int r.1, r.2.d]) [x0, x1, x2, x3, .ol (st.map pD), .val (.tup (p.map .int)), x6, s7, s8] C = .ok (.nx [x0, x1, x2, x3, .ol ((st ++ rows.map fun r => (p ++ [r.1], r.2)).map pD), .val (.tup (p.map .int)), x6, t7, t8]) C
  | [], st, s7, s8, _ => ⟨s7, s8, by rw [List.map_nil, List.map_nil, List.append_nil]; rfl⟩
  | r :: rows, st, s7, s8, hl => by
    simp only [List.length_cons] at hl
    obtain ⟨t7, t8, ih⟩ := lp_inner cl C x0 x1 x2 x3 x6 p hp rows (st ++ [(p ++ [r.1], r.2)]) (.val (.int r.1)) (.val r.2.d) (by simp only [List.length_append, List.length_cons, List.length_nil]; omega)
    refine ⟨t7, t8, ?_⟩
    have h1 := lp_one cl C x0 x1 x2 x3 x6 s7 s8 (st.map pD) _ _ r.2.d r.1 (addTup p r.1 hp) (by rw [List.length_map]; unfold sizeMost; omega)
    rw [List.map_cons, List.map_cons]
    rw [show st ++ (p ++ [r.1], r.2) :: List.map (fun r => (p ++ [r.1], r.2)) rows = (st ++ [(p ++ [r.1], r.2)]) ++ List.map (fun r => (p ++ [r.1], r.2)) rows by simp]
    refine (loopS_nx h1).trans ?_
    rw [← mapPD st (p ++ [r.1], r.2)]
    exact ih
theorem okD_ints : ∀ l : List Int, okDs (l.map .int) = true
  | [] => rfl
  | i :: r => by rw [List.map_cons, okDs, okD_ints r]; rfl
theorem okD_pD {q : PT} (h : q.2.ok) : okD (pD q) = true := by
  simp only [pD, okD, okDs, okD_ints, (Tr.dat h).2.2.1, Bool.and_self]
theorem okDs_pD : ∀ {l : List PT}, (∀ q ∈ l, q.2.ok) → okDs (l.map pD) = true
  | [], _ => rfl
  | q :: l, h => by
    rw [List.map_cons, okDs, okD_pD (h q List.mem_cons_self), okDs_pD fun z hz => h z (List.mem_cons_of_mem _ hz)]
    rfl
abbrev lpB : Ss := .cons (.ifs (.cmp .eq (.b 4) (.lst .nil)) (.cons (.brk) .nil) .nil) (.cons (.popTo (.tp (.cons (.v 5) (.cons (.v 6) .nil))) 4) (.cons (.app 3 (.tup (.cons (.v 5) (.cons (.v 6) .nil)))) (.cons (.for_ (.tp (.cons (.v 7) (.cons (.v 8) .nil))) (.enum (.call 28 (.cons (.v 6) .nil))) (.cons (.app 4 (.tup (.cons (.bin .add (.v 5) (.tup (.cons (.v 7) .nil))) (.cons (.v 8) .nil)))) .nil)) .nil)))
abbrev lpF (cl : Call) (x : D) (σ : List Sl) (C : Cells) : R Fl := match bindT (.v 1) x σ with
  | none => .bad
  | some σ => evSs cl lpB σ C
theorem lp_stop (cl : Call) (C : Cells) (x x0 s1 x2 x3 s5 s6 s7 s8 : _) : lpF cl x [x0, s1, x2, x3, .ol [], s5, s6, s7, s8] C = .ok (.bk [x0, .val x, x2, x3, .ol [], s5, s6, s7, s8]) C := rfl
theorem lp_step (cl : Call) (C : Cells) (x : D) (x0 s1 x2 s5 s6 s7 s8 : Sl) (fd st : List D) (pt y : D) (σ' : List Sl) (rows : List D) (ho : okDs (st ++ [.tup [pt, y]]) = true) (hf : fd.length < sizeMost) (he : evi cl (.enum (.call 28 (.cons (.v 6) .nil))) [x0, .val x, x2, .ol (fd ++ [.tup [pt, y]]), .ol st, .val pt, .val y, s7, s8] C = .ok rows C)
    (hl : loopS (lpG cl) rows [x0, .val x, x2, .ol (fd ++ [.tup [pt, y]]), .ol st, .val pt, .val y, s7, s8] C = .ok (.nx σ') C) : lpF cl x [x0, s1, x2, .ol fd, .ol (st ++ [.tup [pt, y]]), s5, s6, s7, s8] C = .ok (.nx σ') C := by
  show evSs cl lpB [x0, .val x, x2, .ol fd, .ol (st ++ [.tup [pt, y]]), s5, s6, s7, s8] C = _
  have e1 : cmpD .eq (.lst (st ++ [.tup [pt, y]])) (.lst []) = some (.bl false) := by
    rw [cmpLnil _ ho]
    cases st <;> rfl
  refine ss_nx (C1 := C) (σ' := [x0, .val x, x2, .ol fd, .ol (st ++ [.tup [pt, y]]), s5, s6, s7, s8]) ?_ (ss_nx (C1 := C) (σ' := [x0, .val x, x2, .ol fd, .ol st, .val pt, .val y, s7, s8]) ?_ (ss_nx (C1 := C) (σ' := [x0, .val x, x2, .ol (fd ++ [.tup [pt, y]]), .ol st, .val pt, .val y, s7, s8]) ?_ (ss_nx (C1 := C) (σ' := σ') ?_ rfl)))
  · simp [evSs, evS, ev, evs, R.bind, R.of, slotB, truthD, e1]
  · simp [evS, R.of, bindT, bindTs]
  · simp [evS, ev, evs, R.bind, R.of, slotD, hf]
  · rw [evS, he]
    exact hl
theorem lp_loop (m : Nat) (C : Cells) (x0 : Sl) : ∀ (laps : List D) (fd rst : List PT) (s1 s5 s6 s7 s8 : Sl), tot rst ≤ laps.length → fd.length + tot rst ≤ 1000000 → (∀ q ∈ rst, q.2.ok ∧ q.1.length + q.2.dep ≤ 1000) →
    ∃ t1 t5 t6 t7 t8, loopS (lpF (callD T (m + 1))) laps [x0, s1, .emp, .ol (fd.map pD), .ol (rst.reverse.map pD), s5, s6, s7, s8] C = .ok (.nx [x0, t1, .emp, .ol ((fd ++ rst.flatMap fun q => rp q.1 q.2).map pD), .ol [], t5, t6, t7, t8]) C
  | [], fd, [], s1, s5, s6, s7, s8, _, _, _ => ⟨s1, s5, s6, s7, s8, by rw [List.flatMap_nil, List.append_nil]; rfl⟩
  | [], fd, q :: r, s1, s5, s6, s7, s8, h, _, _ => by
    have := tot_len (q :: r)
    simp only [List.length_cons, List.length_nil] at *
    omega
  | x :: laps, fd, [], s1, s5, s6, s7, s8, _, _, _ => ⟨.val x, s5, s6, s7, s8, by
    rw [List.flatMap_nil, List.append_nil]
    exact loopS_bk (lp_stop _ C x x0 s1 .emp (.ol (fd.map pD)) s5 s6 s7 s8)⟩
  | x :: laps, fd, (p, t) :: r, s1, s5, s6, s7, s8, h, hb, ha => by
    obtain ⟨hok, hlen⟩ := ha (p, t) List.mem_cons_self
    have hts := tot_spread p t
    have htot : tot ((p, t) :: r) = t.size + tot r := by simp [tot]
    have h1 : tot ((spread p t).reverse ++ r) + 1 = tot ((p, t) :: r) := by
      rw [tot_app, tot_rev, htot]; omega
    have hr := tot_len r
    have hrows : (rowsT t).length ≤ tot (spread p t) := by
      have := tot_len (spread p t)
      rw [spread, List.length_map] at this
      exact this
    have hp : p.length ≤ 1000 := by have : p.length + t.dep ≤ 1000 := hlen; omega
    rw [List.length_cons] at h
    obtain ⟨t7, t8, hin⟩ := lp_inner (callD T (m + 1)) C x0 (.val x) .emp (.ol ((fd ++ [(p, t)]).map pD)) (.val t.d) p hp (rowsT t) r.reverse s7 s8 (by rw [List.length_reverse]; omega)
    obtain ⟨u1, u5, u6, u7, u8, ih⟩ := lp_loop m C x0 laps (fd ++ [(p, t)]) ((spread p t).reverse ++ r) (.val x) (.val (.tup (p.map .int))) (.val t.d) t7 t8 (by omega) (by rw [List.length_append]; simp only [List.length_cons, List.length_nil]; omega) (fun q hq => by
      rcases List.mem_append.mp hq with hq | hq
      · have hq := List.mem_reverse.mp hq
        obtain ⟨w, hw, rfl⟩ := List.mem_map.mp hq
        obtain ⟨a, b, c⟩ := t.kid_ok hok (rows_mem hw)
        have hlen : p.length + t.dep ≤ 1000 := hlen
        exact ⟨a, by simp only [List.length_append, List.length_cons, List.length_nil]; omega⟩
      · exact ha q (List.mem_cons_of_mem _ hq))
    refine ⟨u1, u5, u6, u7, u8, ?_⟩
    rw [List.reverse_append, List.reverse_reverse] at ih
    rw [List.flatMap_cons, rp_eq]
    rw [show fd ++ ((p, t) :: List.flatMap (fun q => rp q.fst q.snd) (spread p t).reverse ++ List.flatMap (fun q => rp q.fst q.snd) r) = (fd ++ [(p, t)]) ++ List.flatMap (fun q => rp q.fst q.snd) ((spread p t).reverse ++ r) by simp]
    have hst : ((p, t) :: r).reverse.map pD = r.reverse.map pD ++ [.tup [.tup (p.map .int), t.d]] := by
      rw [List.reverse_cons, mapPD]
    rw [hst]
    have hok2 : okDs (r.reverse.map pD ++ [.tup [.tup (p.map .int), t.d]]) = true := by
      rw [← hst]
      exact okDs_pD fun q hq => (ha q (List.mem_reverse.mp hq)).1
    have hfd : (fd ++ [(p, t)]).map pD = fd.map pD ++ [.tup [.tup (p.map .int), t.d]] := mapPD fd (p, t)
    rw [hfd] at hin
    refine (loopS_nx (lp_step (callD T (m + 1)) C x x0 s1 .emp s5 s6 s7 s8 (fd.map pD) (r.reverse.map pD) _ _ _ _ hok2 (by rw [List.length_map]; unfold sizeMost; omega) ?_ hin)).trans ?_
    · rw [← rows_enum t]
      simp [evi, ev, evs, R.bind, R.of, slotD, (sides_ok C t hok m).2, seqD]
    · rw [← hfd]
      exact ih
end Mi

set_option Elab.async false
set_option linter.all false
set_option maxRecDepth 100000
set_option maxHeartbeats 4000000
namespace Mi
open Tr (lfOk)
/-! ### _law_parts: facts of the walk -/
theorem rp_len : ∀ (t : Tr) (p : List Int), (rp p t).length = t.size
  | .leaf x, p => rfl
  | .turn t, p => by simp only [rp, List.length_cons, rp_len t, Tr.size]
  | .fork g a b, p => by simp only [rp, List.length_cons, List.length_append, rp_len a, rp_len b, Tr.size]; omega
theorem rp_all : ∀ (t : Tr) (p : List Int), t.ok → ∀ q ∈ rp p t, q.2.ok ∧ (∃ r : List Int, q.1 = p ++ r ∧ r.length ≤ t.dep)
  | .leaf x, p, h => fun q hq => by
    simp only [rp, List.mem_singleton] at hq
    subst hq
    exact ⟨h, [], by simp, Nat.le_refl _⟩
  | .turn t, p, h => fun q hq => by
    simp only [rp, List.mem_cons] at hq
    rcases hq with rfl | hq
    · exact ⟨h, [], by simp, Nat.zero_le _⟩
    · obtain ⟨a, r, e, l⟩ := rp_all t (p ++ [0]) h q hq
      exact ⟨a, 0 :: r, by rw [e]; simp, by simp only [List.length_cons, Tr.dep]; omega⟩
  | .fork g x y, p, h => fun q hq => by
    simp only [rp, List.mem_cons, List.mem_append] at hq
    rcases hq with rfl | hq | hq
    · exact ⟨h, [], by simp, Nat.zero_le _⟩
    · obtain ⟨a, r, e, l⟩ := rp_all y (p ++ [1]) h.2.2 q hq
      exact ⟨a, 1 :: r, by rw [e]; simp, by simp only [List.length_cons, Tr.dep]; omega⟩
    · obtain ⟨a, r, e, l⟩ := rp_all x (p ++ [0]) h.2.1 q hq
      exact ⟨a, 0 :: r, by rw [e]; simp, by simp only [List.length_cons, Tr.dep]; omega⟩
theorem rp_deep : ∀ (t : Tr) (p : List Int), ∃ q ∈ rp p t, q.1.length = p.length + t.dep
  | .leaf x, p => ⟨(p, .leaf x), by simp [rp], by simp [Tr.dep]⟩
  | .turn t, p => by
    obtain ⟨q, hq, e⟩ := rp_deep t (p ++ [0])
    exact ⟨q, by simp only [rp, List.mem_cons]; exact .inr hq, by rw [e]; simp only [List.length_append, List.length_cons, List.length_nil, Tr.dep]; omega⟩
  | .fork g a b, p => by
    by_cases hc : a.dep ≤ b.dep
    · obtain ⟨q, hq, e⟩ := rp_deep b (p ++ [1])
      exact ⟨q, by simp only [rp, List.mem_cons, List.mem_append]; exact .inr (.inl hq), by rw [e]; simp only [List.length_append, List.length_cons, List.length_nil, Tr.dep]; omega⟩
    · obtain ⟨q, hq, e⟩ := rp_deep a (p ++ [0])
      exact ⟨q, by simp only [rp, List.mem_cons, List.mem_append]; exact .inr (.inr hq), by rw [e]; simp only [List.length_append, List.length_cons, List.length_nil, Tr.dep]; omega⟩
theorem rp_pre : ∀ (t : Tr) (p : List Int), ∀ q ∈ rp p t, ∃ r : List Int, q.1 = p ++ r
  | .leaf x, p => fun q hq => by
    simp only [rp, List.mem_singleton] at hq
    subst hq
    exact ⟨[], by simp⟩
  | .turn t, p => fun q hq => by
    simp only [rp, List.mem_cons] at hq
    rcases hq with rfl | hq
    · exact ⟨[], by simp⟩
    · obtain ⟨r, e⟩ := rp_pre t (p ++ [0]) q hq
      exact ⟨0 :: r, by rw [e]; simp⟩
  | .fork g x y, p => fun q hq => by
    simp only [rp, List.mem_cons, List.mem_append] at hq
    rcases hq with rfl | hq | hq
    · exact ⟨[], by simp⟩
    · obtain ⟨r, e⟩ := rp_pre y (p ++ [1]) q hq
      exact ⟨1 :: r, by rw [e]; simp⟩
    · obtain ⟨r, e⟩ := rp_pre x (p ++ [0]) q hq
      exact ⟨0 :: r, by rw [e]; simp⟩
theorem rp_nodup : ∀ (t : Tr) (p : List Int), ((rp p t).map (·.1)).Nodup
  | .leaf x, p => by simp [rp]
  | .turn t, p => by
    rw [rp, List.map_cons, List.nodup_cons]
    refine ⟨fun h => ?_, rp_nodup t _⟩
    obtain ⟨q, hq, e⟩ := List.mem_map.mp h
    obtain ⟨r, e2⟩ := rp_pre t (p ++ [0]) q hq
    have := congrArg List.length (e.symm.trans e2)
    simp only [List.length_append, List.length_cons, List.length_nil] at this
    omega
  | .fork g a b, p => by
    rw [rp, List.map_cons, List.nodup_cons, List.map_append]
    refine ⟨fun h => ?_, ?_⟩
    · rcases List.mem_append.mp h with h | h
      · obtain ⟨q, hq, e⟩ := List.mem_map.mp h
        obtain ⟨r, e2⟩ := rp_pre b (p ++ [1]) q hq
        have := congrArg List.length (e.symm.trans e2)
        simp only [List.length_append, List.length_cons, List.length_nil] at this
        omega
      · obtain ⟨q, hq, e⟩ := List.mem_map.mp h
        obtain ⟨r, e2⟩ := rp_pre a (p ++ [0]) q hq
        have := congrArg List.length (e.symm.trans e2)
        simp only [List.length_append, List.length_cons, List.length_nil] at this
        omega
    · refine List.nodup_append.mpr ⟨rp_nodup b _, rp_nodup a _, fun x hx y hy hxy => ?_⟩
      obtain ⟨q, hq, e⟩ := List.mem_map.mp hx
      obtain ⟨q', hq', e'⟩ := List.mem_map.mp hy
      obtain ⟨r, e2⟩ := rp_pre b (p ++ [1]) q hq
      obtain ⟨r', e2'⟩ := rp_pre a (p ++ [0]) q' hq'
      have e : q.1 = x := e
      have e' : q'.1 = y := e'
      rw [e2] at e
      rw [e2'] at e'
      rw [← hxy, ← e, List.append_assoc, List.append_assoc] at e'
      have := List.append_cancel_left e'
      simp at this
/-! ### the table -/
def kP (p : List Int) : D := .tup (p.map .int)
theorem eqD_ints : ∀ a b : List Int, eqDs (a.map .int) (b.map .int) = decide (a = b)
  | [], [] => rfl
  | [], _ :: _ => rfl
  | _ :: _, [] => rfl
  | i :: a, j :: b => by
    rw [List.map_cons, List.map_cons, eqDs, eqD_ints a b, eqD]
    by_cases h : i = j
    · subst h; simp
    · simp [h]
theorem eqK (p q : List Int) : eqD (kP p) (kP q) = decide (p = q) := eqD_ints p q
theorem hasD_no : ∀ {l : List PT} {x : List Int}, (∀ q ∈ l, q.1 ≠ x) → hasD (l.map fun q => kP q.1) (kP x) = false
  | [], _, _ => rfl
  | q :: l, x, h => by
    have := hasD_no (l := l) fun z hz => h z (List.mem_cons_of_mem _ hz)
    unfold hasD at this ⊢
    rw [List.map_cons, List.any_cons, this, eqK, decide_eq_false (h q List.mem_cons_self)]
    rfl
theorem putVs_no : ∀ {l : List PT} {ws : List D} {x : List Int} {v : D}, ws.length = l.length → (∀ q ∈ l, q.1 ≠ x) → putVs (l.map fun q => kP q.1) ws (kP x) v = ws ++ [v]
  | [], [], _, _, _, _ => rfl
  | [], _ :: _, _, _, h, _ => by cases h
  | _ :: _, [], _, _, h, _ => by cases h
  | q :: l, w :: ws, x, v, hl, h => by
    have ih := putVs_no (l := l) (ws := ws) (x := x) (v := v) (by simpa using hl) fun z hz => h z (List.mem_cons_of_mem _ hz)
    rw [List.map_cons, putVs, eqK, if_neg (by simp [h q List.mem_cons_self]), ih]
    rfl
theorem merge_ok : ∀ (l acc : List PT), ((acc ++ l).map (·.1)).Nodup → mergeD (acc.map fun q => kP q.1) (acc.map fun q => q.2.d) (l.map fun q => kP q.1) (l.map fun q => q.2.d) = ((acc ++ l).map (fun q => kP q.1), (acc ++ l).map fun q => q.2.d)
  | [], acc, _ => by simp [mergeD]
  | q :: l, acc, h => by
    have hne : ∀ z ∈ acc, z.1 ≠ q.1 := fun z hz e => by
      rw [List.map_append] at h
      exact (List.nodup_append.mp h).2.2 z.1 (List.mem_map_of_mem hz) q.1 (by simp) e
    have ih := merge_ok l (acc ++ [q]) (by simpa using h)
    rw [List.map_cons, List.map_cons, mergeD]
    have e1 : putKs (acc.map fun q => kP q.1) (kP q.1) = (acc ++ [q]).map fun q => kP q.1 := by
      unfold putKs
      rw [hasD_no hne, if_neg Bool.false_ne_true]
      simp
    have e2 : putVs (acc.map fun q => kP q.1) (acc.map fun q => q.2.d) (kP q.1) q.2.d = (acc ++ [q]).map fun q => q.2.d := by
      rw [putVs_no (by simp) hne]
      simp
    rw [e1, e2, ih]
    simp
theorem pairs_ok : ∀ l : List PT, pairsD (l.map pD) = some (l.map (fun q => kP q.1), l.map fun q => q.2.d)
  | [] => rfl
  | q :: l => by
    rw [List.map_cons, show pD q = .tup [kP q.1, q.2.d] from rfl, pairsD, pairs_ok l]
    rfl
theorem keyT_ints : ∀ p : List Int, (p.map D.int).all keyK = true
  | [] => rfl
  | i :: p => by rw [List.map_cons, List.all_cons, keyT_ints p]; rfl
theorem dict_ok (l : List PT) (h : (l.map (·.1)).Nodup) : biD (.dict 1) [.lst (l.map pD)] = some (.dct 1 (l.map fun q => kP q.1) (l.map fun q => q.2.d)) := by
  have h1 : (l.map fun q => kP q.1).all (keyOk 1) = true := by
    rw [List.all_eq_true]
    intro x hx
    obtain ⟨q, _, rfl⟩ := List.mem_map.mp hx
    exact keyT_ints q.1
  have h2 := merge_ok l [] h
  simp only [biD, pairs_ok, dictD]
  rw [if_pos h1]
  simp only [List.map_nil, List.nil_append] at h2
  rw [h2]
theorem look_ok : ∀ (l : List PT), (l.map (·.1)).Nodup → ∀ q ∈ l, lookD (l.map fun q => kP q.1) (l.map fun q => q.2.d) (kP q.1) = some q.2.d
  | [], _, q, hq => by cases hq
  | z :: l, h, q, hq => by
    rw [List.map_cons, List.nodup_cons] at h
    rw [List.map_cons, List.map_cons, lookD, eqK]
    rcases List.mem_cons.mp hq with rfl | hq
    · simp
    · have : z.1 ≠ q.1 := fun e => h.1 (by rw [e]; exact List.mem_map_of_mem hq)
      rw [if_neg (by simp [this])]
      exact look_ok l h.2 q hq
/-! ### sorted -/
theorem insG_prm (lt : D → D → Bool) (x : D) : ∀ ys, (insG lt x ys).Perm (x :: ys)
  | [] => List.Perm.refl _
  | y :: ys => by
    unfold insG
    split
    · exact ((insG_prm lt x ys).cons y).trans (List.Perm.swap x y ys)
    · exact List.Perm.refl _
theorem sortG_prm (lt : D → D → Bool) : ∀ xs, (sortG lt xs).Perm xs
  | [] => List.Perm.refl _
  | x :: xs => (insG_prm lt x _).trans ((sortG_prm lt xs).cons x)
theorem perm_map {α β : Type} (f : α → β) {l1 l2 : List β} (h : l1.Perm l2) : ∀ l : List α, l2 = l.map f → ∃ l' : List α, l'.Perm l ∧ l1 = l'.map f := by
  induction h with
  | nil =>
    intro l e
    cases l with
    | nil => exact ⟨[], List.Perm.refl _, rfl⟩
    | cons => cases e
  | cons x _ ih =>
    intro l e
    cases l with
    | nil => cases e
    | cons a l =>
      rw [List.map_cons] at e
      cases e
      obtain ⟨l', h1, h2⟩ := ih l rfl
      exact ⟨a :: l', h1.cons a, by rw [List.map_cons, h2]⟩
  | swap x y l0 =>
    intro l e
    match l, e with
    | a :: b :: l, e =>
      simp only [List.map_cons] at e
      cases e
      exact ⟨b :: a :: l, List.Perm.swap a b l, rfl⟩
  | trans _ _ ih1 ih2 =>
    intro l e
    obtain ⟨l', h1, h2⟩ := ih2 l e
    obtain ⟨l'', h3, h4⟩ := ih1 l' h2
    exact ⟨l'', h3.trans h1, h4⟩
theorem alike_ints : ∀ a b : List Int, alikeDs (a.map .int) (b.map .int) = true
  | [], _ => rfl
  | _ :: _, [] => rfl
  | i :: a, j :: b => by rw [List.map_cons, List.map_cons, alikeDs, alike_ints a b]; rfl
theorem deps_ints : ∀ a : List Int, deps (a.map .int) = 0
  | [] => rfl
  | i :: a => by rw [List.map_cons, deps, deps_ints a]; rfl
theorem okDs_keys : ∀ l : List PT, okDs (l.map fun q => kP q.1) = true
  | [] => rfl
  | q :: l => by
    rw [List.map_cons, okDs, okDs_keys l]
    show (okDs (q.1.map .int) && true) = true
    rw [okD_ints]
    rfl
theorem deps_keys : ∀ l : List PT, deps (l.map fun q => kP q.1) ≤ 1
  | [] => Nat.zero_le _
  | q :: l => by
    have := deps_keys l
    rw [List.map_cons, deps]
    have e : dep (kP q.1) = 1 := by show deps (q.1.map .int) + 1 = 1; rw [deps_ints]
    omega
theorem sort_ok (l : List PT) (hl : l.length ≤ 1000000) (vs : List D) : ∃ l' : List PT, l'.Perm l ∧ biD .sorted [.dct 1 (l.map fun q => kP q.1) vs] = some (.lst (l'.map fun q => kP q.1)) := by
  have h : sortOk (l.map fun q => kP q.1) = true := by
    unfold sortOk
    have h1 := okDs_keys l
    have h2 := deps_keys l
    have h3 : ((l.map fun q => kP q.1).all fun x => (l.map fun q => kP q.1).all (alikeD x)) = true := by
      rw [List.all_eq_true]
      intro x hx
      obtain ⟨q, _, rfl⟩ := List.mem_map.mp hx
      rw [List.all_eq_true]
      intro y hy
      obtain ⟨r, _, rfl⟩ := List.mem_map.mp hy
      exact alike_ints q.1 r.1
    have h4 : (l.map fun q => kP q.1).all isTupD = true := by
      rw [List.all_eq_true]
      intro x hx
      obtain ⟨q, _, rfl⟩ := List.mem_map.mp hx
      rfl
    have h5 : (l.map fun q => kP q.1).length ≤ sizeMost := by rw [List.length_map]; unfold sizeMost; omega
    rw [h1, h3, h4, decide_eq_true h5, decide_eq_true (show deps (l.map fun q => kP q.1) ≤ 100 by omega)]
    rfl
  obtain ⟨l', h1, h2⟩ := perm_map (fun q : PT => kP q.1) (sortG_prm ltB (l.map fun q => kP q.1)) l rfl
  refine ⟨l', h1, ?_⟩
  simp only [biD]
  rw [if_pos h]
  exact congrArg (fun x => some (D.lst x)) h2
end Mi

set_option Elab.async false
set_option linter.all false
set_option maxRecDepth 100000
set_option maxHeartbeats 4000000
namespace Mi
open Tr (lfOk)
theorem ixDT (C : Cells) (ks vs : List D) (p : List Int) (v : D) (h : lookD ks vs (kP p) = some v) : idxD C (.dct 1 ks vs) (kP p) = some v := by
  have : keyOk 1 (kP p) = true := keyT_ints p
  simp only [idxD]
  rw [if_pos this]
  exact h
theorem lp_ret (cl : Call) (C : Cells) (x0 x1 x3 x4 x5 x6 x7 x8 : Sl) (ks vs : List D) (y v : D) (h : idxD C (.dct 1 ks vs) y = some v) : cmF cl (.tup (.cons (.v 8) (.cons (.idx (.v 2) (.v 8)) .nil))) (.v 8) .no [x0, x1, .val (.dct 1 ks vs), x3, x4, x5, x6, x7, x8] y C = .ok [.tup [y, v]] C := by
  simp [cmF, bindT, wipeS, Tg.vars, evc, ev, evs, R.bind, R.of, slotD, h]
theorem lp_tail (m : Nat) (C : Cells) (x : D) (fs gs : List D) (ks vs : List D) (σ : List Sl) (x0 t1 t5 t6 t7 t8 : Sl) (x4 : Sl) (hx : startS f29.names.length [x] = σ) (hσ : σ = [.val x, .emp, .emp, .emp, .emp, .emp, .emp, .emp, .emp]) (hloop : loopS (lpF (callD T m)) (rangeD 0 2000) [.val x, .emp, .emp, .ol [], .ol [.tup [.tup [], x]], .emp, .emp, .emp, .emp] C = .ok (.nx [x0, t1, .emp, .ol fs, x4, t5, t6, t7, t8]) C)
    (hd : biD (.dict 1) [.lst fs] = some (.dct 1 ks vs)) (hs : ev (callD T m) (.comp (.tup (.cons (.v 8) (.cons (.idx (.v 2) (.v 8)) .nil))) (.mk (.v 8) (.e (.bi .sorted (.cons (.v 2) .nil))) .no)) [x0, t1, .val (.dct 1 ks vs), .ol fs, x4, t5, t6, t7, t8] C = .ok (.lst gs) C) : callD T (m + 1) 29 [x] C = .ok (.lst gs) C := by
  subst hσ
  refine call_rt (fd := f29) rfl rfl ?_
  rw [hx]
  have e1 : evi (callD T m) (.range1 (.lit (.int 2000))) [.val x, .emp, .emp, .ol [], .ol [.tup [.tup [], x]], .emp, .emp, .emp, .emp] C = .ok (rangeD 0 2000) C := by
    have : rngOk 0 2000 = true := by decide
    simp [evi, ev, R.bind, this]
  refine ss_nx (C1 := C) (σ' := [.val x, .emp, .emp, .ol [], .ol [.tup [.tup [], x]], .emp, .emp, .emp, .emp]) ?_ (ss_nx (C1 := C) (σ' := [x0, t1, .emp, .ol fs, x4, t5, t6, t7, t8]) ?_ (ss_nx (C1 := C) (σ' := [x0, t1, .val (.dct 1 ks vs), .ol fs, x4, t5, t6, t7, t8]) ?_ (ss_rt ?_)))
  · simp [evS, ev, evs, R.bind, R.of, slotD, parS]
  · rw [evS, e1]
    exact hloop
  · simp only [evS]
    rw [show ev (callD T m) (.bi (.dict 1) (.cons (.b 3) .nil)) [x0, t1, .emp, .ol fs, x4, t5, t6, t7, t8] C = .ok (.dct 1 ks vs) C by simp [ev, evs, R.bind, R.of, slotB, hd]]
    rfl
  · rw [evS, hs]
/-- _law_parts -/
theorem lparts_ok (C : Cells) (t : Tr) (h : t.ok) (hs : t.size ≤ 1900) (hd : t.dep ≤ 900) (n : Nat) (hn : 1 ≤ n) : ∃ gs : List PT, gs.Perm (rp [] t) ∧ callD T (n + 1) 29 [t.d] C = .ok (.lst (gs.map pD)) C := by
  obtain ⟨k, rfl⟩ : ∃ k, n = k + 1 := ⟨n - 1, by omega⟩
  have ht : tot [(([] : List Int), t)] = t.size := by simp [tot]
  obtain ⟨t1, t5, t6, t7, t8, hl⟩ := lp_loop k C (.val t.d) (rangeD 0 2000) [] [([], t)] .emp .emp .emp .emp .emp (by rw [rangeD_len, ht]; omega) (by rw [ht]; simp only [List.length_nil]; omega) (fun q hq => by
    simp only [List.mem_singleton] at hq
    subst hq
    exact ⟨h, by simp only [List.length_nil]; omega⟩)
  simp only [List.flatMap_cons, List.flatMap_nil, List.append_nil, List.nil_append] at hl
  have hnd := rp_nodup t []
  have hlen := rp_len t []
  obtain ⟨gs, g1, g2⟩ := sort_ok (rp [] t) (by omega) ((rp [] t).map fun q => q.2.d)
  refine ⟨gs, g1, ?_⟩
  refine lp_tail (k + 1) C t.d _ _ _ _ _ _ t1 t5 t6 t7 t8 _ rfl rfl hl (dict_ok _ hnd) ?_
  have hsrt : evi (callD T (k + 1)) (.e (.bi .sorted (.cons (.v 2) .nil))) [.val t.d, t1, .val (.dct 1 ((rp [] t).map fun q => kP q.1) ((rp [] t).map fun q => q.2.d)), .ol ((rp [] t).map pD), .ol [], t5, t6, t7, t8] C = .ok (gs.map fun q => kP q.1) C := by
    refine evi_e (ev_bi1 (x := .dct 1 ((rp [] t).map fun q => kP q.1) ((rp [] t).map fun q => q.2.d)) ?_ g2) rfl
    simp [ev, R.of, slotD]
  refine ev_comp hsrt (loopC_mp (g := pD) fun q hq => ?_) (by rw [List.length_map, g1.length_eq, hlen]; unfold sizeMost; omega)
  exact lp_ret _ C _ _ _ _ _ _ _ _ _ _ _ _ (ixDT C _ _ q.1 _ (look_ok _ hnd q (g1.mem_iff.mp hq)))
/-! ### _law_deep -/
theorem maxI_fold : ∀ (l : List Int) (x : Int), x ≤ l.foldl (fun a b => if b > a then b else a) x ∧ (∀ y ∈ l, y ≤ l.foldl (fun a b => if b > a then b else a) x) ∧ (l.foldl (fun a b => if b > a then b else a) x = x ∨ l.foldl (fun a b => if b > a then b else a) x ∈ l)
  | [], x => ⟨Int.le_refl _, (fun y hy => nomatch hy), .inl rfl⟩
  | z :: l, x => by
    obtain ⟨a, b, c⟩ := maxI_fold l (if z > x then z else x)
    rw [List.foldl_cons]
    have h1 : x ≤ if z > x then z else x := by split <;> omega
    have h2 : z ≤ if z > x then z else x := by split <;> omega
    refine ⟨Int.le_trans h1 a, fun y hy => ?_, ?_⟩
    · rcases List.mem_cons.mp hy with rfl | hy
      · exact Int.le_trans h2 a
      · exact b y hy
    · rcases c with c | c
      · by_cases hzx : z > x
        · rw [if_pos hzx] at c ⊢
          exact .inr (by rw [c]; exact List.mem_cons_self)
        · rw [if_neg hzx] at c ⊢
          exact .inl c
      · exact .inr (List.mem_cons_of_mem _ c)
theorem maxI_is {l : List Int} {m : Int} (h1 : m ∈ l) (h2 : ∀ y ∈ l, y ≤ m) : maxI l = some m := by
  cases l with
  | nil => cases h1
  | cons x l =>
    obtain ⟨a, b, c⟩ := maxI_fold l x
    have : l.foldl (fun a b => if b > a then b else a) x = m := by
      apply Int.le_antisymm
      · rcases c with c | c
        · rw [c]; exact h2 x List.mem_cons_self
        · exact h2 _ (List.mem_cons_of_mem _ c)
      · rcases List.mem_cons.mp h1 with rfl | h1
        · exact a
        · exact b m h1
    rw [maxI, this]
theorem deep_one (cl : Call) (C : Cells) (x0 : Sl) (p : List Int) (y : D) : cmF cl (.bi .len (.cons (.v 1) .nil)) (.tp (.cons (.v 1) (.cons (.v 2) .nil))) .no [x0, .emp, .emp] (.tup [.tup (p.map .int), y]) C = .ok [.int p.length] C := by
  simp [cmF, bindT, bindTs, wipeS, Tg.vars, Tgs.vars, evc, ev, evs, R.bind, R.of, slotD, biD]
theorem ldeep_ok (C : Cells) (t : Tr) (h : t.ok) (hs : t.size ≤ 1900) (hd : t.dep ≤ 900) (n : Nat) (hn : 2 ≤ n) : callD T (n + 1) 31 [t.d] C = .ok (.int t.dep) C := by
  obtain ⟨k, rfl⟩ : ∃ k, n = k + 1 := ⟨n - 1, by omega⟩
  obtain ⟨gs, g1, g2⟩ := lparts_ok C t h hs hd k (by omega)
  have hi : evi (callD T (k + 1)) (.e (.call 29 (.cons (.v 0) .nil))) [.val t.d, .emp, .emp] C = .ok (gs.map pD) C := by
    refine evi_e (x := .lst (gs.map pD)) ?_ rfl
    simp [ev, evs, R.bind, R.of, slotD, g2]
  have hc := ev_comp (e := .bi .len (.cons (.v 1) .nil)) (t := .tp (.cons (.v 1) (.cons (.v 2) .nil))) (c := .no) hi (loopC_mp (g := fun q : PT => D.int q.1.length) fun q hq => deep_one _ C _ q.1 q.2.d) (by rw [List.length_map, g1.length_eq, rp_len]; unfold sizeMost; omega)
  have e : gs.map (fun q : PT => D.int q.1.length) = (gs.map fun q => (q.1.length : Int)).map .int := by rw [List.map_map]; rfl
  rw [e] at hc
  have hm : maxI (gs.map fun q => (q.1.length : Int)) = some (t.dep : Int) := by
    refine maxI_is ?_ fun y hy => ?_
    · obtain ⟨q, hq, e⟩ := rp_deep t []
      refine List.mem_map.mpr ⟨q, g1.mem_iff.mpr hq, ?_⟩
      rw [e]
      simp
    · obtain ⟨q, hq, rfl⟩ := List.mem_map.mp hy
      obtain ⟨_, r, e, hl⟩ := rp_all t [] h q (g1.mem_iff.mp hq)
      rw [e]
      simp only [List.nil_append]
      omega
  have h2 := ev_bi1 (f := .max1) hc (d := .int t.dep) (by simp only [biD, intsD_mp, hm, Option.bind, Option.map])
  refine call_rt (fd := f31) rfl rfl (ss_rt ?_)
  have es : startS f31.names.length [t.d] = [.val t.d, .emp, .emp] := rfl
  rw [es, evS, h2]
end Mi

set_option Elab.async false
set_option linter.all false
set_option maxRecDepth 100000
set_option maxHeartbeats 4000000
namespace Mi
open Tr (lfOk)
/-! ## Drawn trees -/
abbrev sgL : List D := [.str [43], .str [45], .str [42]]
abbrev lfL : List D := [.str [97], .str [98], .str [99], .str [120, 49], .str [108, 111, 110, 103, 110, 97, 109, 101], .str [100]]
abbrev niL : List D := [.int 0, .int 1, .int 2, .int 7, .int 1000000000]
theorem leaf_gen (m : Nat) (C C1 C2 : Cells) (r : Int) (x : D) (h1 : callD T m 22 [.cell, .int 3] C = .ok (.int r) C1) (h2 : callD T m 25 [.cell, .lst (if 0 < r then lfL else niL)] C1 = .ok x C2) : callD T (m + 1) 26 [.cell] C = .ok x C2 := by
  refine call_rt (fd := f26) rfl rfl (ss_rt ?_)
  by_cases hr : 0 < r
  · rw [if_pos hr] at h2
    simp [startS, f26, evS, ev, evs, R.bind, R.of, slotD, truthD, h1, cmpGt, hr, h2]
  · rw [if_neg hr] at h2
    simp [startS, f26, evS, ev, evs, R.bind, R.of, slotD, truthD, h1, cmpGt, hr, h2]
theorem leaf_dr (n : Nat) (hn : 2 ≤ n) {k : Nat} {C : Cells} (h : Dr (k + 2) C) : ∃ (x : D) (C' : Cells), callD T (n + 1) 26 [.cell] C = .ok x C' ∧ lfOk x ∧ Dr k C' := by
  obtain ⟨m, rfl⟩ : ∃ m, n = m + 2 := ⟨n - 2, by omega⟩
  obtain ⟨r, C1, g1, g2, g3, g4⟩ := take_dr (m + 1) 3 (by omega) (by omega) h
  by_cases hr : 0 < r
  · obtain ⟨x, C2, a1, a2, a3⟩ := of_dr m lfL (by decide) (by decide) g4
    exact ⟨x, C2, leaf_gen (m + 2) C C1 C2 r x g1 (by rw [if_pos hr]; exact a1), .inr a2, a3⟩
  · obtain ⟨x, C2, a1, a2, a3⟩ := of_dr m niL (by decide) (by decide) g4
    refine ⟨x, C2, leaf_gen (m + 2) C C1 C2 r x g1 (by rw [if_neg hr]; exact a1), .inl ?_, a3⟩
    simp only [niL, List.mem_cons, List.not_mem_nil, or_false] at a2
    rcases a2 with rfl | rfl | rfl | rfl | rfl <;> exact ⟨_, rfl, by decide, by decide⟩
theorem sgn_dr (n : Nat) (hn : 1 ≤ n) {k : Nat} {C : Cells} (h : Dr (k + 1) C) : ∃ (g : List Nat) (C' : Cells), callD T (n + 1) 25 [.cell, .lst sgL] C = .ok (.str g) C' ∧ g ∈ [[43], [45], [42]] ∧ Dr k C' := by
  obtain ⟨m, rfl⟩ : ∃ m, n = m + 1 := ⟨n - 1, by omega⟩
  obtain ⟨x, C2, a1, a2, a3⟩ := of_dr m sgL (by decide) (by decide) h
  simp only [sgL, List.mem_cons, List.not_mem_nil, or_false] at a2
  rcases a2 with rfl | rfl | rfl
  · exact ⟨_, C2, a1, by simp, a3⟩
  · exact ⟨_, C2, a1, by simp, a3⟩
  · exact ⟨_, C2, a1, by simp, a3⟩
/-- at times turned -/
abbrev trR : S := .ret (.ite (.and (.cmp .gt (.v 2) (.lit (.int 0))) (.cons (.cmp .eq (.call 22 (.cons (.v 0) (.cons (.v 2) .nil))) (.lit (.int 0))) .nil)) (.tup (.cons (.lit (.str [45])) (.cons (.v 3) .nil))) (.v 3))
theorem turn_no (cl : Call) (C : Cells) (x1 s4 s5 : Sl) (tu : Int) (x : D) (h : ¬ 0 < tu) : evS cl trR [.val .cell, x1, .val (.int tu), .val x, s4, s5] C = .ok (.rt x) C := by
  simp [evS, ev, evs, evAnd, R.bind, R.of, slotD, truthD, cmpGt, h]
theorem turn_yes (cl : Call) (C C1 : Cells) (x1 s4 s5 : Sl) (tu r : Int) (x : D) (h : 0 < tu) (h1 : cl 22 [.cell, .int tu] C = .ok (.int r) C1) : evS cl trR [.val .cell, x1, .val (.int tu), .val x, s4, s5] C = .ok (.rt (if r = 0 then .tup [.str [45], x] else x)) C1 := by
  by_cases hr : r = 0
  · simp [evS, ev, evs, evAnd, R.bind, R.of, slotD, truthD, cmpGt, cmpI, h, h1, hr]
  · simp [evS, ev, evs, evAnd, R.bind, R.of, slotD, truthD, cmpGt, cmpI, h, h1, hr]
theorem turn_dr (m : Nat) {k : Nat} {C : Cells} (x1 s4 s5 : Sl) (tu : Int) (htu : tu < 1000) (t : Tr) (ht : t.ok) (h : Dr (k + 1) C) : ∃ (t' : Tr) (C' : Cells), evS (callD T (m + 1)) trR [.val .cell, x1, .val (.int tu), .val t.d, s4, s5] C = .ok (.rt t'.d) C' ∧ t'.ok ∧ t'.dep ≤ t.dep + 1 ∧ t'.size ≤ t.size + 1 ∧ Dr k C' := by
  by_cases hp : 0 < tu
  · obtain ⟨r, C1, g1, g2, g3, g4⟩ := take_dr m tu hp (by omega) h
    have := turn_yes (callD T (m + 1)) C C1 x1 s4 s5 tu r t.d hp g1
    by_cases hr : r = 0
    · rw [if_pos hr] at this
      exact ⟨.turn t, C1, this, ht, Nat.le_refl _, Nat.le_refl _, g4⟩
    · rw [if_neg hr] at this
      exact ⟨t, C1, this, ht, by omega, by omega, g4⟩
  · exact ⟨t, C, turn_no _ C x1 s4 s5 tu t.d hp, ht, by omega, by omega, h.mono (by omega)⟩
theorem tree_1 (m : Nat) (C C1 C2 : Cells) (tu : Int) (x y : D) (h1 : callD T m 26 [.cell] C = .ok x C1) (h2 : evS (callD T m) trR [.val .cell, .val (.int 1), .val (.int tu), .val x, .emp, .emp] C1 = .ok (.rt y) C2) : callD T (m + 1) 27 [.cell, .int 1, .int tu] C = .ok y C2 := by
  refine call_rt (fd := f27) rfl rfl (ss_nx (C1 := C1) (σ' := [.val .cell, .val (.int 1), .val (.int tu), .val x, .emp, .emp]) ?_ (ss_rt h2))
  simp [startS, f27, evSs, evS, ev, evs, R.bind, R.of, slotD, truthD, cmpI, h1, bindT]
theorem tree_n (m : Nat) (C C1 C2 C3 C4 C5 C6 C7 : Cells) (L tu r4 r f : Int) (g a b y : D) (hL : L ≠ 1) (h1 : callD T m 22 [.cell, .int 4] C = .ok (.int r4) C1) (h2 : callD T m 22 [.cell, .int (L - 1)] C1 = .ok (.int r) C2)
    (h3 : (r4 = 1 ∧ callD T m 25 [.cell, .lst [.int 1, .int (L - 1)]] C2 = .ok (.int f) C3) ∨ (r4 ≠ 1 ∧ f = (if r4 = 0 then L / 2 else 1 + r) ∧ C3 = C2))
    (h4 : callD T m 25 [.cell, .lst sgL] C3 = .ok g C4) (h5 : callD T m 27 [.cell, .int f, .int tu] C4 = .ok a C5) (h6 : callD T m 27 [.cell, .int (L - f), .int tu] C5 = .ok b C6) (h7 : evS (callD T m) trR [.val .cell, .val (.int L), .val (.int tu), .val (.tup [g, a, b]), .val (.int r4), .val (.int f)] C6 = .ok (.rt y) C7) : callD T (m + 1) 27 [.cell, .int L, .int tu] C = .ok y C7 := by
  have lg : Nat.log2 2 < 9000 := by decide
  have hin : evSs (callD T m) (.cons (.asg (.v 4) (.call 22 (.cons (.v 0) (.cons (.lit (.int 4)) .nil)))) (.cons (.asg (.v 5) (.bin .add (.lit (.int 1)) (.call 22 (.cons (.v 0) (.cons (.bin .sub (.v 1) (.lit (.int 1))) .nil))))) (.cons (.ifs (.cmp .eq (.v 4) (.lit (.int 0))) (.cons (.asg (.v 5) (.bin .fdiv (.v 1) (.lit (.int 2)))) .nil) .nil) (.cons (.ifs (.cmp .eq (.v 4) (.lit (.int 1))) (.cons (.asg (.v 5) (.call 25 (.cons (.v 0) (.cons (.lst (.cons (.lit (.int 1)) (.cons (.bin .sub (.v 1) (.lit (.int 1))) .nil))) .nil)))) .nil) .nil) (.cons (.asg (.v 3) (.tup (.cons (.call 25 (.cons (.v 0) (.cons (.lst (.cons (.lit (.str [43])) (.cons (.lit (.str [45])) (.cons (.lit (.str [42])) .nil)))) .nil))) (.cons (.call 27 (.cons (.v 0) (.cons (.v 5) (.cons (.v 2) .nil)))) (.cons (.call 27 (.cons (.v 0) (.cons (.bin .sub (.v 1) (.v 5)) (.cons (.v 2) .nil)))) .nil))))) .nil)))))
      [.val .cell, .val (.int L), .val (.int tu), .emp, .emp, .emp] C = .ok (.nx [.val .cell, .val (.int L), .val (.int tu), .val (.tup [g, a, b]), .val (.int r4), .val (.int f)]) C6 := by
    refine ss_nx (C1 := C1) (σ' := [.val .cell, .val (.int L), .val (.int tu), .emp, .val (.int r4), .emp]) ?_ (ss_nx (C1 := C2) (σ' := [.val .cell, .val (.int L), .val (.int tu), .emp, .val (.int r4), .val (.int (1 + r))]) ?_ (ss_nx (C1 := C2) (σ' := [.val .cell, .val (.int L), .val (.int tu), .emp, .val (.int r4), .val (.int (if r4 = 0 then L / 2 else 1 + r))]) ?_ (ss_nx (C1 := C3) (σ' := [.val .cell, .val (.int L), .val (.int tu), .emp, .val (.int r4), .val (.int f)]) ?_ (ss_nx (C1 := C6) (σ' := [.val .cell, .val (.int L), .val (.int tu), .val (.tup [g, a, b]), .val (.int r4), .val (.int f)]) ?_ rfl))))
    · simp [evS, ev, evs, R.bind, R.of, slotD, h1, bindT]
    · simp [evS, ev, evs, R.bind, R.of, slotD, binD, h2, bindT]
    · by_cases q : r4 = 0
      · simp [evSs, evS, ev, evs, R.bind, R.of, slotD, truthD, cmpI, binD, lg, q, bindT]
      · simp [evSs, evS, ev, evs, R.bind, R.of, slotD, truthD, cmpI, q]
    · rcases h3 with ⟨q, h3⟩ | ⟨q, rfl, rfl⟩
      · simp [evSs, evS, ev, evs, R.bind, R.of, slotD, truthD, cmpI, binD, q, h3, bindT]
      · simp [evSs, evS, ev, evs, R.bind, R.of, slotD, truthD, cmpI, q]
    · simp [evS, ev, evs, R.bind, R.of, slotD, binD, h4, h5, h6, bindT]
  refine call_rt (fd := f27) rfl rfl (ss_nx (C1 := C6) (σ' := [.val .cell, .val (.int L), .val (.int tu), .val (.tup [g, a, b]), .val (.int r4), .val (.int f)]) ?_ (ss_rt h7))
  have e0 : ev (callD T m) (.cmp .eq (.v 1) (.lit (.int 1))) [.val .cell, .val (.int L), .val (.int tu), .emp, .emp, .emp] C = .ok (.bl false) C := by
    simp [ev, R.bind, R.of, slotD, cmpI, hL]
  show evS (callD T m) (.ifs _ _ _) [.val .cell, .val (.int L), .val (.int tu), .emp, .emp, .emp] C = _
  rw [evS, e0]
  exact hin
theorem tree_dr (tu : Int) (htu : tu < 1000) (L : Nat) : ∀ (n k : Nat) (C : Cells), 1 ≤ L → L < 1000 → L + 4 ≤ n → Dr (8 * L - 5 + k) C → ∃ (t : Tr) (C' : Cells), callD T (n + 1) 27 [.cell, .int L, .int tu] C = .ok t.d C' ∧ t.ok ∧ t.dep + 1 ≤ 2 * L ∧ t.size + 2 ≤ 4 * L ∧ Dr k C' := by
  induction L using Nat.strongRecOn with
  | _ L ih =>
    intro n k C h1 hb hn hk
    obtain ⟨m, rfl⟩ : ∃ m, n = m + 1 := ⟨n - 1, by omega⟩
    by_cases e : L = 1
    · subst e
      obtain ⟨x, C1, a1, a2, a3⟩ := leaf_dr m (by omega) (k := k + 1) (hk.mono (by omega))
      obtain ⟨t, C2, b1, b2, b3, b4, b5⟩ := turn_dr m (.val (.int 1)) .emp .emp tu htu (.leaf x) a2 a3
      refine ⟨t, C2, tree_1 (m + 1) C C1 C2 tu x t.d a1 b1, b2, ?_, ?_, b5⟩
      · simp only [Tr.dep] at b3; omega
      · simp only [Tr.size] at b4; omega
    · obtain ⟨r4, C1, a1, a2, a3, a4⟩ := take_dr m (k := 8 * L - 6 + k) 4 (by omega) (by omega) (hk.mono (by omega))
      obtain ⟨r, C2, b1, b2, b3, b4⟩ := take_dr m (k := 8 * L - 7 + k) ((L : Int) - 1) (by omega) (by omega) (a4.mono (by omega))
      obtain ⟨f, C3, hf, hf1, hf2, hf3⟩ : ∃ (f : Nat) (C3 : Cells), ((r4 = 1 ∧ callD T (m + 1) 25 [.cell, .lst [.int 1, .int ((L : Int) - 1)]] C2 = .ok (.int f) C3) ∨ (r4 ≠ 1 ∧ (f : Int) = (if r4 = 0 then (L : Int) / 2 else 1 + r) ∧ C3 = C2)) ∧ 1 ≤ f ∧ f < L ∧ Dr (8 * L - 8 + k) C3 := by
        by_cases q : r4 = 1
        · obtain ⟨m', rfl⟩ : ∃ m', m = m' + 1 := ⟨m - 1, by omega⟩
          obtain ⟨x, C3, c1, c2, c3⟩ := of_dr m' (k := 8 * L - 8 + k) [.int 1, .int ((L : Int) - 1)] (by show 0 < 2; omega) (by show 2 < 1000; omega) (b4.mono (by omega))
          simp only [List.mem_cons, List.not_mem_nil, or_false] at c2
          rcases c2 with rfl | rfl
          · exact ⟨1, C3, .inl ⟨q, c1⟩, by omega, by omega, c3⟩
          · refine ⟨L - 1, C3, .inl ⟨q, ?_⟩, by omega, by omega, c3⟩
            rw [show ((L - 1 : Nat) : Int) = (L : Int) - 1 by omega]
            exact c1
        · by_cases z : r4 = 0
          · exact ⟨L / 2, C2, .inr ⟨q, by rw [if_pos z]; omega, rfl⟩, by omega, by omega, b4.mono (by omega)⟩
          · exact ⟨1 + r.toNat, C2, .inr ⟨q, by rw [if_neg z]; omega, rfl⟩, by omega, by omega, b4.mono (by omega)⟩
      obtain ⟨g, C4, d1, d2, d3⟩ := sgn_dr m (by omega) (k := 8 * L - 9 + k) (hf3.mono (by omega))
      obtain ⟨a, C5, e1, e2, e3, e4, e5⟩ := ih f hf2 m (8 * (L - f) - 5 + (k + 1)) C4 hf1 (by omega) (by omega) (d3.mono (by omega))
      obtain ⟨b, C6, g1, g2, g3, g4, g5⟩ := ih (L - f) (by omega) m (k + 1) C5 (by omega) (by omega) (by omega) e5
      rw [show ((L - f : Nat) : Int) = (L : Int) - f by omega] at g1
      obtain ⟨t, C7, i1, i2, i3, i4, i5⟩ := turn_dr m (.val (.int L)) (.val (.int r4)) (.val (.int f)) tu htu (.fork g a b) ⟨d2, e2, g2⟩ g5
      refine ⟨t, C7, tree_n (m + 1) C C1 C2 C3 C4 C5 C6 C7 L tu r4 r f (.str g) a.d b.d t.d (by omega) a1 b1 hf d1 e1 g1 i1, i2, ?_, ?_, i5⟩
      · simp only [Tr.dep] at i3; omega
      · simp only [Tr.size] at i4; omega
theorem even_0 (m : Nat) (C C1 : Cells) (x : D) (h : callD T m 26 [.cell] C = .ok x C1) : callD T (m + 1) 73 [.cell, .int 0] C = .ok x C1 := by
  refine call_rt (fd := f73) rfl rfl (ss_rt ?_)
  simp [startS, f73, evS, ev, evs, R.bind, R.of, slotD, truthD, cmpI, h]
theorem even_n (m : Nat) (C C1 C2 C3 : Cells) (n : Int) (g x y : D) (hn : n ≠ 0) (h1 : callD T m 25 [.cell, .lst sgL] C = .ok g C1) (h2 : callD T m 73 [.cell, .int (n - 1)] C1 = .ok x C2) (h3 : callD T m 73 [.cell, .int (n - 1)] C2 = .ok y C3) : callD T (m + 1) 73 [.cell, .int n] C = .ok (.tup [g, x, y]) C3 := by
  refine call_rt (fd := f73) rfl rfl (ss_rt ?_)
  simp [startS, f73, evS, ev, evs, R.bind, R.of, slotD, truthD, cmpI, hn, h1, h2, h3, binD]
theorem even_dr : ∀ (h n k : Nat) (C : Cells), h ≤ 3 → h + 3 ≤ n → Dr (3 * 2 ^ h - 1 + k) C → ∃ (t : Tr) (C' : Cells), callD T (n + 1) 73 [.cell, .int h] C = .ok t.d C' ∧ t.ok ∧ t.dep ≤ h ∧ t.size + 1 ≤ 2 ^ (h + 1) ∧ Dr k C'
  | 0, n, k, C, _, hn, hk => by
    obtain ⟨x, C1, a1, a2, a3⟩ := leaf_dr (n - 1) (by omega) (k := k) (hk.mono (by simp; omega))
    refine ⟨.leaf x, C1, ?_, a2, Nat.le_refl _, by simp [Tr.size], a3⟩
    rw [show n - 1 + 1 = n by omega] at a1
    exact even_0 n C C1 x a1
  | h + 1, n, k, C, hh, hn, hk => by
    obtain ⟨m, rfl⟩ : ∃ m, n = m + 1 := ⟨n - 1, by omega⟩
    have hp : 1 ≤ 2 ^ h := Nat.one_le_two_pow
    have e1 : 2 ^ (h + 1) = 2 * 2 ^ h := by rw [Nat.pow_succ]; omega
    have e2 : 2 ^ (h + 1 + 1) = 2 * 2 ^ (h + 1) := by rw [Nat.pow_succ]; omega
    obtain ⟨g, C1, d1, d2, d3⟩ := sgn_dr m (by omega) (k := (3 * 2 ^ h - 1) + ((3 * 2 ^ h - 1) + k)) (hk.mono (by omega))
    obtain ⟨a, C2, a1, a2, a3, a4, a5⟩ := even_dr h m ((3 * 2 ^ h - 1) + k) C1 (by omega) (by omega) d3
    obtain ⟨b, C3, b1, b2, b3, b4, b5⟩ := even_dr h m k C2 (by omega) (by omega) a5
    refine ⟨.fork g a b, C3, ?_, ⟨d2, a2, b2⟩, by simp only [Tr.dep]; omega, by simp only [Tr.size]; omega, b5⟩
    rw [show ((h : Nat) : Int) = ((h + 1 : Nat) : Int) - 1 by omega] at a1 b1
    exact even_n (m + 1) C C1 C2 C3 _ _ _ _ (by omega) d1 a1 b1
theorem any_0 (m : Nat) (C C1 C2 C3 C4 C5 C6 : Cells) (i j : Int) (g x y most : D) (h1 : callD T m 22 [.cell, .int 4] C = .ok (.int 0) C1) (h2 : callD T m 22 [.cell, .int 4] C1 = .ok (.int i) C2) (h3 : callD T m 73 [.cell, .int i] C2 = .ok x C3) (h4 : callD T m 22 [.cell, .int 4] C3 = .ok (.int j) C4) (h5 : callD T m 73 [.cell, .int j] C4 = .ok y C5) (h6 : callD T m 25 [.cell, .lst sgL] C5 = .ok g C6) : callD T (m + 1) 76 [.cell, most] C = .ok (.tup [g, x, y]) C6 := by
  refine call_rt (fd := f76) rfl rfl (ss_nx (C1 := C1) (σ' := [.val .cell, .val most, .val (.int 0), .emp, .emp]) ?_ (ss_rt ?_))
  · simp [startS, f76, evS, ev, evs, R.bind, R.of, slotD, h1, bindT]
  · simp [evSs, evS, ev, evs, R.bind, R.of, slotD, truthD, cmpI, h2, h3, h4, h5, h6, parS]
theorem any_n (m : Nat) (C C1 C2 C3 C4 : Cells) (r i most : Int) (tu x : D) (hr : r ≠ 0) (h1 : callD T m 22 [.cell, .int 4] C = .ok (.int r) C1) (h2 : callD T m 22 [.cell, .int most] C1 = .ok (.int i) C2) (h3 : callD T m 25 [.cell, .lst [.int 0, .int 5, .int 3]] C2 = .ok tu C3) (h4 : callD T m 27 [.cell, .int (1 + i), tu] C3 = .ok x C4) : callD T (m + 1) 76 [.cell, .int most] C = .ok x C4 := by
  refine call_rt (fd := f76) rfl rfl (ss_nx (C1 := C1) (σ' := [.val .cell, .val (.int most), .val (.int r), .emp, .emp]) ?_ (ss_nx (C1 := C1) (σ' := [.val .cell, .val (.int most), .val (.int r), .emp, .emp]) ?_ (ss_rt ?_)))
  · simp [startS, f76, evS, ev, evs, R.bind, R.of, slotD, h1, bindT]
  · simp [evSs, evS, ev, evs, R.bind, R.of, slotD, truthD, cmpI, hr]
  · simp [evS, ev, evs, R.bind, R.of, slotD, binD, h2, h3, h4]
theorem any_dr (n k : Nat) (C : Cells) (hn : 40 ≤ n) (hk : Dr (300 + k) C) : ∃ (t : Tr) (C' : Cells), callD T (n + 1) 76 [.cell, .int 24] C = .ok t.d C' ∧ t.ok ∧ t.dep ≤ 50 ∧ t.size ≤ 100 ∧ Dr k C' := by
  obtain ⟨m, rfl⟩ : ∃ m, n = m + 2 := ⟨n - 2, by omega⟩
  obtain ⟨r, C1, a1, a2, a3, a4⟩ := take_dr (m + 1) (k := 250 + k) 4 (by omega) (by omega) (hk.mono (by omega))
  by_cases hr : r = 0
  · subst hr
    obtain ⟨i, C2, b1, b2, b3, b4⟩ := take_dr (m + 1) (k := 200 + k) 4 (by omega) (by omega) (a4.mono (by omega))
    have pw : ∀ q : Nat, q ≤ 3 → 2 ^ q ≤ 8 ∧ 2 ^ (q + 1) ≤ 16 := fun q hq => by
      have : q = 0 ∨ q = 1 ∨ q = 2 ∨ q = 3 := by omega
      rcases this with rfl | rfl | rfl | rfl <;> decide
    have p1 := pw i.toNat (by omega)
    obtain ⟨x, C3, c1, c2, c3, c4, c5⟩ := even_dr i.toNat (m + 1) (100 + k) C2 (by omega) (by omega) (b4.mono (by omega))
    obtain ⟨j, C4, d1, d2, d3, d4⟩ := take_dr (m + 1) (k := 50 + k) 4 (by omega) (by omega) (c5.mono (by omega))
    have p2 := pw j.toNat (by omega)
    obtain ⟨y, C5, e1, e2, e3, e4, e5⟩ := even_dr j.toNat (m + 1) (k + 1) C4 (by omega) (by omega) (d4.mono (by omega))
    obtain ⟨g, C6, f1, f2, f3⟩ := sgn_dr (m + 1) (by omega) (k := k) e5
    rw [show ((i.toNat : Nat) : Int) = i by omega] at c1
    rw [show ((j.toNat : Nat) : Int) = j by omega] at e1
    refine ⟨.fork g x y, C6, any_0 (m + 2) C C1 C2 C3 C4 C5 C6 i j _ _ _ _ a1 b1 c1 d1 e1 f1, ⟨f2, c2, e2⟩, ?_, ?_, f3⟩
    · simp only [Tr.dep]; omega
    · simp only [Tr.size]; omega
  · obtain ⟨i, C2, b1, b2, b3, b4⟩ := take_dr (m + 1) (k := 220 + k) 24 (by omega) (by omega) (a4.mono (by omega))
    obtain ⟨x, C3, c1, c2, c3⟩ := of_dr m (k := 200 + k) [.int 0, .int 5, .int 3] (by decide) (by decide) (b4.mono (by omega))
    obtain ⟨tu, rfl, htu⟩ : ∃ tu : Int, x = .int tu ∧ tu < 1000 := by
      simp only [List.mem_cons, List.not_mem_nil, or_false] at c2
      rcases c2 with rfl | rfl | rfl <;> exact ⟨_, rfl, by decide⟩
    obtain ⟨t, C4, d1, d2, d3, d4, d5⟩ := tree_dr tu htu (1 + i.toNat) (m + 1) k C3 (by omega) (by omega) (by omega) (c3.mono (by omega))
    rw [show ((1 + i.toNat : Nat) : Int) = 1 + i by omega] at d1
    exact ⟨t, C4, any_n (m + 2) C C1 C2 C3 C4 r i 24 _ _ hr a1 b1 c1 d1, d2, by omega, by omega, d5⟩
end Mi

set_option Elab.async false
set_option linter.all false
set_option maxRecDepth 100000
set_option maxHeartbeats 4000000
namespace Mi
open Tr (lfOk)
/-! ## _law_right, statement by statement -/
section
variable (cl : Call) (C C1 C2 C3 C4 : Cells) (x0 x1 x2 x3 x4 x5 x6 x7 x8 x9 x10 : Sl)
theorem r1 (m r : Int) (h1 : cl 25 [.cell, .lst [.int 5, .int 40]] C = .ok (.int m) C1) (h2 : cl 22 [.cell, .int m] C1 = .ok (.int r) C2) : evS cl (.asg (.v 1) (.bin .add (.lit (.int 1)) (.call 22 (.cons (.v 0) (.cons (.call 25 (.cons (.v 0) (.cons (.lst (.cons (.lit (.int 5)) (.cons (.lit (.int 40)) .nil))) .nil))) .nil))))) [.val .cell, x1, x2, x3, x4, x5, x6, x7, x8, x9, x10, .emp, .emp] C = .ok (.nx [.val .cell, .val (.int (1 + r)), x2, x3, x4, x5, x6, x7, x8, x9, x10, .emp, .emp]) C2 := by
  simp [evS, ev, evs, R.bind, R.of, slotD, binD, h1, h2, bindT]
theorem r2 (n : Int) (s t : D) (h1 : cl 289 [.cell, .int n] C = .ok s C1) (h2 : cl 289 [.cell, .int n] C1 = .ok t C2) : evS cl (.par [(6, false), (7, false)] (.cons (.call 289 (.cons (.v 0) (.cons (.v 1) .nil))) (.cons (.call 289 (.cons (.v 0) (.cons (.v 1) .nil))) .nil))) [.val .cell, .val (.int n), x2, x3, x4, x5, x6, x7, x8, x9, x10, .emp, .emp] C = .ok (.nx [.val .cell, .val (.int n), x2, x3, x4, x5, .val s, .val t, x8, x9, x10, .emp, .emp]) C2 := by
  simp [evS, ev, evs, R.bind, R.of, slotD, h1, h2, parS]
theorem r3 (n : Int) (m : D) (h1 : cl 271 [.int n] C = .ok m C1) : evS cl (.asg (.v 2) (.call 271 (.cons (.v 1) .nil))) [.val .cell, .val (.int n), x2, x3, x4, x5, x6, x7, x8, x9, x10, .emp, .emp] C = .ok (.nx [.val .cell, .val (.int n), .val m, x3, x4, x5, x6, x7, x8, x9, x10, .emp, .emp]) C1 := by
  simp [evS, ev, evs, R.bind, R.of, slotD, h1, bindT]
theorem r4 (s t e a b : D) (h1 : cl 23 [.cell, s] C = .ok e C1) (h2 : cl 291 [e] C1 = .ok a C2) (h3 : cl 291 [t] C2 = .ok b C3) : evS cl (.par [(8, false), (9, false)] (.cons (.call 291 (.cons (.call 23 (.cons (.v 0) (.cons (.v 6) .nil))) .nil)) (.cons (.call 291 (.cons (.v 7) .nil)) .nil))) [.val .cell, x1, x2, x3, x4, x5, .val s, .val t, x8, x9, x10, .emp, .emp] C = .ok (.nx [.val .cell, x1, x2, x3, x4, x5, .val s, .val t, .val a, .val b, x10, .emp, .emp]) C3 := by
  simp [evS, ev, evs, R.bind, R.of, slotD, h1, h2, h3, parS]
theorem ifs_no {c : E} {a : Ss} {σ : List Sl} (h : ev cl c σ C = .ok (.bl true) C1) : evS cl (.ifs (.not c) a .nil) σ C = .ok (.nx σ) C1 := by
  simp [evS, evSs, ev, h, R.bind, R.of, truthD]
theorem r5 (n a b m sg : Int) (s t : D) (h1 : cl 292 [.int n, .int a] C = .ok s C) (h2 : cl 292 [.int n, .int b] C = .ok t C) (h3 : cl 293 [s] C = .ok (.bl true) C) (ha : 0 ≤ a) (hm : a < m) (h4 : cl 288 [s, t] C = .ok (.int sg) C) (hsg : sg = (if b < a then 1 else 0) - (if a < b then 1 else 0))
    (hs : cl 24 [.lst [s, t, .bl true, .bl true, .int sg], .lst [s, t, .bl true, .bl true, .int sg]] C = .ok (.bl true) C) : ev cl (.call 24 (.cons (.lst (.cons (.call 292 (.cons (.v 1) (.cons (.v 8) .nil))) (.cons (.call 292 (.cons (.v 1) (.cons (.v 9) .nil))) (.cons (.call 293 (.cons (.v 6) .nil)) (.cons (.chain .le .lt (.lit (.int 0)) (.v 8) (.v 2)) (.cons (.bin .sub (.cmp .gt (.v 8) (.v 9)) (.cmp .lt (.v 8) (.v 9))) .nil)))))) (.cons (.lst (.cons (.v 6) (.cons (.v 7) (.cons (.lit (.bl true)) (.cons (.lit (.bl true)) (.cons (.call 288 (.cons (.v 6) (.cons (.v 7) .nil))) .nil)))))) .nil)))
      [.val .cell, .val (.int n), .val (.int m), x3, x4, x5, .val s, .val t, .val (.int a), .val (.int b), x10, .emp, .emp] C = .ok (.bl true) C := by
  have e : binD .sub (.bl (decide (b < a))) (.bl (decide (a < b))) = some (.int sg) := by
    rw [hsg]
    simp [binD]
  simp [ev, evs, R.bind, R.of, slotD, h1, h2, h3, h4, cmpLe, cmpLt, cmpGt, ha, hm, e, hs]
theorem r6n (n a b m : Int) (y6 : Sl) (h : ¬ a + 1 < m) : evS cl (.ifs (.and (.cmp .lt (.bin .add (.v 8) (.lit (.int 1))) (.v 2)) (.cons (.or (.cmp .ne (.call 288 (.cons (.v 6) (.cons (.call 292 (.cons (.v 1) (.cons (.bin .add (.v 8) (.lit (.int 1))) .nil))) .nil))) (.neg (.lit (.int 1)))) (.cons (.cmp .ne (.call 291 (.cons (.call 292 (.cons (.v 1) (.cons (.bin .add (.v 8) (.lit (.int 1))) .nil))) .nil)) (.bin .add (.v 8) (.lit (.int 1)))) .nil)) .nil)) (.cons (.ret (.lit (.bl false))) .nil) .nil)
      [.val .cell, x1, .val (.int m), x3, x4, x5, x6, x7, .val (.int a), x9, x10, .emp, .emp] C = .ok (.nx [.val .cell, x1, .val (.int m), x3, x4, x5, x6, x7, .val (.int a), x9, x10, .emp, .emp]) C := by
  simp [evS, evSs, ev, evAnd, R.bind, R.of, slotD, binD, cmpLt, truthD, h]
theorem r6y (n a m : Int) (s u : D) (h : a + 1 < m) (h1 : cl 292 [.int n, .int (a + 1)] C = .ok u C) (h2 : cl 288 [s, u] C = .ok (.int (-1)) C) (h3 : cl 291 [u] C = .ok (.int (a + 1)) C) : evS cl (.ifs (.and (.cmp .lt (.bin .add (.v 8) (.lit (.int 1))) (.v 2)) (.cons (.or (.cmp .ne (.call 288 (.cons (.v 6) (.cons (.call 292 (.cons (.v 1) (.cons (.bin .add (.v 8) (.lit (.int 1))) .nil))) .nil))) (.neg (.lit (.int 1)))) (.cons (.cmp .ne (.call 291 (.cons (.call 292 (.cons (.v 1) (.cons (.bin .add (.v 8) (.lit (.int 1))) .nil))) .nil)) (.bin .add (.v 8) (.lit (.int 1)))) .nil)) .nil)) (.cons (.ret (.lit (.bl false))) .nil) .nil)
      [.val .cell, .val (.int n), .val (.int m), x3, x4, x5, .val s, x7, .val (.int a), x9, x10, .emp, .emp] C = .ok (.nx [.val .cell, .val (.int n), .val (.int m), x3, x4, x5, .val s, x7, .val (.int a), x9, x10, .emp, .emp]) C := by
  simp [evS, evSs, ev, evs, evAnd, evOr, R.bind, R.of, slotD, binD, cmpLt, truthD, h, h1, h2, h3, cmpIn, intD]
theorem r7 (n m : Int) (u v : D) (h1 : cl 86 [.fn 292, .tup [.int n, .int m]] C = .ok (.lst [.str [99, 97, 110, 32, 110, 111, 116], .bl true]) C) (h2 : cl 292 [.int n, .int (m - 1)] C = .ok u C) (h3 : cl 291 [u] C = .ok (.int (m - 1)) C) (h4 : cl 292 [.int n, .int 0] C = .ok v C) (h5 : cl 291 [v] C = .ok (.int 0) C)
    (hs : cl 24 [.lst [.lst [.str [99, 97, 110, 32, 110, 111, 116], .bl true], .int (m - 1), .int 0], .lst [.lst [.str [99, 97, 110, 32, 110, 111, 116], .bl true], .int (m - 1), .int 0]] C = .ok (.bl true) C) : ev cl (.call 24 (.cons (.lst (.cons (.call 86 (.cons (.gc (.fn 292)) (.cons (.tup (.cons (.v 1) (.cons (.v 2) .nil))) .nil))) (.cons (.call 291 (.cons (.call 292 (.cons (.v 1) (.cons (.bin .sub (.v 2) (.lit (.int 1))) .nil))) .nil)) (.cons (.call 291 (.cons (.call 292 (.cons (.v 1) (.cons (.lit (.int 0)) .nil))) .nil)) .nil)))) (.cons (.lst (.cons (.lst (.cons (.lit (.str [99, 97, 110, 32, 110, 111, 116])) (.cons (.lit (.bl true)) .nil))) (.cons (.bin .sub (.v 2) (.lit (.int 1))) (.cons (.lit (.int 0)) .nil)))) .nil)))
      [.val .cell, .val (.int n), .val (.int m), x3, x4, x5, x6, x7, x8, x9, x10, .emp, .emp] C = .ok (.bl true) C := by
  simp [ev, evs, R.bind, R.of, slotD, binD, h1, h2, h3, h4, h5, hs]
theorem r8 (t : D) (h1 : cl 76 [.cell, .int 24] C = .ok t C1) : evS cl (.asg (.v 3) (.call 76 (.cons (.v 0) (.cons (.lit (.int 24)) .nil)))) [.val .cell, x1, x2, x3, x4, x5, x6, x7, x8, x9, x10, .emp, .emp] C = .ok (.nx [.val .cell, x1, x2, .val t, x4, x5, x6, x7, x8, x9, x10, .emp, .emp]) C1 := by
  simp [evS, ev, evs, R.bind, R.of, slotD, h1, bindT]
abbrev r9S : S := .ifs (.and (.cmp .le (.call 31 (.cons (.v 3) .nil)) (.lit (.int 30))) (.cons (.cmp .le (.bi .len (.cons (.call 29 (.cons (.v 3) .nil)) .nil)) (.lit (.int 200))) .nil)) (.cons (.asg (.v 10) (.call 290 (.cons (.v 3) .nil))) (.cons (.ifs (.not (.call 24 (.cons (.lst (.cons (.call 294 (.cons (.call 23 (.cons (.v 0) (.cons (.v 3) .nil))) .nil)) (.cons (.cmp .eq (.call 274 (.cons (.v 10) .nil)) (.call 112 (.cons (.v 3) .nil))) .nil))) (.cons (.lst (.cons (.v 10) (.cons (.lit (.bl true)) .nil))) .nil)))) (.cons (.ret (.lit (.bl false))) .nil) .nil) .nil)) .nil
theorem r9n (t : D) (i : Int) (h1 : cl 31 [t] C = .ok (.int i) C) (h : ¬ i ≤ 30) : evS cl r9S [.val .cell, x1, x2, .val t, x4, x5, x6, x7, x8, x9, x10, .emp, .emp] C = .ok (.nx [.val .cell, x1, x2, .val t, x4, x5, x6, x7, x8, x9, x10, .emp, .emp]) C := by
  simp [evS, evSs, ev, evs, evAnd, R.bind, R.of, slotD, cmpLe, truthD, h, h1]
theorem r9y (t b e : D) (i j : Int) (ps : List D) (h1 : cl 31 [t] C = .ok (.int i) C) (h : i ≤ 30) (h2 : cl 29 [t] C = .ok (.lst ps) C) (hp : (ps.length : Int) ≤ 200) (h3 : cl 290 [t] C = .ok b C) (h4 : cl 23 [.cell, t] C = .ok e C1) (h5 : cl 294 [e] C1 = .ok b C1) (h6 : cl 274 [b] C1 = .ok (.int j) C1) (h7 : cl 112 [t] C1 = .ok (.int j) C1) (hs : cl 24 [.lst [b, .bl true], .lst [b, .bl true]] C1 = .ok (.bl true) C1) : evS cl r9S [.val .cell, x1, x2, .val t, x4, x5, x6, x7, x8, x9, x10, .emp, .emp] C = .ok (.nx [.val .cell, x1, x2, .val t, x4, x5, x6, x7, x8, x9, .val b, .emp, .emp]) C1 := by
  have e1 : biD .len [.lst ps] = some (.int ps.length) := rfl
  simp [evS, evSs, ev, evs, evAnd, R.bind, R.of, slotD, cmpLe, truthD, h, h1, h2, e1, hp, h3, bindT, h4, h5, h6, h7, cmpI, hs]
theorem r10 (g : D) (h1 : cl 25 [.cell, .lst [.str [43], .str [45], .str [42]]] C = .ok g C1) : evS cl (.asg (.v 4) (.call 25 (.cons (.v 0) (.cons (.lst (.cons (.lit (.str [43])) (.cons (.lit (.str [45])) (.cons (.lit (.str [42])) .nil)))) .nil)))) [.val .cell, x1, x2, x3, x4, x5, x6, x7, x8, x9, x10, .emp, .emp] C = .ok (.nx [.val .cell, x1, x2, x3, .val g, x5, x6, x7, x8, x9, x10, .emp, .emp]) C1 := by
  simp [evS, ev, evs, R.bind, R.of, slotD, h1, bindT]
theorem r11 (g s e t : D) (h1 : cl 23 [.cell, s] C = .ok e C1) (h2 : cl 295 [e, g] C1 = .ok t C1) : evS cl (.asg (.v 5) (.call 295 (.cons (.call 23 (.cons (.v 0) (.cons (.v 6) .nil))) (.cons (.v 4) .nil)))) [.val .cell, x1, x2, x3, .val g, x5, .val s, x7, x8, x9, x10, .emp, .emp] C = .ok (.nx [.val .cell, x1, x2, x3, .val g, .val t, .val s, x7, x8, x9, x10, .emp, .emp]) C1 := by
  simp [evS, ev, evs, R.bind, R.of, slotD, h1, h2, bindT]
abbrev r12S : S := .ifs (.cmp .gt (.call 31 (.cons (.v 5) .nil)) (.lit (.int 30))) (.cons (.ret (.lit (.bl true))) .nil) .nil
theorem r12y (t : D) (i : Int) (h1 : cl 31 [t] C = .ok (.int i) C) (h : 30 < i) : evS cl r12S [x0, x1, x2, x3, x4, .val t, x6, x7, x8, x9, x10, .emp, .emp] C = .ok (.rt (.bl true)) C := by
  simp [evS, evSs, ev, evs, R.bind, R.of, slotD, cmpGt, truthD, h, h1]
theorem r12n (t : D) (i : Int) (h1 : cl 31 [t] C = .ok (.int i) C) (h : ¬ 30 < i) : evS cl r12S [x0, x1, x2, x3, x4, .val t, x6, x7, x8, x9, x10, .emp, .emp] C = .ok (.nx [x0, x1, x2, x3, x4, .val t, x6, x7, x8, x9, x10, .emp, .emp]) C := by
  simp [evS, evSs, ev, evs, R.bind, R.of, slotD, cmpGt, truthD, h, h1]
theorem r13 (n j : Int) (s t l : D) (h1 : cl 294 [t] C = .ok s C) (h2 : cl 170 [t] C = .ok l C) (h3 : cl 112 [t] C = .ok (.int j) C) (h4 : biD .rangeT1 [.int n] = some l) (h5 : cl 274 [s] C = .ok (.int j) C) (hs : cl 24 [.lst [s, l, .int j], .lst [s, l, .int j]] C = .ok (.bl true) C) : ev cl (.call 24 (.cons (.lst (.cons (.call 294 (.cons (.v 5) .nil)) (.cons (.call 170 (.cons (.v 5) .nil)) (.cons (.call 112 (.cons (.v 5) .nil)) .nil)))) (.cons (.lst (.cons (.v 6) (.cons (.bi .rangeT1 (.cons (.v 1) .nil)) (.cons (.call 274 (.cons (.v 6) .nil)) .nil)))) .nil)))
      [x0, .val (.int n), x2, x3, x4, .val t, .val s, x7, x8, x9, x10, .emp, .emp] C = .ok (.bl true) C := by
  simp [ev, evs, R.bind, R.of, slotD, h1, h2, h3, h4, h5, hs]
theorem r14 (he : ev cl (.comp (.v 12) (.mk (.tp (.cons (.v 11) (.cons (.v 12) .nil))) (.e (.call 29 (.cons (.v 5) .nil))) (.so (.and (.cmp .ne (.call 28 (.cons (.v 12) .nil)) (.tup .nil)) (.cons (.cmp .ne (.idx (.v 12) (.lit (.int 0))) (.v 4)) .nil))))) [x0, x1, x2, x3, x4, x5, x6, x7, x8, x9, x10, .emp, .emp] C = .ok (.lst []) C) : evS cl (.ret (.cmp .eq (.comp (.v 12) (.mk (.tp (.cons (.v 11) (.cons (.v 12) .nil))) (.e (.call 29 (.cons (.v 5) .nil))) (.so (.and (.cmp .ne (.call 28 (.cons (.v 12) .nil)) (.tup .nil)) (.cons (.cmp .ne (.idx (.v 12) (.lit (.int 0))) (.v 4)) .nil))))) (.lst .nil))) [x0, x1, x2, x3, x4, x5, x6, x7, x8, x9, x10, .emp, .emp] C = .ok (.rt (.bl true)) C := by
  rw [evS, ev, he]
  rfl
/-- one part of the tree: a leaf, or a fork of the sign -/
theorem fil_lf (z y : D) (h : cl 28 [y] C = .ok (.tup []) C) : cmF cl (.v 12) (.tp (.cons (.v 11) (.cons (.v 12) .nil))) (.so (.and (.cmp .ne (.call 28 (.cons (.v 12) .nil)) (.tup .nil)) (.cons (.cmp .ne (.idx (.v 12) (.lit (.int 0))) (.v 4)) .nil))) [x0, x1, x2, x3, x4, x5, x6, x7, x8, x9, x10, .emp, .emp] (.tup [z, y]) C = .ok [] C := by
  have e : cmpD .ne (.tup []) (.tup []) = some (.bl false) := rfl
  simp [cmF, bindT, bindTs, wipeS, Tg.vars, Tgs.vars, evc, ev, evs, evAnd, R.bind, R.of, slotD, truthD, h, e]
theorem fil_fk (z y g : D) (ks : List D) (h : cl 28 [y] C = .ok (.tup ks) C) (hk : cmpD .ne (.tup ks) (.tup []) = some (.bl true)) (hi : idxD C y (.int 0) = some g) (hg : cmpD .ne g g = some (.bl false)) : cmF cl (.v 12) (.tp (.cons (.v 11) (.cons (.v 12) .nil))) (.so (.and (.cmp .ne (.call 28 (.cons (.v 12) .nil)) (.tup .nil)) (.cons (.cmp .ne (.idx (.v 12) (.lit (.int 0))) (.v 4)) .nil))) [x0, x1, x2, x3, .val g, x5, x6, x7, x8, x9, x10, .emp, .emp] (.tup [z, y]) C = .ok [] C := by
  simp [cmF, bindT, bindTs, wipeS, Tg.vars, Tgs.vars, evc, ev, evs, evAnd, R.bind, R.of, slotD, truthD, h, hk, hi, hg]
end
end Mi

set_option Elab.async false
set_option linter.all false
set_option maxRecDepth 100000
set_option maxHeartbeats 4000000
namespace Mi
open Tr (lfOk)
mutual
theorem pl_td : ∀ (d : D) (n : Nat), td d = true → dep d ≤ n → pl n d = true
  | .int _, n, _, _ => by cases n <;> rfl
  | .str _, n, _, _ => by cases n <;> rfl
  | .tup xs, n, h, hd => by
    have hd : deps xs + 1 ≤ n := hd
    obtain ⟨m, rfl⟩ : ∃ m, n = m + 1 := ⟨n - 1, by omega⟩
    exact pls_td xs m h (by omega)
  | .non, _, h, _ => by cases h
  | .bl _, _, h, _ => by cases h
  | .lst _, _, h, _ => by cases h
  | .dct _ _ _, _, h, _ => by cases h
  | .fn _, _, h, _ => by cases h
  | .cell, _, h, _ => by cases h
  | .frl _, _, h, _ => by cases h
  | .frt _, _, h, _ => by cases h
  | .frd _ _, _, h, _ => by cases h
theorem pls_td : ∀ (ds : List D) (n : Nat), tds ds = true → deps ds ≤ n → pls n ds = true
  | [], n, _, _ => by cases n <;> rfl
  | d :: ds, n, h, hd => by
    simp only [tds, Bool.and_eq_true] at h
    simp only [deps] at hd
    have h1 := pl_td d n h.1 (by omega)
    have h2 := pls_td ds n h.2 (by omega)
    cases n <;> simp only [pls, h1, h2, Bool.and_self]
end
theorem plS (s : Sh) (n : Nat) (h : s.lv ≤ n) : pl n s.d = true := pl_td _ _ (tdS s) (by have := depS s; omega)
theorem pl_int (n : Nat) (i : Int) : pl n (.int i) = true := by cases n <;> rfl
theorem pl_bl (n : Nat) (i : Bool) : pl n (.bl i) = true := by cases n <;> rfl
theorem pl_str (n : Nat) (i : List Nat) : pl n (.str i) = true := by cases n <;> rfl
theorem pls_all : ∀ {xs : List D} {n : Nat}, (∀ x ∈ xs, pl n x = true) → pls n xs = true
  | [], n, _ => by cases n <;> rfl
  | x :: xs, n, h => by
    have h1 := h x List.mem_cons_self
    have h2 := pls_all (xs := xs) (n := n) fun y hy => h y (List.mem_cons_of_mem _ hy)
    cases n <;> simp only [pls, h1, h2, Bool.and_self]
theorem szs_all : ∀ {xs : List D}, (∀ x ∈ xs, szOk x = true) → szOks xs = true
  | [], _ => rfl
  | x :: xs, h => by
    simp only [szOks, h x List.mem_cons_self, szs_all (xs := xs) fun y hy => h y (List.mem_cons_of_mem _ hy), Bool.and_self]
theorem same_l (n : Nat) (xs : List D) (C : Cells) (hn : 1 ≤ n) (hl : xs.length ≤ 1000) (h : ∀ x ∈ xs, pl (n - 1) x = true ∧ szOk x = true) : callD T (n + 1) 24 [.lst xs, .lst xs] C = .ok (.bl true) C := by
  obtain ⟨m, rfl⟩ : ∃ m, n = m + 1 := ⟨n - 1, by omega⟩
  have hz : szOk (.lst xs) = true := by
    have : xs.length ≤ sizeMost := by unfold sizeMost; omega
    simp only [szOk, decide_eq_true this, szs_all fun x hx => (h x hx).2, Bool.and_self]
  exact same_ok (m + 1) (.lst xs) C (pls_all fun x hx => (h x hx).1) hz
theorem bare_lv : ∀ t : Tr, 2 * t.bare.lv ≤ t.size + 1
  | .leaf x => Nat.le_refl _
  | .turn t => by have := bare_lv t; simp only [Tr.bare, Tr.size]; omega
  | .fork g a b => by have := bare_lv a; have := bare_lv b; simp only [Tr.bare, Tr.size, Sh.lv]; omega
theorem cmpTnilN (xs : List D) (h : okDs xs = true) : cmpD .ne (.tup xs) (.tup []) = some (.bl (!xs.isEmpty)) := by
  have e : eqDs xs [] = xs.isEmpty := by cases xs <;> rfl
  simp only [cmpD, okD, h, okDs, Bool.and_self, eqD, e, Bool.true_and]
  rw [if_pos (by simp; right; decide)]
/-- all parts of a tree with one sign -/
def one (g : List Nat) : Tr → Prop
  | .leaf _ => True
  | .turn _ => False
  | .fork g' a b => g' = g ∧ one g a ∧ one g b
theorem nam_one (g : List Nat) : ∀ (s : Sh) (k : Nat), one g (nam g s k)
  | .lf, k => trivial
  | .nd a b, k => ⟨rfl, nam_one g a k, nam_one g b _⟩
theorem rp_one (g : List Nat) : ∀ (t : Tr) (p : List Int), one g t → ∀ q ∈ rp p t, one g q.2
  | .leaf x, p, h => fun q hq => by
    simp only [rp, List.mem_singleton] at hq
    subst hq; exact h
  | .turn t, p, h => by cases h
  | .fork g' x y, p, h => fun q hq => by
    simp only [rp, List.mem_cons, List.mem_append] at hq
    rcases hq with rfl | hq | hq
    · exact h
    · exact rp_one g y _ h.2.2 q hq
    · exact rp_one g x _ h.2.1 q hq
theorem loopC_no {α : Type} {f : D → Cells → R (List D)} {dd : α → D} {C : Cells} : ∀ {l : List α}, (∀ x ∈ l, f (dd x) C = .ok [] C) → loopC f (l.map dd) C = .ok [] C
  | [], _ => rfl
  | x :: xs, h => by
    have ih := loopC_no (l := xs) fun y hy => h y (List.mem_cons_of_mem _ hy)
    show (f (dd x) C).bind _ = _
    rw [h x List.mem_cons_self]
    show (loopC f (xs.map dd) C).bind _ = _
    rw [ih]
    rfl
/-- _law_right -/
theorem right_ok (q : Nat) (hq : 120 ≤ q) (k : Nat) (C : Cells) (hk : Dr (1000 + k) C) : ∃ C', callD T (q + 2) 297 [.cell] C = .ok (.bl true) C' ∧ Dr k C' := by
  obtain ⟨p, rfl⟩ : ∃ p, q = p + 1 := ⟨q - 1, by omega⟩
  -- how many leaves
  obtain ⟨xm, C1, a1, a2, a3⟩ := of_dr p (k := 998 + k) [.int 5, .int 40] (by decide) (by decide) (hk.mono (by omega))
  obtain ⟨m, rfl, hm1, hm2⟩ : ∃ m : Int, xm = .int m ∧ 0 < m ∧ m ≤ 40 := by
    simp only [List.mem_cons, List.not_mem_nil, or_false] at a2
    rcases a2 with rfl | rfl <;> exact ⟨_, rfl, by decide, by decide⟩
  obtain ⟨r, C2, b1, b2, b3, b4⟩ := take_dr (p + 1) (k := 990 + k) m hm1 (by omega) (a3.mono (by omega))
  obtain ⟨n, hn⟩ : ∃ n : Nat, (n : Int) = 1 + r := ⟨(1 + r).toNat, by omega⟩
  have hn1 : 1 ≤ n := by omega
  have hn2 : n ≤ 40 := by omega
  -- shapes
  obtain ⟨s, C3, c1, c2, c3⟩ := shape_dr n (p + 1) (900 + k) C2 hn1 (by omega) (by omega) (b4.mono (by omega))
  obtain ⟨t, C4, d1, d2, d3⟩ := shape_dr n (p + 1) (800 + k) C3 hn1 (by omega) (by omega) (c3.mono (by omega))
  have hmany := many_ok (p - 2) n C4 hn1 (by omega)
  rw [show p - 2 + 4 = p + 2 by omega] at hmany
  obtain ⟨e, C5, e1, e2, e3⟩ := mixed_ok s.d (p + 1) (700 + k) C4 (tdS s) (szS s) (by have := depS s; omega) (d3.mono (by have := szD_S s; omega))
  have ps := splace_ok C5 s e2 (p + 1) (by omega) (by omega)
  have pt := splace_ok C5 t (mx_refl _ (tdS t)) (p + 1) (by omega) (by omega)
  obtain ⟨sb1, sb2⟩ := plc_bd s (by omega)
  obtain ⟨tb1, tb2⟩ := plc_bd t (by omega)
  rw [c2] at sb2
  rw [d2] at tb2
  have nthS : ∀ u : Sh, u.lv = n → callD T (p + 2) 292 [.int n, .int u.plc] C5 = .ok u.d C5 := fun u hu => by
    have := snth_ok C5 u (p + 1) (by omega) (by omega)
    rw [hu] at this
    exact this
  have plcS : ∀ u : Sh, u.lv = n → callD T (p + 2) 291 [u.d] C5 = .ok (.int u.plc) C5 := fun u hu => splace_ok C5 u (mx_refl _ (tdS u)) (p + 1) (by omega) (by omega)
  have bef : ∀ u : Sh, u.lv = n → callD T (p + 2) 288 [s.d, u.d] C5 = .ok (.int (sg s u)) C5 := fun u hu => before_ok C5 s u (p + 1) (by omega) (by omega) (by omega)
  have same5 := same_l (p + 1) [s.d, t.d, .bl true, .bl true, .int (sg s t)] C5 (by omega) (by show 5 ≤ 1000; omega) (fun x hx => by
    simp only [List.mem_cons, List.not_mem_nil, or_false] at hx
    rcases hx with rfl | rfl | rfl | rfl | rfl
    · exact ⟨plS s _ (by omega), szS s⟩
    · exact ⟨plS t _ (by omega), szS t⟩
    · exact ⟨pl_bl _ _, rfl⟩
    · exact ⟨pl_bl _ _, rfl⟩
    · exact ⟨pl_int _ _, rfl⟩)
  have hsg : sg s t = (if t.plc < s.plc then 1 else 0) - (if s.plc < t.plc then 1 else 0) := by
    unfold sg
    rcases Int.lt_trichotomy s.plc t.plc with z | z | z
    · simp [z, show ¬ t.plc < s.plc by omega]
    · simp [show ¬ t.plc < s.plc by omega, show ¬ s.plc < t.plc by omega]
    · simp [z, show ¬ s.plc < t.plc by omega]
  -- the next one
  have st6 : ∃ σ6 : Prop, True := ⟨True, trivial⟩
  obtain ⟨u, hu1, hu2⟩ := unr n (hv n - 1) hn1 (by omega) (by have := hv_pos hn1 (by omega); omega) (by omega)
  obtain ⟨v, hv1, hv2⟩ := unr n 0 hn1 (by omega) (by omega) (hv_pos hn1 (by omega))
  have nu := nthS u hu1
  have pu := plcS u hu1
  have nv := nthS v hv1
  have pv := plcS v hv1
  rw [hu2] at nu pu
  rw [hv2] at nv pv
  have hrd := heard_ex C5 n (p + 1) hn1 (by omega) (by omega)
  have same7 := same_l (p + 1) [.lst [.str [99, 97, 110, 32, 110, 111, 116], .bl true], .int (hv n - 1), .int 0] C5 (by omega) (by show 3 ≤ 1000; omega) (fun x hx => by
    simp only [List.mem_cons, List.not_mem_nil, or_false] at hx
    obtain ⟨p', rfl⟩ : ∃ p', p = p' + 1 := ⟨p - 1, by omega⟩
    rcases hx with rfl | rfl | rfl
    · refine ⟨?_, rfl⟩
      show pls p' [_, _] = true
      refine pls_all fun y hy => ?_
      simp only [List.mem_cons, List.not_mem_nil, or_false] at hy
      rcases hy with rfl | rfl
      · exact pl_str _ _
      · exact pl_bl _ _
    · exact ⟨pl_int _ _, rfl⟩
    · exact ⟨pl_int _ _, rfl⟩)
  -- a tree
  obtain ⟨tr, C6, f1, f2, f3, f4, f5⟩ := any_dr (p + 1) (300 + k) C5 (by omega) (e3.mono (by omega))
  obtain ⟨x1, x2, x3, x4, x5⟩ := Tr.dat f2
  have hdeep := ldeep_ok C6 tr f2 (by omega) (by omega) (p + 1) (by omega)
  obtain ⟨gs, gp, hparts⟩ := lparts_ok C6 tr f2 (by omega) (by omega) (p + 1) (by omega)
  have hbare := lbare_ok C6 tr f2 (p + 1) (by omega)
  have hblv := bare_lv tr
  obtain ⟨et, C7, g1, g2, g3⟩ := mixed_ok tr.d (p + 1) (200 + k) C6 x1 x2 (by omega) (f5.mono (by omega))
  have st9 : ∃ (C8 : Cells) (y10 : Sl), Dr (200 + k) C8 ∧ ∀ z1 z2 z4 z5 z6 z7 z8 z9 z10, (z10 = Sl.emp → evS (callD T (p + 2)) r9S [.val .cell, z1, z2, .val tr.d, z4, z5, z6, z7, z8, z9, z10, .emp, .emp] C6 = .ok (.nx [.val .cell, z1, z2, .val tr.d, z4, z5, z6, z7, z8, z9, y10, .emp, .emp]) C8) := by
    by_cases hd : tr.dep ≤ 30
    · refine ⟨C7, .val tr.bare.d, g3, fun z1 z2 z4 z5 z6 z7 z8 z9 z10 hz => ?_⟩
      have k1 := shapeof_ok C7 tr f2 g2 (by omega) hd (p + 1) (by omega)
      have k2 := snum_ok C7 tr.bare (mx_refl _ (tdS tr.bare)) (p + 1) (by omega) (by omega)
      have k3 := numof_ok C7 tr f2 (mx_refl _ x1) (by omega) hd (p + 1) (by omega)
      have same9 := same_l (p + 1) [tr.bare.d, .bl true] C7 (by omega) (by show 2 ≤ 1000; omega) (fun x hx => by
        simp only [List.mem_cons, List.not_mem_nil, or_false] at hx
        rcases hx with rfl | rfl
        · exact ⟨plS tr.bare _ (by omega), szS tr.bare⟩
        · exact ⟨pl_bl _ _, rfl⟩)
      exact r9y (callD T (p + 2)) C6 C7 z1 z2 z4 z5 z6 z7 z8 z9 z10 tr.d tr.bare.d et tr.dep _ _ hdeep (by omega) hparts (by rw [List.length_map, gp.length_eq, rp_len]; omega) hbare g1 k1 k2 k3 same9
    · exact ⟨C6, .emp, f5.mono (by omega), fun z1 z2 z4 z5 z6 z7 z8 z9 z10 hz => by
        subst hz
        exact r9n (callD T (p + 2)) C6 z1 z2 z4 z5 z6 z7 z8 z9 .emp tr.d tr.dep hdeep (by omega)⟩
  obtain ⟨C8, y10, h1, h2⟩ := st9
  -- the tree of the shape
  obtain ⟨g, C9, i1, i2, i3⟩ := sgn_dr (p + 1) (by omega) (k := 100 + k) (h1.mono (by omega))
  obtain ⟨e2', C10, j1, j2, j3⟩ := mixed_ok s.d (p + 1) k C9 (tdS s) (szS s) (by have := depS s; omega) (i3.mono (by have := szD_S s; omega))
  have k1 := treeof_ok C10 g i2 s j2 (p + 1) (by omega) (by omega)
  have nok := nam_ok i2 s 0 (by omega)
  have nsz := nam_size g s 0
  have ndp := nam_dep g s 0
  have nbr := nam_bare g s 0
  have ndeep := ldeep_ok C10 _ nok (by omega) (by omega) (p + 1) (by omega)
  refine ⟨C10, ?_, j3⟩
  have es : startS f297.names.length [.cell] = [.val .cell, .emp, .emp, .emp, .emp, .emp, .emp, .emp, .emp, .emp, .emp, .emp, .emp] := rfl
  refine call_rt (fd := f297) rfl rfl ?_
  rw [es]
  have R1 := r1 (callD T (p + 2)) C C1 C2 .emp .emp .emp .emp .emp .emp .emp .emp .emp .emp m r a1 b1
  rw [← hn] at R1
  refine ss_nx R1 (ss_nx (r2 (callD T (p + 2)) C2 C3 C4 _ _ _ _ _ _ _ _ _ n _ _ c1 d1) (ss_nx (r3 (callD T (p + 2)) C4 C4 _ _ _ _ _ _ _ _ _ n _ hmany) (ss_nx (r4 (callD T (p + 2)) C4 C5 C5 C5 _ _ _ _ _ _ _ _ _ _ _ _ _ e1 ps pt) ?_)))
  refine ss_nx (ifs_no (callD T (p + 2)) C5 C5 (r5 (callD T (p + 2)) C5 _ _ _ _ n s.plc t.plc (hv n) (sg s t) s.d t.d (nthS s c2) (nthS t d2) (iss_ok C5 s (p + 1) (by omega)) sb1 sb2 (bef t d2) hsg same5)) ?_
  have R6 : evS (callD T (p + 2)) (.ifs (.and (.cmp .lt (.bin .add (.v 8) (.lit (.int 1))) (.v 2)) (.cons (.or (.cmp .ne (.call 288 (.cons (.v 6) (.cons (.call 292 (.cons (.v 1) (.cons (.bin .add (.v 8) (.lit (.int 1))) .nil))) .nil))) (.neg (.lit (.int 1)))) (.cons (.cmp .ne (.call 291 (.cons (.call 292 (.cons (.v 1) (.cons (.bin .add (.v 8) (.lit (.int 1))) .nil))) .nil)) (.bin .add (.v 8) (.lit (.int 1)))) .nil)) .nil)) (.cons (.ret (.lit (.bl false))) .nil) .nil)
      [.val .cell, .val (.int n), .val (.int (hv n)), .emp, .emp, .emp, .val s.d, .val t.d, .val (.int s.plc), .val (.int t.plc), .emp, .emp, .emp] C5 = .ok (.nx [.val .cell, .val (.int n), .val (.int (hv n)), .emp, .emp, .emp, .val s.d, .val t.d, .val (.int s.plc), .val (.int t.plc), .emp, .emp, .emp]) C5 := by
    by_cases hnx : s.plc + 1 < hv n
    · obtain ⟨w, hw1, hw2⟩ := unr n (s.plc + 1) hn1 (by omega) (by omega) hnx
      have q1 := nthS w hw1
      have q2 := plcS w hw1
      have q3 := bef w hw1
      rw [hw2] at q1 q2
      have q4 : sg s w = -1 := by unfold sg; rw [if_pos (by omega)]
      rw [q4] at q3
      exact r6y (callD T (p + 2)) C5 _ _ _ _ _ _ n s.plc (hv n) s.d w.d hnx q1 q3 q2
    · exact r6n (callD T (p + 2)) C5 _ _ _ _ _ _ _ _ n s.plc s.plc (hv n) .emp hnx
  refine ss_nx R6 (ss_nx (ifs_no (callD T (p + 2)) C5 C5 (r7 (callD T (p + 2)) C5 _ _ _ _ _ _ _ _ n (hv n) u.d v.d hrd nu pu nv pv same7)) ?_)
  refine ss_nx (r8 (callD T (p + 2)) C5 C6 _ _ _ _ _ _ _ _ _ _ tr.d f1) (ss_nx (h2 _ _ _ _ _ _ _ _ _ rfl) (ss_nx (r10 (callD T (p + 2)) C8 C9 _ _ _ _ _ _ _ _ _ _ (.str g) i1) (ss_nx (r11 (callD T (p + 2)) C9 C10 _ _ _ _ _ _ _ _ (.str g) s.d e2' _ j1 k1) ?_)))
  by_cases hd : (nam g s 0).dep ≤ 30
  · have l1 := shapeof_ok C10 _ nok (mx_refl _ (Tr.dat nok).1) (by omega) hd (p + 1) (by omega)
    have l2 := leavesof_ok C10 _ nok (mx_refl _ (Tr.dat nok).1) (by omega) hd (p + 1) (by omega)
    have l3 := numof_ok C10 _ nok (mx_refl _ (Tr.dat nok).1) (by omega) hd (p + 1) (by omega)
    rw [nbr] at l1 l3
    rw [lvD_nam, c2] at l2
    have l4 : biD .rangeT1 [.int (n : Int)] = some (.tup (rangeD ((0 : Nat) : Int) n)) := by
      have : rgOk 0 (n : Int) = true := by unfold rgOk rngOk sizeMost; simp; omega
      simp only [biD]
      rw [if_pos this]
      rw [show ((n : Int)).toNat = n by omega]
      rfl
    have l5 := snum_ok C10 s (mx_refl _ (tdS s)) (p + 1) (by omega) (by omega)
    have same13 := same_l (p + 1) [s.d, .tup (rangeD ((0 : Nat) : Int) n), .int s.num] C10 (by omega) (by show 3 ≤ 1000; omega) (fun x hx => by
      simp only [List.mem_cons, List.not_mem_nil, or_false] at hx
      obtain ⟨p', rfl⟩ : ∃ p', p = p' + 1 := ⟨p - 1, by omega⟩
      rcases hx with rfl | rfl | rfl
      · exact ⟨plS s _ (by omega), szS s⟩
      · refine ⟨?_, ?_⟩
        · show pls p' _ = true
          refine pls_all fun y hy => ?_
          unfold rangeD at hy
          obtain ⟨i, _, rfl⟩ := List.mem_map.mp hy
          exact pl_int _ _
        · have hl : (rangeD ((0 : Nat) : Int) n).length ≤ sizeMost := by rw [rangeD_len]; unfold sizeMost; omega
          simp only [szOk, decide_eq_true hl, Bool.true_and]
          refine szs_all fun y hy => ?_
          unfold rangeD at hy
          obtain ⟨i, _, rfl⟩ := List.mem_map.mp hy
          rfl
      · exact ⟨pl_int _ _, rfl⟩)
    refine ss_nx (r12n (callD T (p + 2)) C10 _ _ _ _ _ _ _ _ _ _ _ (nam g s 0).dep ndeep (by omega)) (ss_nx (ifs_no (callD T (p + 2)) C10 C10 (r13 (callD T (p + 2)) C10 _ _ _ _ _ _ _ _ n s.num s.d (nam g s 0).d _ l1 l2 l3 l4 l5 same13)) (ss_rt (r14 (callD T (p + 2)) C10 _ _ _ _ _ _ _ _ _ _ _ ?_)))
    obtain ⟨hs, hp, hpr⟩ := lparts_ok C10 _ nok (by omega) (by omega) (p + 1) (by omega)
    refine ev_comp (xs := hs.map pD) (evi_e (x := .lst (hs.map pD)) ?_ rfl) (loopC_no fun w hw => ?_) (by show 0 ≤ sizeMost; omega)
    · simp [ev, evs, R.bind, R.of, slotD, hpr]
    · have hw' := hp.mem_iff.mp hw
      have ho := rp_one g _ [] (nam_one g s 0) w hw'
      have hok := (rp_all _ [] nok w hw').1
      obtain ⟨wp, wt⟩ := w
      cases wt with
      | leaf x => exact fil_lf (callD T (p + 2)) C10 _ _ _ _ _ _ _ _ _ _ _ _ x (sides_ok C10 (.leaf x) hok (p + 1)).2
      | turn x => cases ho
      | fork g' x y =>
        obtain ⟨rfl, _, _⟩ := ho
        exact fil_fk (callD T (p + 2)) C10 _ _ _ _ _ _ _ _ _ _ _ _ _ _ (sides_ok C10 (.fork g' x y) hok (p + 1)).2 (by
          have hk : okDs ([x, y].map Tr.d) = true := okDs_map fun z hz => ((Tr.fork g' x y).kid_ok hok hz).1
          exact cmpTnilN _ hk) rfl (by simp [cmpD, okD, dep, eqD])
  · exact ss_rt (r12y (callD T (p + 2)) C10 _ _ _ _ _ _ _ _ _ _ _ (nam g s 0).dep ndeep (by omega))
end Mi

set_option Elab.async false
set_option linter.all false
set_option maxRecDepth 100000
set_option maxHeartbeats 4000000
namespace Mi
abbrev evD : D := (Sh.nd (.nd .lf .lf) (.nd .lf .lf)).d
abbrev gotE : E := .lst (.cons (.call 292 (.cons (.lit (.int 4)) (.cons (.lit (.int 2)) .nil))) (.cons (.call 291 (.cons (.v 2) .nil)) (.cons (.call 294 (.cons (.tup (.cons (.lit (.str [42])) (.cons (.tup (.cons (.lit (.str [43])) (.cons (.lit (.str [97])) (.cons (.lit (.str [98])) .nil)))) (.cons (.tup (.cons (.lit (.str [45])) (.cons (.tup (.cons (.lit (.str [43])) (.cons (.lit (.str [99])) (.cons (.lit (.str [100])) .nil)))) .nil))) .nil)))) .nil)) (.cons (.call 295 (.cons (.tup (.cons (.tup .nil) (.cons (.tup (.cons (.tup .nil) (.cons (.tup .nil) .nil))) .nil))) (.cons (.lit (.str [45])) .nil))) (.cons (.call 274 (.cons (.v 2) .nil)) (.cons (.call 86 (.cons (.gc (.fn 292)) (.cons (.tup (.cons (.lit (.int 3)) (.cons (.lit (.int 2)) .nil))) .nil))) (.cons (.call 293 (.cons (.tup (.cons (.tup .nil) (.cons (.tup .nil) (.cons (.tup .nil) .nil)))) .nil)) (.cons (.call 293 (.cons (.tup .nil) .nil)) .nil))))))))
abbrev gotD : List D := [evD, .int 2, evD, .tup [.str [45], .int 0, .tup [.str [45], .int 1, .int 2]], .int 3, .lst [.str [99, 97, 110, 32, 110, 111, 116], .bl true], .bl false, .bl true]
theorem got_ok (x0 x1 : Sl) (C : Cells) : ev (callD T 140) gotE [x0, x1, .val evD, .emp, .emp] C = .ok (.lst gotD) C := by kernel_rfl
theorem got_same (C : Cells) : callD T 140 24 [.lst gotD, .lst gotD] C = .ok (.bl true) C := same_ok 139 (.lst gotD) C rfl (by decide +kernel)
theorem rt4 (k : Nat) : ∀ (l : List D) (C : Cells) (x0 x2 x3 x4 : Sl), Dr (1000 * l.length + k) C → ∃ C', loopC (cmF (callD T 140) (.call 297 (.cons (.v 1) .nil)) (.v 4) .no [x0, .val .cell, x2, x3, x4]) l C = .ok (l.map fun _ => .bl true) C' ∧ Dr k C'
  | [], C, _, _, _, _, h => ⟨C, rfl, h.mono (by omega)⟩
  | x :: l, C, x0, x2, x3, x4, h => by
    obtain ⟨C1, a1, a2⟩ := right_ok 138 (by omega) (1000 * l.length + k) C (h.mono (by simp only [List.length_cons]; omega))
    obtain ⟨C2, b1, b2⟩ := rt4 k l C1 x0 x2 x3 x4 a2
    refine ⟨C2, ?_, b2⟩
    have e : cmF (callD T 140) (.call 297 (.cons (.v 1) .nil)) (.v 4) .no [x0, .val .cell, x2, x3, x4] x C = .ok [.bl true] C1 := by
      have a1 : callD T 140 297 [.cell] C = .ok (.bl true) C1 := a1
      generalize callD T 140 = cl at a1 ⊢
      simp [cmF, bindT, wipeS, Tg.vars, evc, ev, evs, R.bind, R.of, slotD, a1]
    show (cmF _ _ _ _ _ x C).bind _ = _
    rw [e]
    show (loopC _ l C1).bind _ = _
    rw [b1]
    rfl
abbrev NN : Nat := 140
abbrev flaw : FDef := f546
theorem law_tail (cl : Call) (C C' : Cells) (x0 : Sl) (h1 : ∀ y, ev cl gotE [x0, .val .cell, .val evD, .emp, .emp] y = .ok (.lst gotD) y) (h2 : ∀ y, cl 24 [.lst gotD, .lst gotD] y = .ok (.bl true) y) (h3 : loopC (cmF cl (.call 297 (.cons (.v 1) .nil)) (.v 4) .no [x0, .val .cell, .val evD, .val (.lst gotD), .emp]) (rangeD 0 4) C = .ok ((rangeD 0 4).map fun _ => .bl true) C') : evSs cl flaw.body [x0, .val .cell, .emp, .emp, .emp] C = .ok (.rt (.bl true)) C' := by
  have s1 : evS cl (.asg (.v 2) (.tup (.cons (.tup (.cons (.tup .nil) (.cons (.tup .nil) .nil))) (.cons (.tup (.cons (.tup .nil) (.cons (.tup .nil) .nil))) .nil)))) [x0, .val .cell, .emp, .emp, .emp] C = .ok (.nx [x0, .val .cell, .val evD, .emp, .emp]) C := rfl
  have s2 : evS cl (.asg (.v 3) gotE) [x0, .val .cell, .val evD, .emp, .emp] C = .ok (.nx [x0, .val .cell, .val evD, .val (.lst gotD), .emp]) C := by
    rw [evS, h1]
    rfl
  refine ss_nx s1 (ss_nx s2 (ss_nx (ifs_no cl C C ?_) (ss_rt ?_)))
  · rw [ev]
    show (cl 24 [.lst gotD, .lst gotD] C) = _
    exact h2 C
  · have he : evi cl (.range1 (.lit (.int 4))) [x0, .val .cell, .val evD, .val (.lst gotD), .emp] C = .ok (rangeD 0 4) C := by
      have : rngOk 0 4 = true := by decide
      simp [evi, ev, R.bind, this]
    have := ev_bi1 (f := .all) (ev_comp he h3 (by show 4 ≤ sizeMost; unfold sizeMost; omega)) (d := .bl true) rfl
    rw [evS, this]
theorem runs : LawRuns T NN 296 37 flaw.names.length flaw.body := by
  intro ns hl
  obtain ⟨a, b, h⟩ := draws_ok 139 5 (by omega) ns hl
  obtain ⟨C', h1, _⟩ := rt4 0 (rangeD 0 4) [a, b, 0] (.val (.frl (ns.map .int))) (.val evD) (.val (.lst gotD)) .emp ⟨a, b, 0, rfl, by omega, by show (0 : Int) + ((1000 * 4 + 0 : Nat) : Int) < 1000000000; omega⟩
  exact ⟨[a, b, 0], C', h, law_tail (callD T 140) _ _ _ (fun y => got_ok _ _ y) (fun y => got_same y) h1⟩
end Mi

namespace Mi
open PySem PySem.Spec PyProof.Rows L2
def top (i : Nat) : Stmt := PySem.Challenge.pw_fewregisters_k16_main_places_of_shapes.main.body.getD i (.Pass ⟨0, 0, 0, 0⟩)
def GG : List (Str × D) := [("FIGURES", .str [48, 49, 50, 51, 52, 53, 54, 55, 56, 57]), ("LETTERS", .str [97, 98, 99, 100, 101, 102, 103, 104, 105, 106, 107, 108, 109, 110, 111, 112, 113, 114, 115, 116, 117, 118, 119, 120, 121, 122]), ("LONGEST_LABEL", .int 12), ("SIGNS", .frt [.str [43], .str [45], .str [42]]), ("MOST_LEAF", .int 1000000000), ("MOST_SIZE", .int 200), ("MOST_DEEP", .int 30), ("MOST_LEAVES", .int 200), ("MOST_RANKED", .int 60), ("nth_shape", .fn 292)]
def es : List Ent := [(0, f0, top 5), (2, f2, top 6), (123, f123, top 7), (5, f5, top 8), (1, f1, top 9), (3, f3, top 14), (4, f4, top 20), (7, f7, top 21), (6, f6, top 22), (8, f8, top 23), (9, f9, top 24), (10, f10, top 25), (11, f11, top 26), (21, f21, top 27), (39, f39, top 28), (170, f170, top 29), (283, f283, top 33), (260, f260, top 34), (261, f261, top 35), (264, f264, top 36), (265, f265, top 37), (284, f284, top 38), (285, f285, top 39), (263, f263, top 40), (286, f286, top 41), (293, f293, top 42), (294, f294, top 43), (295, f295, top 44), (274, f274, top 45), (271, f271, top 46), (291, f291, top 47), (292, f292, top 48), (65, f65, top 50), (64, f64, top 51), (112, f112, top 52), (296, f296, top 54), (22, f22, top 55), (37, f37, top 56), (25, f25, top 57), (23, f23, top 58), (24, f24, top 59), (71, f71, top 60), (72, f72, top 61), (70, f70, top 62), (86, f86, top 63), (28, f28, top 64), (26, f26, top 65), (27, f27, top 66), (73, f73, top 67), (76, f76, top 68), (29, f29, top 69), (31, f31, top 70), (287, f287, top 71), (288, f288, top 72), (289, f289, top 73), (290, f290, top 74), (297, f297, top 75)]
theorem ck0 : cDef (paOf T GG) f0 (top 5) = true := by decide +kernel
theorem bd0 : BindsOk f0 (top 5) := fun _ _ _ _ _ _ => ar1 fun _ => rfl
theorem ck2 : cDef (paOf T GG) f2 (top 6) = true := by decide +kernel
theorem bd2 : BindsOk f2 (top 6) := fun _ _ _ _ _ _ => ar3 fun _ _ _ => rfl
theorem ck123 : cDef (paOf T GG) f123 (top 7) = true := by decide +kernel
theorem bd123 : BindsOk f123 (top 7) := fun _ _ _ _ _ _ => ar3 fun _ _ _ => rfl
theorem ck5 : cDef (paOf T GG) f5 (top 8) = true := by decide +kernel
theorem bd5 : BindsOk f5 (top 8) := fun _ _ _ _ _ _ => ar2 fun _ _ => rfl
theorem ck1 : cDef (paOf T GG) f1 (top 9) = true := by decide +kernel
theorem bd1 : BindsOk f1 (top 9) := fun _ _ _ _ _ _ => ar1 fun _ => rfl
theorem ck3 : cDef (paOf T GG) f3 (top 14) = true := by decide +kernel
theorem bd3 : BindsOk f3 (top 14) := fun _ _ _ _ _ _ => ar1 fun _ => rfl
theorem ck4 : cDef (paOf T GG) f4 (top 20) = true := by decide +kernel
theorem bd4 : BindsOk f4 (top 20) := fun _ _ _ _ _ _ => ar1 fun _ => rfl
theorem ck7 : cDef (paOf T GG) f7 (top 21) = true := by decide +kernel
theorem bd7 : BindsOk f7 (top 21) := fun _ _ _ _ _ _ => ar1 fun _ => rfl
theorem ck6 : cDef (paOf T GG) f6 (top 22) = true := by decide +kernel
theorem bd6 : BindsOk f6 (top 22) := fun _ _ _ _ _ _ => ar1 fun _ => rfl
theorem ck8 : cDef (paOf T GG) f8 (top 23) = true := by decide +kernel
theorem bd8 : BindsOk f8 (top 23) := fun _ _ _ _ _ _ => ar1 fun _ => rfl
theorem ck9 : cDef (paOf T GG) f9 (top 24) = true := by decide +kernel
theorem bd9 : BindsOk f9 (top 24) := fun _ _ _ _ _ _ => ar1 fun _ => rfl
theorem ck10 : cDef (paOf T GG) f10 (top 25) = true := by decide +kernel
theorem bd10 : BindsOk f10 (top 25) := fun _ _ _ _ _ _ => ar1 fun _ => rfl
theorem ck11 : cDef (paOf T GG) f11 (top 26) = true := by decide +kernel
theorem bd11 : BindsOk f11 (top 26) := fun _ _ _ _ _ _ => ar1 fun _ => rfl
theorem ck21 : cDef (paOf T GG) f21 (top 27) = true := by decide +kernel
theorem bd21 : BindsOk f21 (top 27) := fun _ _ _ _ _ _ => ar1 fun _ => rfl
theorem ck39 : cDef (paOf T GG) f39 (top 28) = true := by decide +kernel
theorem bd39 : BindsOk f39 (top 28) := fun _ _ _ _ _ _ => ar1 fun _ => rfl
theorem ck170 : cDef (paOf T GG) f170 (top 29) = true := by decide +kernel
theorem bd170 : BindsOk f170 (top 29) := fun _ _ _ _ _ _ => ar1 fun _ => rfl
theorem ck283 : cDef (paOf T GG) f283 (top 33) = true := by decide +kernel
theorem bd283 : BindsOk f283 (top 33) := fun _ _ _ _ _ _ => ar1 fun _ => rfl
theorem ck260 : cDef (paOf T GG) f260 (top 34) = true := by decide +kernel
theorem bd260 : BindsOk f260 (top 34) := fun _ _ _ _ _ _ => ar1 fun _ => rfl
theorem ck261 : cDef (paOf T GG) f261 (top 35) = true := by decide +kernel
theorem bd261 : BindsOk f261 (top 35) := fun _ _ _ _ _ _ => ar1 fun _ => rfl
theorem ck264 : cDef (paOf T GG) f264 (top 36) = true := by decide +kernel
theorem bd264 : BindsOk f264 (top 36) := fun _ _ _ _ _ _ => ar1 fun _ => rfl
theorem ck265 : cDef (paOf T GG) f265 (top 37) = true := by decide +kernel
theorem bd265 : BindsOk f265 (top 37) := fun _ _ _ _ _ _ => ar1 fun _ => rfl
theorem ck284 : cDef (paOf T GG) f284 (top 38) = true := by decide +kernel
theorem bd284 : BindsOk f284 (top 38) := fun _ _ _ _ _ _ => ar2 fun _ _ => rfl
theorem ck285 : cDef (paOf T GG) f285 (top 39) = true := by decide +kernel
theorem bd285 : BindsOk f285 (top 39) := fun _ _ _ _ _ _ => ar3 fun _ _ _ => rfl
theorem ck263 : cDef (paOf T GG) f263 (top 40) = true := by decide +kernel
theorem bd263 : BindsOk f263 (top 40) := fun _ _ _ _ _ _ => ar1 fun _ => rfl
theorem ck286 : cDef (paOf T GG) f286 (top 41) = true := by decide +kernel
theorem bd286 : BindsOk f286 (top 41) := fun _ _ _ _ _ _ => ar3 fun _ _ _ => rfl
theorem ck293 : cDef (paOf T GG) f293 (top 42) = true := by decide +kernel
theorem bd293 : BindsOk f293 (top 42) := fun _ _ _ _ _ _ => ar1 fun _ => rfl
theorem ck294 : cDef (paOf T GG) f294 (top 43) = true := by decide +kernel
theorem bd294 : BindsOk f294 (top 43) := fun _ _ _ _ _ _ => ar1 fun _ => rfl
theorem ck295 : cDef (paOf T GG) f295 (top 44) = true := by decide +kernel
theorem bd295 : BindsOk f295 (top 44) := fun _ _ _ _ _ _ => ar2 fun _ _ => rfl
theorem ck274 : cDef (paOf T GG) f274 (top 45) = true := by decide +kernel
theorem bd274 : BindsOk f274 (top 45) := fun _ _ _ _ _ _ => ar1 fun _ => rfl
theorem ck271 : cDef (paOf T GG) f271 (top 46) = true := by decide +kernel
theorem bd271 : BindsOk f271 (top 46) := fun _ _ _ _ _ _ => ar1 fun _ => rfl
theorem ck291 : cDef (paOf T GG) f291 (top 47) = true := by decide +kernel
theorem bd291 : BindsOk f291 (top 47) := fun _ _ _ _ _ _ => ar1 fun _ => rfl
theorem ck292 : cDef (paOf T GG) f292 (top 48) = true := by decide +kernel
theorem bd292 : BindsOk f292 (top 48) := fun _ _ _ _ _ _ => ar2 fun _ _ => rfl
theorem ck65 : cDef (paOf T GG) f65 (top 50) = true := by decide +kernel
theorem bd65 : BindsOk f65 (top 50) := fun _ _ _ _ _ _ => ar2 fun _ _ => rfl
theorem ck64 : cDef (paOf T GG) f64 (top 51) = true := by decide +kernel
theorem bd64 : BindsOk f64 (top 51) := fun _ _ _ _ _ _ => ar1 fun _ => rfl
theorem ck112 : cDef (paOf T GG) f112 (top 52) = true := by decide +kernel
theorem bd112 : BindsOk f112 (top 52) := fun _ _ _ _ _ _ => ar1 fun _ => rfl
theorem ck296 : cDef (paOf T GG) f296 (top 54) = true := by decide +kernel
theorem bd296 : BindsOk f296 (top 54) := fun _ _ _ _ _ _ => ar2 fun _ _ => rfl
theorem ck22 : cDef (paOf T GG) f22 (top 55) = true := by decide +kernel
theorem bd22 : BindsOk f22 (top 55) := fun _ _ _ _ _ _ => ar2 fun _ _ => rfl
theorem ck37 : cDef (paOf T GG) f37 (top 56) = true := by decide +kernel
theorem bd37 : BindsOk f37 (top 56) := fun _ _ _ _ _ _ => ar2 fun _ _ => rfl
theorem ck25 : cDef (paOf T GG) f25 (top 57) = true := by decide +kernel
theorem bd25 : BindsOk f25 (top 57) := fun _ _ _ _ _ _ => ar2 fun _ _ => rfl
theorem ck23 : cDef (paOf T GG) f23 (top 58) = true := by decide +kernel
theorem bd23 : BindsOk f23 (top 58) := fun _ _ _ _ _ _ => ar2 fun _ _ => rfl
theorem ck24 : cDef (paOf T GG) f24 (top 59) = true := by decide +kernel
theorem bd24 : BindsOk f24 (top 59) := fun _ _ _ _ _ _ => ar2 fun _ _ => rfl
theorem ck71 : cDef (paOf T GG) f71 (top 60) = true := by decide +kernel
theorem bd71 : BindsOk f71 (top 60) := fun _ _ _ _ _ _ => ar1 fun _ => rfl
theorem ck72 : cDef (paOf T GG) f72 (top 61) = true := by decide +kernel
theorem bd72 : BindsOk f72 (top 61) := fun _ _ _ _ _ _ => ar2 fun _ _ => rfl
theorem ck70 : cDef (paOf T GG) f70 (top 62) = true := by decide +kernel
theorem bd70 : BindsOk f70 (top 62) := fun _ _ _ _ _ _ => ar2 fun _ _ => rfl
theorem ck86 : cDef (paOf T GG) f86 (top 63) = true := by decide +kernel
theorem bd86 : BindsOk f86 (top 63) := fun _ _ _ _ _ _ => ar2 fun _ _ => rfl
theorem ck28 : cDef (paOf T GG) f28 (top 64) = true := by decide +kernel
theorem bd28 : BindsOk f28 (top 64) := fun _ _ _ _ _ _ => ar1 fun _ => rfl
theorem ck26 : cDef (paOf T GG) f26 (top 65) = true := by decide +kernel
theorem bd26 : BindsOk f26 (top 65) := fun _ _ _ _ _ _ => ar1 fun _ => rfl
theorem ck27 : cDef (paOf T GG) f27 (top 66) = true := by decide +kernel
theorem bd27 : BindsOk f27 (top 66) := fun _ _ _ _ _ _ => ar3 fun _ _ _ => rfl
theorem ck73 : cDef (paOf T GG) f73 (top 67) = true := by decide +kernel
theorem bd73 : BindsOk f73 (top 67) := fun _ _ _ _ _ _ => ar2 fun _ _ => rfl
theorem ck76 : cDef (paOf T GG) f76 (top 68) = true := by decide +kernel
theorem bd76 : BindsOk f76 (top 68) := fun _ _ _ _ _ _ => ar2 fun _ _ => rfl
theorem ck29 : cDef (paOf T GG) f29 (top 69) = true := by decide +kernel
theorem bd29 : BindsOk f29 (top 69) := fun _ _ _ _ _ _ => ar1 fun _ => rfl
theorem ck31 : cDef (paOf T GG) f31 (top 70) = true := by decide +kernel
theorem bd31 : BindsOk f31 (top 70) := fun _ _ _ _ _ _ => ar1 fun _ => rfl
theorem ck287 : cDef (paOf T GG) f287 (top 71) = true := by decide +kernel
theorem bd287 : BindsOk f287 (top 71) := fun _ _ _ _ _ _ => ar1 fun _ => rfl
theorem ck288 : cDef (paOf T GG) f288 (top 72) = true := by decide +kernel
theorem bd288 : BindsOk f288 (top 72) := fun _ _ _ _ _ _ => ar2 fun _ _ => rfl
theorem ck289 : cDef (paOf T GG) f289 (top 73) = true := by decide +kernel
theorem bd289 : BindsOk f289 (top 73) := fun _ _ _ _ _ _ => ar2 fun _ _ => rfl
theorem ck290 : cDef (paOf T GG) f290 (top 74) = true := by decide +kernel
theorem bd290 : BindsOk f290 (top 74) := fun _ _ _ _ _ _ => ar1 fun _ => rfl
theorem ck297 : cDef (paOf T GG) f297 (top 75) = true := by decide +kernel
theorem bd297 : BindsOk f297 (top 75) := fun _ _ _ _ _ _ => ar1 fun _ => rfl
theorem es_ck : ∀ e ∈ es, cDef (paOf T GG) e.2.1 e.2.2 = true := by
  unfold es
  simp only [List.forall_mem_cons]
  exact ⟨ck0, ck2, ck123, ck5, ck1, ck3, ck4, ck7, ck6, ck8, ck9, ck10, ck11, ck21, ck39, ck170, ck283, ck260, ck261, ck264, ck265, ck284, ck285, ck263, ck286, ck293, ck294, ck295, ck274, ck271, ck291, ck292, ck65, ck64, ck112, ck296, ck22, ck37, ck25, ck23, ck24, ck71, ck72, ck70, ck86, ck28, ck26, ck27, ck73, ck76, ck29, ck31, ck287, ck288, ck289, ck290, ck297, fun e he => by cases he⟩
theorem es_bd : ∀ e ∈ es, BindsOk e.2.1 e.2.2 := by
  unfold es
  simp only [List.forall_mem_cons]
  exact ⟨bd0, bd2, bd123, bd5, bd1, bd3, bd4, bd7, bd6, bd8, bd9, bd10, bd11, bd21, bd39, bd170, bd283, bd260, bd261, bd264, bd265, bd284, bd285, bd263, bd286, bd293, bd294, bd295, bd274, bd271, bd291, bd292, bd65, bd64, bd112, bd296, bd22, bd37, bd25, bd23, bd24, bd71, bd72, bd70, bd86, bd28, bd26, bd27, bd73, bd76, bd29, bd31, bd287, bd288, bd289, bd290, bd297, fun e he => by cases he⟩
theorem es_nd : (es.map (·.1)).Nodup := by decide
theorem es_T : ∀ f d, T f = some d → ∃ st, (f, d, st) ∈ es := by
  intro f d h
  unfold T at h
  split at h
  · cases h; exact ⟨_, List.mem_of_getElem? (i := 0) rfl⟩
  · cases h; exact ⟨_, List.mem_of_getElem? (i := 4) rfl⟩
  · cases h; exact ⟨_, List.mem_of_getElem? (i := 1) rfl⟩
  · cases h; exact ⟨_, List.mem_of_getElem? (i := 5) rfl⟩
  · cases h; exact ⟨_, List.mem_of_getElem? (i := 6) rfl⟩
  · cases h; exact ⟨_, List.mem_of_getElem? (i := 3) rfl⟩
  · cases h; exact ⟨_, List.mem_of_getElem? (i := 8) rfl⟩
  · cases h; exact ⟨_, List.mem_of_getElem? (i := 7) rfl⟩
  · cases h; exact ⟨_, List.mem_of_getElem? (i := 9) rfl⟩
  · cases h; exact ⟨_, List.mem_of_getElem? (i := 10) rfl⟩
  · cases h; exact ⟨_, List.mem_of_getElem? (i := 11) rfl⟩
  · cases h; exact ⟨_, List.mem_of_getElem? (i := 12) rfl⟩
  · cases h; exact ⟨_, List.mem_of_getElem? (i := 13) rfl⟩
  · cases h; exact ⟨_, List.mem_of_getElem? (i := 36) rfl⟩
  · cases h; exact ⟨_, List.mem_of_getElem? (i := 39) rfl⟩
  · cases h; exact ⟨_, List.mem_of_getElem? (i := 40) rfl⟩
  · cases h; exact ⟨_, List.mem_of_getElem? (i := 38) rfl⟩
  · cases h; exact ⟨_, List.mem_of_getElem? (i := 46) rfl⟩
  · cases h; exact ⟨_, List.mem_of_getElem? (i := 47) rfl⟩
  · cases h; exact ⟨_, List.mem_of_getElem? (i := 45) rfl⟩
  · cases h; exact ⟨_, List.mem_of_getElem? (i := 50) rfl⟩
  · cases h; exact ⟨_, List.mem_of_getElem? (i := 51) rfl⟩
  · cases h; exact ⟨_, List.mem_of_getElem? (i := 37) rfl⟩
  · cases h; exact ⟨_, List.mem_of_getElem? (i := 14) rfl⟩
  · cases h; exact ⟨_, List.mem_of_getElem? (i := 33) rfl⟩
  · cases h; exact ⟨_, List.mem_of_getElem? (i := 32) rfl⟩
  · cases h; exact ⟨_, List.mem_of_getElem? (i := 43) rfl⟩
  · cases h; exact ⟨_, List.mem_of_getElem? (i := 41) rfl⟩
  · cases h; exact ⟨_, List.mem_of_getElem? (i := 42) rfl⟩
  · cases h; exact ⟨_, List.mem_of_getElem? (i := 48) rfl⟩
  · cases h; exact ⟨_, List.mem_of_getElem? (i := 49) rfl⟩
  · cases h; exact ⟨_, List.mem_of_getElem? (i := 44) rfl⟩
  · cases h; exact ⟨_, List.mem_of_getElem? (i := 34) rfl⟩
  · cases h; exact ⟨_, List.mem_of_getElem? (i := 2) rfl⟩
  · cases h; exact ⟨_, List.mem_of_getElem? (i := 15) rfl⟩
  · cases h; exact ⟨_, List.mem_of_getElem? (i := 17) rfl⟩
  · cases h; exact ⟨_, List.mem_of_getElem? (i := 18) rfl⟩
  · cases h; exact ⟨_, List.mem_of_getElem? (i := 23) rfl⟩
  · cases h; exact ⟨_, List.mem_of_getElem? (i := 19) rfl⟩
  · cases h; exact ⟨_, List.mem_of_getElem? (i := 20) rfl⟩
  · cases h; exact ⟨_, List.mem_of_getElem? (i := 29) rfl⟩
  · cases h; exact ⟨_, List.mem_of_getElem? (i := 28) rfl⟩
  · cases h; exact ⟨_, List.mem_of_getElem? (i := 16) rfl⟩
  · cases h; exact ⟨_, List.mem_of_getElem? (i := 21) rfl⟩
  · cases h; exact ⟨_, List.mem_of_getElem? (i := 22) rfl⟩
  · cases h; exact ⟨_, List.mem_of_getElem? (i := 24) rfl⟩
  · cases h; exact ⟨_, List.mem_of_getElem? (i := 52) rfl⟩
  · cases h; exact ⟨_, List.mem_of_getElem? (i := 53) rfl⟩
  · cases h; exact ⟨_, List.mem_of_getElem? (i := 54) rfl⟩
  · cases h; exact ⟨_, List.mem_of_getElem? (i := 55) rfl⟩
  · cases h; exact ⟨_, List.mem_of_getElem? (i := 30) rfl⟩
  · cases h; exact ⟨_, List.mem_of_getElem? (i := 31) rfl⟩
  · cases h; exact ⟨_, List.mem_of_getElem? (i := 25) rfl⟩
  · cases h; exact ⟨_, List.mem_of_getElem? (i := 26) rfl⟩
  · cases h; exact ⟨_, List.mem_of_getElem? (i := 27) rfl⟩
  · cases h; exact ⟨_, List.mem_of_getElem? (i := 35) rfl⟩
  · cases h; exact ⟨_, List.mem_of_getElem? (i := 56) rfl⟩
  · cases h
theorem law_ck : cLaw (paOf T GG) 296 37 flaw.names flaw.body (top 76) = true := by decide +kernel
end Mi
open PySem PySem.W PyProof.Rows
set_option maxRecDepth 100000 in
set_option maxHeartbeats 0 in
theorem PySem.Challenge.cw_fewregisters_k16_main_places_of_shapes_holds : PySem.Challenge.rw_fewregisters_k16_main_places_of_shapes.Holds := by
  w_on; o_law; k_head; (case hw => w_witness2)
  k_fill
  refine Mi.law_walk (l := PySem.Challenge.rw_fewregisters_k16_main_places_of_shapes) (N := Mi.NN) rfl rfl ⟨rfl, by decide, by decide⟩ (fun w h Y => PySem.W.kIn_of Y) ?F
  case F =>
    intro w mg fa h KX G hmg
    refine' Mi.law_top KX G hmg Mi.es_T Mi.es_nd Mi.es_bd Mi.es_ck Mi.law_ck Mi.runs (.cons ?a0 ?l0 ?c0 ?k0 (.cons ?a1 ?l1 ?c1 ?k1 (.cons ?a2 ?l2 ?c2 ?k2 (.cons ?a3 ?l3 ?c3 ?k3 (.cons ?a4 ?l4 ?c4 ?k4 (.cons ?a5 ?l5 ?c5 ?k5 (.cons ?a6 ?l6 ?c6 ?k6 (.cons ?a7 ?l7 ?c7 ?k7 (.cons ?a8 ?l8 ?c8 ?k8 (.cons ?a9 ?l9 ?c9 ?k9 (.cons ?a10 ?l10 ?c10 ?k10 (.cons ?a11 ?l11 ?c11 ?k11 (.cons ?a12 ?l12 ?c12 ?k12 (.cons ?a13 ?l13 ?c13 ?k13 (.cons ?a14 ?l14 ?c14 ?k14 (.cons ?a15 ?l15 ?c15 ?k15 (.cons ?a16 ?l16 ?c16 ?k16 (.cons ?a17 ?l17 ?c17 ?k17 (.cons ?a18 ?l18 ?c18 ?k18 (.cons ?a19 ?l19 ?c19 ?k19 (.cons ?a20 ?l20 ?c20 ?k20 (.cons ?a21 ?l21 ?c21 ?k21 (.cons ?a22 ?l22 ?c22 ?k22 (.cons ?a23 ?l23 ?c23 ?k23 (.cons ?a24 ?l24 ?c24 ?k24 (.cons ?a25 ?l25 ?c25 ?k25 (.cons ?a26 ?l26 ?c26 ?k26 (.cons ?a27 ?l27 ?c27 ?k27 (.cons ?a28 ?l28 ?c28 ?k28 (.cons ?a29 ?l29 ?c29 ?k29 (.cons ?a30 ?l30 ?c30 ?k30 (.cons ?a31 ?l31 ?c31 ?k31 (.cons ?a32 ?l32 ?c32 ?k32 (.cons ?a33 ?l33 ?c33 ?k33 (.cons ?a34 ?l34 ?c34 ?k34 (.cons ?a35 ?l35 ?c35 ?k35 (.cons ?a36 ?l36 ?c36 ?k36 (.cons ?a37 ?l37 ?c37 ?k37 (.cons ?a38 ?l38 ?c38 ?k38 (.cons ?a39 ?l39 ?c39 ?k39 (.cons ?a40 ?l40 ?c40 ?k40 (.cons ?a41 ?l41 ?c41 ?k41 (.cons ?a42 ?l42 ?c42 ?k42 (.cons ?a43 ?l43 ?c43 ?k43 (.cons ?a44 ?l44 ?c44 ?k44 (.cons ?a45 ?l45 ?c45 ?k45 (.cons ?a46 ?l46 ?c46 ?k46 (.cons ?a47 ?l47 ?c47 ?k47 (.cons ?a48 ?l48 ?c48 ?k48 (.cons ?a49 ?l49 ?c49 ?k49 (.cons ?a50 ?l50 ?c50 ?k50 (.cons ?a51 ?l51 ?c51 ?k51 (.cons ?a52 ?l52 ?c52 ?k52 (.cons ?a53 ?l53 ?c53 ?k53 (.cons ?a54 ?l54 ?c54 ?k54 (.cons ?a55 ?l55 ?c55 ?k55 (.cons ?a56 ?l56 ?c56 ?k56 .nil))))))))))))))))))))))))))))))))))))))))))))))))))))))))) ⟨?z0, ?z1, ?z2, ?z3, ?z4, ?z5, ?z6, ?z7, ?z8, ?z9, ?z10, ?z11, ?z12, ?z13, ?z14, ?z15, ?z16, ?z17, ?z18⟩ ⟨?nM, ?nU, ?nC, ?nV, ⟨?rM0, ?rM1, ?rM2, ?rM3, ?rM4, ?rM5, ?rM6, ?rM7, ?rM8, ?rM9, ?rM10, ?rM11⟩, ⟨?rU0, ?rU1, ?rU2, ?rU3, ?rU4, ?rU5, ?rU6, ?rU7, ?rU8, ?rU9, ?rU10, ?rU11⟩, ⟨?rC0, ?rC1, ?rC2, ?rC3, ?rC4, ?rC5, ?rC6, ?rC7, ?rC8, ?rC9, ?rC10, ?rC11⟩, ?sMM, ?sMU, ?sMC, ?sUM, ?sUU, ?sUC, ?sCM, ?sCU, ?sCC⟩ (.str ?gg0 ?gd0 (.str ?gg1 ?gd1 (.int ?gg2 (.tup ?gg3 ?gl3 ?gd3 (.int ?gg4 (.int ?gg5 (.int ?gg6 (.int ?gg7 (.int ?gg8 (.fn ?gg9 ?gf9 .nil)))))))))) ?aL ?lL ?cL ?kL ?bL
    (case a0 => k_is); (case l0 => k_is); (case c0 => k_is); (case k0 => k_is)
    (case a1 => k_is); (case l1 => k_is); (case c1 => k_is); (case k1 => k_is)
    (case a2 => k_is); (case l2 => k_is); (case c2 => k_is); (case k2 => k_is)
    (case a3 => k_is); (case l3 => k_is); (case c3 => k_is); (case k3 => k_is)
    (case a4 => k_is); (case l4 => k_is); (case c4 => k_is); (case k4 => k_is)
    (case a5 => k_is); (case l5 => k_is); (case c5 => k_is); (case k5 => k_is)
    (case a6 => k_is); (case l6 => k_is); (case c6 => k_is); (case k6 => k_is)
    (case a7 => k_is); (case l7 => k_is); (case c7 => k_is); (case k7 => k_is)
    (case a8 => k_is); (case l8 => k_is); (case c8 => k_is); (case k8 => k_is)
    (case a9 => k_is); (case l9 => k_is); (case c9 => k_is); (case k9 => k_is)
    (case a10 => k_is); (case l10 => k_is); (case c10 => k_is); (case k10 => k_is)
    (case a11 => k_is); (case l11 => k_is); (case c11 => k_is); (case k11 => k_is)
    (case a12 => k_is); (case l12 => k_is); (case c12 => k_is); (case k12 => k_is)
    (case a13 => k_is); (case l13 => k_is); (case c13 => k_is); (case k13 => k_is)
    (case a14 => k_is); (case l14 => k_is); (case c14 => k_is); (case k14 => k_is)
    (case a15 => k_is); (case l15 => k_is); (case c15 => k_is); (case k15 => k_is)
    (case a16 => k_is); (case l16 => k_is); (case c16 => k_is); (case k16 => k_is)
    (case a17 => k_is); (case l17 => k_is); (case c17 => k_is); (case k17 => k_is)
    (case a18 => k_is); (case l18 => k_is); (case c18 => k_is); (case k18 => k_is)
    (case a19 => k_is); (case l19 => k_is); (case c19 => k_is); (case k19 => k_is)
    (case a20 => k_is); (case l20 => k_is); (case c20 => k_is); (case k20 => k_is)
    (case a21 => k_is); (case l21 => k_is); (case c21 => k_is); (case k21 => k_is)
    (case a22 => k_is); (case l22 => k_is); (case c22 => k_is); (case k22 => k_is)
    (case a23 => k_is); (case l23 => k_is); (case c23 => k_is); (case k23 => k_is)
    (case a24 => k_is); (case l24 => k_is); (case c24 => k_is); (case k24 => k_is)
    (case a25 => k_is); (case l25 => k_is); (case c25 => k_is); (case k25 => k_is)
    (case a26 => k_is); (case l26 => k_is); (case c26 => k_is); (case k26 => k_is)
    (case a27 => k_is); (case l27 => k_is); (case c27 => k_is); (case k27 => k_is)
    (case a28 => k_is); (case l28 => k_is); (case c28 => k_is); (case k28 => k_is)
    (case a29 => k_is); (case l29 => k_is); (case c29 => k_is); (case k29 => k_is)
    (case a30 => k_is); (case l30 => k_is); (case c30 => k_is); (case k30 => k_is)
    (case a31 => k_is); (case l31 => k_is); (case c31 => k_is); (case k31 => k_is)
    (case a32 => k_is); (case l32 => k_is); (case c32 => k_is); (case k32 => k_is)
    (case a33 => k_is); (case l33 => k_is); (case c33 => k_is); (case k33 => k_is)
    (case a34 => k_is); (case l34 => k_is); (case c34 => k_is); (case k34 => k_is)
    (case a35 => k_is); (case l35 => k_is); (case c35 => k_is); (case k35 => k_is)
    (case a36 => k_is); (case l36 => k_is); (case c36 => k_is); (case k36 => k_is)
    (case a37 => k_is); (case l37 => k_is); (case c37 => k_is); (case k37 => k_is)
    (case a38 => k_is); (case l38 => k_is); (case c38 => k_is); (case k38 => k_is)
    (case a39 => k_is); (case l39 => k_is); (case c39 => k_is); (case k39 => k_is)
    (case a40 => k_is); (case l40 => k_is); (case c40 => k_is); (case k40 => k_is)
    (case a41 => k_is); (case l41 => k_is); (case c41 => k_is); (case k41 => k_is)
    (case a42 => k_is); (case l42 => k_is); (case c42 => k_is); (case k42 => k_is)
    (case a43 => k_is); (case l43 => k_is); (case c43 => k_is); (case k43 => k_is)
    (case a44 => k_is); (case l44 => k_is); (case c44 => k_is); (case k44 => k_is)
    (case a45 => k_is); (case l45 => k_is); (case c45 => k_is); (case k45 => k_is)
    (case a46 => k_is); (case l46 => k_is); (case c46 => k_is); (case k46 => k_is)
    (case a47 => k_is); (case l47 => k_is); (case c47 => k_is); (case k47 => k_is)
    (case a48 => k_is); (case l48 => k_is); (case c48 => k_is); (case k48 => k_is)
    (case a49 => k_is); (case l49 => k_is); (case c49 => k_is); (case k49 => k_is)
    (case a50 => k_is); (case l50 => k_is); (case c50 => k_is); (case k50 => k_is)
    (case a51 => k_is); (case l51 => k_is); (case c51 => k_is); (case k51 => k_is)
    (case a52 => k_is); (case l52 => k_is); (case c52 => k_is); (case k52 => k_is)
    (case a53 => k_is); (case l53 => k_is); (case c53 => k_is); (case k53 => k_is)
    (case a54 => k_is); (case l54 => k_is); (case c54 => k_is); (case k54 => k_is)
    (case a55 => k_is); (case l55 => k_is); (case c55 => k_is); (case k55 => k_is)
    (case a56 => k_is); (case l56 => k_is); (case c56 => k_is); (case k56 => k_is)
    (case nM => k_is); (case nU => k_is); (case nC => k_is); (case nV => k_is)
    (case rM0 => k_exc)
    (case rM1 => k_is); (case rM2 => k_is); (case rM3 => k_is); (case rM4 => k_is); (case rM5 => k_is); (case rM6 => k_is); (case rM7 => k_is); (case rM8 => k_is); (case rM9 => k_is); (case rM10 => k_is); (case rM11 => k_is)
    (case rU0 => k_exc)
    (case rU1 => k_is); (case rU2 => k_is); (case rU3 => k_is); (case rU4 => k_is); (case rU5 => k_is); (case rU6 => k_is); (case rU7 => k_is); (case rU8 => k_is); (case rU9 => k_is); (case rU10 => k_is); (case rU11 => k_is)
    (case rC0 => k_exc)
    (case rC1 => k_is); (case rC2 => k_is); (case rC3 => k_is); (case rC4 => k_is); (case rC5 => k_is); (case rC6 => k_is); (case rC7 => k_is); (case rC8 => k_is); (case rC9 => k_is); (case rC10 => k_is); (case rC11 => k_is)
    (case sMM => k_is); (case sMU => k_is); (case sMC => k_is); (case sUM => k_is); (case sUU => k_is); (case sUC => k_is); (case sCM => k_is); (case sCU => k_is); (case sCC => k_is)
    (case gg0 => k_is)
    (case gd0 => decide +kernel)
    (case gg1 => k_is)
    (case gd1 => decide +kernel)
    (case gg2 => k_is)
    (case gg3 => k_is)
    (case gl3 => k_is)
    (case gd3 => decide +kernel)
    (case gg4 => k_is)
    (case gg5 => k_is)
    (case gg6 => k_is)
    (case gg7 => k_is)
    (case gg8 => k_is)
    (case gg9 => k_is)
    (case gf9 => rfl)
    (case z0 => k_is)
    (case z1 => k_is)
    (case z2 => k_is)
    (case z3 => k_is)
    (case z4 => k_is)
    (case z5 => k_is)
    (case z6 => k_is)
    (case z7 => k_is)
    (case z8 => k_is)
    (case z9 => k_is)
    (case z10 => k_is)
    (case z11 => k_is)
    (case z12 => k_is)
    (case z13 => k_is)
    (case z14 => k_is)
    (case z15 => k_is)
    (case z16 => k_is)
    (case z17 => k_is)
    (case z18 => k_is)
    (case aL => k_is); (case lL => k_is); (case cL => k_is); (case kL => k_is)
    (case bL => exact fun s v => .of_eq rfl)
