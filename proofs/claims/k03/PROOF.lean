import PyProof.Rows.All
import Wide.All
import OpenK.AllK
import Wide.FinOn
import HandS.ForMost
import HandS.ForExc
import HandS.Style
import HandS.DictComp
import HandS.DeepEq
import HandS.Wide
import HandS.TupAny
import HandS.More
import HandS.Dict
import HandS.List
import HandS.IsInst
import HandS.Conv
import HandS.Iter
import HandS.Star
import HandS.Words
import HandS.Property
import HandS.OwnEq
import HandS.EndBits
import PySem.Challenge.RW_linepaces_k03_plain_lines
set_option Elab.async false
set_option linter.all false
set_option maxRecDepth 100000
/-! PvA: a small language of values (trees) and its meaning: data D, operations, expressions CE, statements CS, ev, ex. Plain Lean, no machine. -/
namespace PV
open PySem L2

/-- data: what a value is, all objects opened -/
inductive D where
  | non | bl (b : Bool) | int (i : Int) | str (x : Str)
  | lst (xs : List D) | tup (xs : List D)
  | dct (kvs : List (Key × D)) | dcT (kvs : List (List Key × D))
  | obj (C : Nat) (fs : List (Nat × D))
  deriving Inhabited

/-- a slot of a frame: nothing; a value that no one changes; an own object (its top may be changed here); an own object of the caller's -/
inductive Slot where
  | no | fz (d : D) | ow (d : D) | pw (d : D)
  deriving Inhabited
abbrev Env := List Slot
/-- a value: frozen, new (nobody else knows it), or the own object in slot i -/
inductive Val where
  | f (d : D) | n (d : D) | v (i : Nat)
/-- an exception: its class, its fields -/
structure XV where
  c : Nat
  fs : List (Nat × D)
/-- what an expression comes to -/
inductive Out (α : Type) where
  | ok (a : α) (ρ : Env) | exc (e : XV) (ρ : Env) | bad
/-- what a statement comes to -/
inductive SOut where
  | nx (ρ : Env) | rt (v : Val) (ρ : Env) | br (ρ : Env) | ct (ρ : Env) | exc (e : XV) (ρ : Env) | bad
/-- what a call comes to: the value, the arguments behind it -/
inductive FOut where
  | ok (v : Val) (outs : List Slot) | exc (e : XV) (outs : List Slot) | bad

/-- operations upon values that are read -/
inductive Op where
  | add | sub | mul | fdv | mod | pow | shl | neg
  | lt | le | gt | ge | eq | ne | isN | isnN | inn | nin
  | idx | slc | rev | len | int_ | max2 | min2 | max1 | min1 | sum | list_ | tuple_ | sorted_ | all_ | any_ | abs_ | dvm
  | dictP | rangeL | rangeL2 | str_ | join | index | count | isInt | isBool | isStr | isList | isTuple | isDict | isObj (C : Nat) | sset | dictZ
  deriving DecidableEq

/-- changes of an own object -/
inductive MOp where
  | append | extend | pop | popAt | clear
  deriving DecidableEq

/-- targets -/
inductive CT where
  | nm (i : Nat) | tp (is : List Nat) | tq (is : List (List Nat))
mutual
inductive CE where
  | cst (d : D) | var (i : Nat) | glb (g : Nat)
  | op (o : Op) (es : CEs)
  | and_ (a b : CE) | or_ (a b : CE) | not_ (a : CE) | ite (c a b : CE)
  | chn (o o' : Op) (a b c : CE)
  | lst (es : CEs) | lstS (es : CEs) (st : List Bool) | tup (es : CEs) | dctN (T : Bool) | dct (ks : List Key) (vs : CEs) | dctS (m : CE) (k v : CE)
  | fld (a : Nat) (e : CE)
  | call (f : Nat) (keep : List Bool) (es : CEs)
  | prp (m : Nat) (e : CE)
  | mth (m : Nat) (e : CE) (keep : List Bool) (es : CEs)
  | new (C : Nat) (keep : List Bool) (es : CEs)
  | eqo (neg : Bool) (a b : CE)
  | sli (e lo hi : CE)
  | eql (a b : CE)
  | mut (o : MOp) (i : Nat) (es : CEs)
  | lc (e : CE) (t : CT) (it : CI) (c : CE) (own : List Nat)
  | dc (k v : CE) (t : CT) (it : CI) (c : CE) (own : List Nat)
  | lc2 (e : CE) (t : CT) (it : CI) (c : CE) (t1 : CT) (it1 : CI) (c1 : CE) (own own1 : List Nat)
inductive CEs where
  | nil | cons (e : CE) (es : CEs)
inductive CI where
  | seq (e : CE) | rng (e : CE) | rng2 (a b : CE) | rngC (a b : CE) (c : Int) | zip (a b : CE) | enm (e : CE) | itm (e : CE) | val (e : CE)
end
mutual
inductive CS where
  | asg (t : CT) (own : Bool) (e : CE)
  | par (is : List Nat) (owns : List Bool) (es : CEs)
  | aug (i : Nat) (o : Op) (e : CE)
  | sset (i : Nat) (k e : CE)
  | fset (i : Nat) (a : Nat) (e : CE)
  | exp (e : CE) | ret (e : CE) | retN
  | ifs (c : CE) (a b : CSs)
  | fors (t : CT) (it : CI) (b : CSs)
  | whl (c : CE) (b : CSs)
  | pass | brk | cnt | wall
inductive CSs where
  | nil | cons (s : CS) (ss : CSs)
end

/-! ### operations -/
/-- the greatest size of a list, a text -/
abbrev LIM : Nat := 16000000
/-- == of flat data -/
def D.eqf : D → D → Bool
  | .non, .non => true
  | .bl a, .bl b => a == b
  | .bl a, .int b => (if a then 1 else 0) == b
  | .int a, .bl b => a == (if b then 1 else 0)
  | .int a, .int b => a == b
  | .str a, .str b => a == b
  | _, _ => false
/-- no list, tuple, dict, object -/
def D.flat : D → Bool
  | .non => true | .bl _ => true | .int _ => true | .str _ => true | _ => false
def intsOf : List D → Option (List Int)
  | [] => some []
  | .int i :: r => (intsOf r).map (i :: ·)
  | _ :: _ => none
def boolsOf : List D → Option (List Bool)
  | [] => some []
  | .bl b :: r => (boolsOf r).map (b :: ·)
  | _ :: _ => none
def strsOf : List D → Option (List Str)
  | [] => some []
  | .str x :: r => (strsOf r).map (x :: ·)
  | _ :: _ => none
def maxL : Int → List Int → Int
  | m, [] => m
  | m, x :: r => maxL (if x > m then x else m) r
def minL : Int → List Int → Int
  | m, [] => m
  | m, x :: r => minL (if x < m then x else m) r
def ixOf (n : Nat) (i : Int) : Option Nat := if 0 ≤ i then (if i < n then some i.toNat else none) else if -(n : Int) ≤ i then some (i + n).toNat else none
def at? {α : Type} (xs : List α) (i : Int) : Option α := (ixOf xs.length i).bind fun j => xs[j]?
/-- the place that an optional bound of a slice means -/
def slIx (n : Nat) (dft : Nat) : Option Int → Nat
  | none => dft
  | some i => if i < 0 then (i + n).toNat else min i.toNat n
def cut {α : Type} (xs : List α) (lo hi : Option Int) : List α := (xs.drop (slIx xs.length 0 lo)).take (slIx xs.length xs.length hi - slIx xs.length 0 lo)
def bound : D → Option (Option Int)
  | .non => some none
  | .int i => some (some i)
  | _ => none
def keyOf : D → Option Key
  | .int i => some (.inl i)
  | .str x => some (.inr x)
  | _ => none
def keyD : Key → D
  | .inl i => .int i
  | .inr x => .str x
def keysOf : List D → Option (List Key)
  | [] => some []
  | x :: r => match keyOf x, keysOf r with
    | some k, some ks => some (k :: ks)
    | _, _ => none
def look {κ : Type} [DecidableEq κ] (kvs : List (κ × D)) (k : κ) : Option D := (kvs.find? fun p => decide (p.1 = k)).map (·.2)
/-- all of them, where all are known -/
def allO : List (Option Bool) → Option Bool
  | [] => some true
  | some a :: r => (allO r).map (a && ·)
  | none :: _ => none
/-- has ys equal values at the keys of the other dict? -/
def hitsO (f : D → D → Option Bool) (ys : List (Key × D)) : List (Key × D) → Option Bool
  | [] => some true
  | (k, x) :: r => match look ys k with
    | none => some false
    | some y => match f x y with
      | some a => (hitsO f ys r).map (a && ·)
      | none => none
/-- == of flat data, where both are so -/
def flatE (a b : D) : Option Bool := if a.flat && b.flat then some (D.eqf a b) else none
/-- == of data of nesting at most n, without dicts and objects -/
def D.eq2 : Nat → D → D → Option Bool
  | 0, a, b => flatE a b
  | n + 1, a, b => match a, b with
    | .lst xs, .lst ys => if xs.length = ys.length then allO (List.zipWith (D.eq2 n) xs ys) else some false
    | .tup xs, .tup ys => if xs.length = ys.length then allO (List.zipWith (D.eq2 n) xs ys) else (allO (List.zipWith (D.eq2 n) xs ys)).map fun _ => false
    | a, b => flatE a b
/-- == of data of nesting at most n, without objects; dicts not in tuples -/
def D.eq3 : Nat → D → D → Option Bool
  | 0, a, b => flatE a b
  | n + 1, a, b => match a, b with
    | .lst xs, .lst ys => if xs.length = ys.length then allO (List.zipWith (D.eq3 n) xs ys) else some false
    | .dct xs, .dct ys => if xs.length = ys.length then hitsO (D.eq3 n) ys xs else some false
    | a, b => D.eq2 n a b
def putD {κ : Type} [DecidableEq κ] (k : κ) (x : D) : List (κ × D) → List (κ × D)
  | [] => [(k, x)]
  | (j, y) :: r => if j = k then (j, x) :: r else (j, y) :: putD k x r
def putAll {κ : Type} [DecidableEq κ] : List (κ × D) → List (κ × D) → List (κ × D)
  | acc, [] => acc
  | acc, (k, x) :: r => putAll (putD k x acc) r
def pairsOf : List D → Option (List (Key × D))
  | [] => some []
  | .tup [k, x] :: r => match keyOf k, pairsOf r with
    | some k, some ps => some ((k, x) :: ps)
    | _, _ => none
  | _ :: _ => none
def getF : List (Nat × D) → Nat → Option D
  | [], _ => none
  | (k, d) :: r, a => if k = a then some d else getF r a
def setF (a : Nat) (d : D) : List (Nat × D) → List (Nat × D)
  | [] => [(a, d)]
  | (k, x) :: r => if k = a then (k, d) :: r else (k, x) :: setF a d r
def leStr (a b : Str) : Bool := !decide (b.cps.toList < a.cps.toList)
def insStr (x : Str) : List Str → List Str
  | [] => [x]
  | y :: r => if leStr x y then x :: y :: r else y :: insStr x r
def sortStr : List Str → List Str
  | [] => []
  | x :: r => insStr x (sortStr r)
def insInt (x : Int) : List Int → List Int
  | [] => [x]
  | y :: r => if x ≤ y then x :: y :: r else y :: insInt x r
def sortInt : List Int → List Int
  | [] => []
  | x :: r => insInt x (sortInt r)
/-- the result: is it a new object? -/
abbrev R1 := Option Val
def fD (d : D) : R1 := some (.f d)
def nD (d : D) : R1 := some (.n d)
def small (i : Int) : Bool := decide (-(2 ^ 62) ≤ i ∧ i < 2 ^ 62)
def mulOk (i j : Int) : Bool := decide (i.natAbs.log2 + j.natAbs.log2 < 1000000)
def oAdd : D → D → R1
  | .int a, .int b => fD (.int (a + b))
  | .str a, .str b => if a.length + b.length ≤ LIM then fD (.str (a ++ b)) else none
  | .lst a, .lst b => if a.length + b.length ≤ LIM then nD (.lst (a ++ b)) else none
  | .tup a, .tup b => if a.length + b.length ≤ LIM then fD (.tup (a ++ b)) else none
  | _, _ => none
def oSub : D → D → R1
  | .int a, .int b => fD (.int (a - b))
  | _, _ => none
def oMul : D → D → R1
  | .int a, .int b => if mulOk a b then fD (.int (a * b)) else none
  | .lst a, .int b => if a.length * b.toNat ≤ LIM ∧ small b then nD (.lst (List.replicate b.toNat a).flatten) else none
  | _, _ => none
def oFdv : D → D → R1
  | .int a, .int b => if 0 < b ∧ b.natAbs.log2 < 9000 then fD (.int (a / b)) else none
  | _, _ => none
def oMod : D → D → R1
  | .int a, .int b => if 0 < b then fD (.int (a % b)) else none
  | _, _ => none
def oPow : D → D → R1
  | .int a, .int b => if 0 ≤ b ∧ ((a.natAbs.log2 + 1 : Nat) : Int) * b ≤ 1000000 then fD (.int (a ^ b.toNat)) else none
  | _, _ => none
def oShl : D → D → R1
  | .int a, .int b => if 0 ≤ b ∧ b ≤ 1000000 ∧ a.natAbs < 2 ^ 64 then fD (.int (a * 2 ^ b.toNat)) else none
  | _, _ => none
def oCmp (p : Int → Int → Bool) : D → D → R1
  | .int a, .int b => fD (.bl (p a b))
  | _, _ => none
def oEq (neg : Bool) (a b : D) : R1 := (D.eq3 40 a b).bind fun e => fD (.bl (neg ^^ e))
def isNone : D → Bool
  | .non => true | _ => false
def isSign : Str → Bool := fun z => z.length == 1
def oIn (neg : Bool) : D → D → R1
  | a, .lst xs => if D.flat a && xs.all D.flat then fD (.bl (neg ^^ xs.any fun x => D.eqf x a)) else none
  | a, .tup xs => if D.flat a && xs.all D.flat then fD (.bl (neg ^^ xs.any fun x => D.eqf x a)) else none
  | a, .dct kvs => (keyOf a).bind fun k => fD (.bl (neg ^^ (look kvs k).isSome))
  | .str y, .str z => if isSign y then fD (.bl (neg ^^ decide (y.cps.getD 0 0 ∈ z.cps.toList))) else none
  | _, _ => none
def oIdx : D → D → R1
  | .lst xs, .int i => (at? xs i).map .f
  | .tup xs, .int i => (at? xs i).map .f
  | .str z, .int i => if z.length ≤ LIM then (at? z.cps.toList i).map fun c => .f (.str ⟨#[c]⟩) else none
  | .dct kvs, k => ((keyOf k).bind (look kvs)).map .f
  | .dcT kvs, .tup ks => ((keysOf ks).bind (look kvs)).map .f
  | _, _ => none
def oSlc (x lo hi : D) : R1 := (bound lo).bind fun l => (bound hi).bind fun h => match x with
  | .lst xs => nD (.lst (cut xs l h))
  | .tup xs => fD (.tup (cut xs l h))
  | _ => none
def oRev : D → R1
  | .lst xs => nD (.lst xs.reverse)
  | _ => none
def oLen : D → R1
  | .lst xs => fD (.int xs.length)
  | .tup xs => fD (.int xs.length)
  | .dct xs => fD (.int xs.length)
  | .str z => if z.length ≤ LIM then fD (.int z.length) else none
  | _ => none
def oInt : D → R1
  | .int i => fD (.int i)
  | .bl b => fD (.int (if b then 1 else 0))
  | _ => none
def oTwo (g : Int → Int → Int) : D → D → R1
  | .int a, .int b => fD (.int (g a b))
  | _, _ => none
def oOne (g : Int → Int) : D → R1
  | .int a => fD (.int (g a))
  | _ => none
def oInts (g : List Int → Option Int) : D → R1
  | .lst xs => (intsOf xs).bind fun is => (g is).bind fun i => fD (.int i)
  | _ => none
def oBools (g : List Bool → Bool) : D → R1
  | .lst xs => (boolsOf xs).bind fun is => fD (.bl (g is))
  | _ => none
def oList : D → R1
  | .lst xs => nD (.lst xs)
  | .tup xs => nD (.lst xs)
  | .dct kvs => nD (.lst (kvs.map fun p => keyD p.1))
  | _ => none
def oTuple : D → R1
  | .lst xs => fD (.tup xs)
  | .tup xs => fD (.tup xs)
  | _ => none
def sortD (xs : List D) : Option (List D) := match strsOf xs with
  | some ks => if ks.length < 64 then some ((sortStr ks).map .str) else none
  | none => (intsOf xs).bind fun is => if is.length < 64 then some ((sortInt is).map .int) else none
def oSorted : D → R1
  | .dct kvs => (sortD (kvs.map fun p => keyD p.1)).bind fun ys => nD (.lst ys)
  | .lst xs => (sortD xs).bind fun ys => nD (.lst ys)
  | _ => none
def oDvm : D → D → R1
  | .int a, .int b => if 0 < b ∧ b < 1073741824 then fD (.tup [.int (a / b), .int (a % b)]) else none
  | _, _ => none
def oDict : D → R1
  | .lst xs => (pairsOf xs).bind fun ps => nD (.dct (putAll [] ps))
  | .dct kvs => nD (.dct kvs)
  | _ => none
def oIs (p : D → Bool) (d : D) : R1 := fD (.bl (p d))
/-- isinstance with a built-in type: not asked of an object -/
def oTy (p : D → Bool) : D → R1
  | .obj _ _ => none
  | .dcT _ => none
  | d => fD (.bl (p d))
/-- isinstance with an own class: of objects, its own alone -/
def oObj (C : Nat) : D → R1
  | .obj B _ => if B = C then fD (.bl true) else none
  | .dcT _ => none
  | _ => fD (.bl false)
def dInt : D → Bool
  | .int _ => true | .bl _ => true | _ => false
def dBool : D → Bool
  | .bl _ => true | _ => false
def dStr : D → Bool
  | .str _ => true | _ => false
def dList : D → Bool
  | .lst _ => true | _ => false
def dTuple : D → Bool
  | .tup _ => true | _ => false
def dDict : D → Bool
  | .dct _ => true | .dcT _ => true | _ => false
def opD : Op → List D → R1
  | .add, [a, b] => oAdd a b
  | .sub, [a, b] => oSub a b
  | .mul, [a, b] => oMul a b
  | .fdv, [a, b] => oFdv a b
  | .mod, [a, b] => oMod a b
  | .pow, [a, b] => oPow a b
  | .shl, [a, b] => oShl a b
  | .neg, [a] => oOne (fun i => -i) a
  | .lt, [a, b] => oCmp (fun i j => decide (i < j)) a b
  | .le, [a, b] => oCmp (fun i j => decide (i ≤ j)) a b
  | .gt, [a, b] => oCmp (fun i j => decide (j < i)) a b
  | .ge, [a, b] => oCmp (fun i j => decide (j ≤ i)) a b
  | .eq, [a, b] => oEq false a b
  | .ne, [a, b] => oEq true a b
  | .isN, [a] => oIs isNone a
  | .isnN, [a] => oIs (fun d => !isNone d) a
  | .inn, [a, b] => oIn false a b
  | .nin, [a, b] => oIn true a b
  | .idx, [a, b] => oIdx a b
  | .slc, [a, b, c] => oSlc a b c
  | .rev, [a] => oRev a
  | .len, [a] => oLen a
  | .int_, [a] => oInt a
  | .max2, [a, b] => oTwo (fun i j => if j > i then j else i) a b
  | .min2, [a, b] => oTwo (fun i j => if j < i then j else i) a b
  | .max1, [a] => oInts (fun is => match is with | [] => none | i :: r => some (maxL i r)) a
  | .min1, [a] => oInts (fun is => match is with | [] => none | i :: r => some (minL i r)) a
  | .sum, [a] => oInts (fun is => some is.sum) a
  | .list_, [a] => oList a
  | .tuple_, [a] => oTuple a
  | .sorted_, [a] => oSorted a
  | .all_, [a] => oBools (fun bs => bs.all id) a
  | .any_, [a] => oBools (fun bs => bs.any id) a
  | .abs_, [a] => oOne (fun i => if i < 0 then -i else i) a
  | .dvm, [a, b] => oDvm a b
  | .dictP, [a] => oDict a
  | .isInt, [a] => oTy dInt a
  | .isBool, [a] => oTy dBool a
  | .isStr, [a] => oTy dStr a
  | .isList, [a] => oTy dList a
  | .isTuple, [a] => oTy dTuple a
  | .isDict, [a] => oTy dDict a
  | .isObj C, [a] => oObj C a
  | _, _ => none

/-- x op= y: ints -/
def opAug (o : Op) : D → D → R1
  | .int a, .int b => opD o [.int a, .int b]
  | _, _ => none
/-! ### reading slots and values -/
def slotAt (ρ : Env) (i : Nat) : Slot := ρ.getD i .no
/-- the data of a value -/
def rd (ρ : Env) : Val → Option D
  | .f d => some d
  | .n d => some d
  | .v i => match slotAt ρ i with
    | .ow d => some d | .pw d => some d | .fz d => some d | .no => none
def rds (ρ : Env) : List Val → Option (List D)
  | [] => some []
  | x :: r => match rd ρ x, rds ρ r with
    | some d, some ds => some (d :: ds)
    | _, _ => none
/-- a value is handed on: it is frozen -/
def fr (ρ : Env) : Val → Option (D × Env)
  | .f d => some (d, ρ)
  | .n d => some (d, ρ)
  | .v i => match slotAt ρ i with
    | .ow d => some (d, ρ.set i (.fz d)) | .fz d => some (d, ρ) | _ => none
def frs (ρ : Env) : List Val → Option (List D × Env)
  | [] => some ([], ρ)
  | x :: r => match fr ρ x with
    | some (d, ρ1) => match frs ρ1 r with
      | some (ds, ρ2) => some (d :: ds, ρ2)
      | none => none
    | none => none
/-- arguments of a call: kept own objects are lent -/
def lend (ρ : Env) (used : List Nat) : List Bool → List Val → Option (List Slot × Env)
  | _, [] => some ([], ρ)
  | k, x :: r =>
    match k.headD false, x with
    | true, .v i => match slotAt ρ i with
      | .ow d => if i ∈ used then none else (lend ρ (i :: used) k.tail r).map fun p => (.ow d :: p.1, p.2)
      | .pw d => if i ∈ used then none else (lend ρ (i :: used) k.tail r).map fun p => (.ow d :: p.1, p.2)
      | .fz d => (lend ρ used k.tail r).map fun p => (.fz d :: p.1, p.2)
      | .no => none
    | _, .v i => if i ∈ used then none else match fr ρ (.v i) with
      | some (d, ρ1) => (lend ρ1 used k.tail r).map fun p => (.fz d :: p.1, p.2)
      | none => none
    | _, .f d => (lend ρ used k.tail r).map fun p => (.fz d :: p.1, p.2)
    | _, .n d => (lend ρ used k.tail r).map fun p => (.fz d :: p.1, p.2)
/-- behind a call: what was lent comes back as it is now -/
def backS (ρ : Env) (i : Nat) (o : Slot) : Env := match o, slotAt ρ i with
  | .ow d, .ow _ => ρ.set i (.ow d)
  | .ow d, .pw _ => ρ.set i (.pw d)
  | _, _ => ρ
def back (ρ : Env) : List Val → List Slot → List Slot → Env
  | .v i :: vs, .ow _ :: as, o :: os => back (backS ρ i o) vs as os
  | _ :: vs, _ :: as, _ :: os => back ρ vs as os
  | _, _, _ => ρ

/-- tables: the functions, the module's constants, the methods by class and name -/
structure Tb where
  fn : Nat → List Slot → FOut
  gl : Nat → D
  mt : Nat → Nat → Option Nat
  /-- has the class the attribute? -/
  fl : Nat → Nat → Bool
/-- the code of __init__ and __eq__ among the methods' names -/
abbrev mInit : Nat := 0
abbrev mEq : Nat := 1

/-- a name is stored (an object lent by the caller stays at its name) -/
def setS (ρ : Env) (i : Nat) (s : Slot) : Option Env := match slotAt ρ i with
  | .pw _ => none
  | _ => if i < ρ.length then some (ρ.set i s) else none
def setMany (ρ : Env) : List Nat → List D → Option Env
  | [], [] => some ρ
  | i :: is, d :: ds => (setS ρ i (.fz d)).bind fun ρ1 => setMany ρ1 is ds
  | _, _ => none
def itemsOf : D → Option (List D)
  | .lst xs => some xs | .tup xs => some xs | _ => none
/-- an item of a display: itself, or its items -/
def spread : Bool → D → Option (List D)
  | false, d => some [d]
  | true, d => itemsOf d
def setQ (ρ : Env) : List (List Nat) → List D → Option Env
  | [], [] => some ρ
  | [i] :: is, d :: ds => (setS ρ i (.fz d)).bind fun ρ1 => setQ ρ1 is ds
  | js :: is, .tup xs :: ds => (setMany ρ js xs).bind fun ρ1 => setQ ρ1 is ds
  | _, _ => none
/-- a target takes data -/
def tgt (ρ : Env) (t : CT) (d : D) : Option Env := match t with
  | .nm i => setS ρ i (.fz d)
  | .tp is => match d with
    | .tup xs => setMany ρ is xs
    | _ => none
  | .tq is => match d with
    | .tup xs => setQ ρ is xs
    | _ => none
def wipeE (ρ : Env) : List Nat → Env
  | [] => ρ
  | i :: is => (wipeE ρ is).set i .no
/-- behind a comprehension its own names are as they were -/
def unwipe (ρ0 ρ : Env) : List Nat → Env
  | [] => ρ
  | i :: is => (unwipe ρ0 ρ is).set i (slotAt ρ0 i)
def Out.bind {α β : Type} (x : Out α) (f : α → Env → Out β) : Out β := match x with
  | .ok a ρ => f a ρ
  | .exc e ρ => .exc e ρ
  | .bad => .bad
def lift {α : Type} (o : Option α) (ρ : Env) : Out α := match o with
  | some a => .ok a ρ
  | none => .bad
/-- a function's answer in the caller's frame -/
def ans (ρ : Env) (vs : List Val) (as : List Slot) : FOut → Out Val
  | .ok (.f d) os => .ok (.f d) (back ρ vs as os)
  | .ok (.n d) os => .ok (.n d) (back ρ vs as os)
  | .ok (.v _) _ => .bad
  | .exc e os => .exc e (back ρ vs as os)
  | .bad => .bad
/-- a loop over items -/
def each {α : Type} (f : α → D → Env → Out α) : α → List D → Env → Out α
  | a, [], ρ => .ok a ρ
  | a, x :: r, ρ => match f a x ρ with
    | .ok b ρ1 => each f b r ρ1
    | .exc e ρ1 => .exc e ρ1
    | .bad => .bad
def eachS (f : D → Env → SOut) : List D → Env → SOut
  | [], ρ => .nx ρ
  | x :: r, ρ => match f x ρ with
    | .nx ρ1 => eachS f r ρ1
    | .ct ρ1 => eachS f r ρ1
    | .br ρ1 => .nx ρ1
    | .rt v ρ1 => .rt v ρ1
    | .exc e ρ1 => .exc e ρ1
    | .bad => .bad
/-- an own object in slot i is changed -/
def putOwn (ρ : Env) (i : Nat) (d : D) : Option Env := match slotAt ρ i with
  | .ow _ => some (ρ.set i (.ow d))
  | .pw _ => some (ρ.set i (.pw d))
  | _ => none
def ownAt (ρ : Env) (i : Nat) : Option D := match slotAt ρ i with
  | .ow d => some d
  | .pw d => some d
  | _ => none
/-- a change of an own list or dict: the value, the object behind it -/
def mutD : MOp → D → List D → Option (D × D)
  | .append, .lst xs, [x] => if xs.length < LIM then some (.non, .lst (xs ++ [x])) else none
  | .extend, .lst xs, [.lst ys] => if xs.length + ys.length ≤ LIM then some (.non, .lst (xs ++ ys)) else none
  | .pop, .lst xs, [] => (xs[xs.length - 1]?).map fun x => (x, .lst xs.dropLast)
  | .popAt, .lst xs, [.int i] => if small i then (ixOf xs.length i).bind fun k => (xs[k]?).map fun x => (x, .lst (xs.eraseIdx k)) else none
  | .clear, .lst _, [] => some (.non, .lst [])
  | _, _, _ => none
def csize : CEs → Nat
  | .nil => 0
  | .cons _ r => csize r + 1
def catSt : List Bool → List D → Option (List D)
  | [], [] => some []
  | true :: st, .lst xs :: ds => (catSt st ds).map (xs ++ ·)
  | false :: st, d :: ds => (catSt st ds).map (d :: ·)
  | _, _ => none
def zipK : List D → List D → Option (List (Key × D))
  | [], [] => some []
  | k :: ks, v :: vs => match keyOf k, zipK ks vs with
    | some k, some r => some ((k, v) :: r)
    | _, _ => none
  | _, _ => none
def mapRange (a : Int) (n : Nat) : List D := (List.range n).map fun (i : Nat) => .int (a + (i : Int))

/-! ### evaluation -/
def gather {α : Type} (f : D → Env → Out (List α)) : List D → Env → Out (List α)
  | [], ρ => .ok [] ρ
  | x :: r, ρ => (f x ρ).bind fun o ρ1 => (gather f r ρ1).bind fun ds ρ2 => .ok (o ++ ds) ρ2
/-- o[k] = x -/
def setD : D → D → D → Option D
  | .lst xs, .int j, x => (ixOf xs.length j).map fun m => .lst (xs.set m x)
  | .dct kvs, k, x => (keyOf k).bind fun k => if kvs.length < LIM then some (.dct (putD k x kvs)) else none
  | _, _, _ => none
/-- the values of a, b = x, y ahead of the stores -/
def prep (ρ : Env) : List Bool → List Val → Option (List Val × Env)
  | _, [] => some ([], ρ)
  | k, .n d :: r => if k.headD false then (prep ρ k.tail r).map fun p => (.n d :: p.1, p.2) else (prep ρ k.tail r).map fun p => (.f d :: p.1, p.2)
  | k, x :: r => (fr ρ x).bind fun q => (prep q.2 k.tail r).map fun p => (.f q.1 :: p.1, p.2)
def put1 (ρ : Env) (i : Nat) : Val → Option Env
  | .f d => setS ρ i (.fz d)
  | .n d => setS ρ i (.ow d)
  | .v _ => none
/-- no exception leaves a comprehension -/
def calm {α : Type} : Out α → Out α
  | .exc _ _ => .bad
  | x => x
def okD (v : Val) (ρ : Env) : Out D := match fr ρ v with
  | some (d, ρ1) => .ok d ρ1
  | none => .bad
/-- a value as a truth value -/
def truth {α : Type} (v : Val) (ρ : Env) (f : Bool → Env → Out α) : Out α := match v with
  | .f (.bl b) => f b ρ
  | _ => .bad
/-- a bound of a slice that is not written -/
def absent : CE → Bool
  | .cst .non => true
  | _ => false
def partOf (v : Val) (ρ : Env) : Out (Option Int) := match v with
  | .f (.int i) => .ok (some i) ρ
  | _ => .bad
/-- x[lo:hi] -/
def sliD (lo hi : Option Int) : D → R1
  | .lst xs => nD (.lst (cut xs lo hi))
  | .tup xs => fD (.tup (cut xs lo hi))
  | _ => none
def callF (T : Tb) (f : Nat) (keep : List Bool) (vs : List Val) (ρ : Env) : Out Val := match lend ρ [] keep vs with
  | some (as, ρ1) => ans ρ1 vs as (T.fn f as)
  | none => .bad
/-- two lists of objects of one class each, equal pair by pair by the own == -/
def allEq (T : Tb) : List D → List D → Bool
  | [], [] => true
  | .obj C fs :: xs, .obj B gs :: ys => decide (B = C) && (match T.mt C mEq with
    | some f => (match T.fn f [.fz (.obj C fs), .fz (.obj B gs)] with
      | .ok (.f (.bl true)) _ => true
      | _ => false)
    | none => false) && allEq T xs ys
  | _, _ => false
mutual
def ev (T : Tb) : CE → Env → Out Val
  | .cst d, ρ => .ok (.f d) ρ
  | .var i, ρ => match slotAt ρ i with
    | .fz d => .ok (.f d) ρ
    | .no => .bad
    | _ => .ok (.v i) ρ
  | .glb g, ρ => .ok (.f (T.gl g)) ρ
  | .op o es, ρ => (evs T es ρ).bind fun vs ρ1 => lift ((rds ρ1 vs).bind (opD o)) ρ1
  | .and_ a b, ρ => (ev T a ρ).bind fun v ρ1 => truth v ρ1 fun k ρ1 => if k then ev T b ρ1 else .ok (.f (.bl false)) ρ1
  | .or_ a b, ρ => (ev T a ρ).bind fun v ρ1 => truth v ρ1 fun k ρ1 => if k then .ok (.f (.bl true)) ρ1 else ev T b ρ1
  | .not_ a, ρ => (ev T a ρ).bind fun v ρ1 => truth v ρ1 fun k ρ1 => .ok (.f (.bl (!k))) ρ1
  | .ite c a b, ρ => (ev T c ρ).bind fun v ρ1 => truth v ρ1 fun k ρ1 => if k then ev T a ρ1 else ev T b ρ1
  | .chn o o' a b c, ρ => (ev T a ρ).bind fun x ρ1 => (ev T b ρ1).bind fun y ρ2 => (lift ((rds ρ2 [x, y]).bind (opD o)) ρ2).bind fun v ρ2 => truth v ρ2 fun k ρ2 =>
      if k then (ev T c ρ2).bind fun z ρ3 => lift ((rds ρ3 [y, z]).bind (opD o')) ρ3 else .ok (.f (.bl false)) ρ2
  | .lst es, ρ => (evs T es ρ).bind fun vs ρ1 => match frs ρ1 vs with
    | some (ds, ρ2) => if ds.length ≤ LIM then .ok (.n (.lst ds)) ρ2 else .bad
    | none => .bad
  | .lstS es st, ρ => (evsS T es st ρ).bind fun ds ρ1 => if ds.length ≤ LIM then .ok (.n (.lst ds)) ρ1 else .bad
  | .tup es, ρ => (evs T es ρ).bind fun vs ρ1 => match frs ρ1 vs with
    | some (ds, ρ2) => if ds.length ≤ LIM then .ok (.f (.tup ds)) ρ2 else .bad
    | none => .bad
  | .dctN k, ρ => .ok (.n (if k then .dcT [] else .dct [])) ρ
  | .dct ks es, ρ => (calm (evsS T es [] ρ)).bind fun ds ρ1 => if ds.length ≤ 15 ∧ ks.length = ds.length then .ok (.n (.dct (putAll [] (ks.zip ds)))) ρ1 else .bad
  | .dctS m k e, ρ => (ev T m ρ).bind fun m ρ1 => (ev T k ρ1).bind fun k ρ2 => (ev T e ρ2).bind fun e ρ3 => match rd ρ3 m, rd ρ3 k, fr ρ3 e with
    | some (.dct kvs), some k, some (d, ρ4) => match keyOf k with
      | some k => .ok (.n (.dct (putD k d kvs))) ρ4
      | none => .bad
    | _, _, _ => .bad
  | .fld a e, ρ => (ev T e ρ).bind fun v ρ1 => match rd ρ1 v with
    | some (.obj C fs) => if T.fl C a then (match getF fs a with
      | some d => .ok (.f d) ρ1
      | none => .bad) else .bad
    | _ => .bad
  | .call f keep es, ρ => (evs T es ρ).bind fun vs ρ1 => callF T f keep vs ρ1
  | .prp m e, ρ => (ev T e ρ).bind fun v ρ1 => match rd ρ1 v with
    | some (.obj C _) => match T.mt C m with
      | some f => calm (callF T f [true] [v] ρ1)
      | none => .bad
    | _ => .bad
  | .mth m e keep es, ρ => (ev T e ρ).bind fun v ρ1 => match rd ρ1 v with
    | some (.obj C _) => match T.mt C m with
      | some f => (evs T es ρ1).bind fun vs ρ2 => callF T f (true :: keep) (v :: vs) ρ2
      | none => .bad
    | _ => .bad
  | .new C keep es, ρ => (evs T es ρ).bind fun vs ρ1 => match T.mt C mInit, lend ρ1 [] keep vs with
    | some f, some (as, ρ2) => match T.fn f (.ow (.obj C []) :: as) with
      | .ok (.f .non) (.ow d :: os) => .ok (.n d) (back ρ2 vs as os)
      | .exc e (_ :: os) => .exc e (back ρ2 vs as os)
      | _ => .bad
    | _, _ => .bad
  | .eqo neg a b, ρ => (ev T a ρ).bind fun x ρ1 => (ev T b ρ1).bind fun y ρ2 => match rd ρ2 x, rd ρ2 y with
    | some (.obj C _), some (.obj B _) => if B = C ∧ neg = false then (match T.mt C mEq with
      | some f => (callF T f [] [x, y] ρ2).bind fun v ρ3 => truth v ρ3 fun k ρ3 => .ok (.f (.bl k)) ρ3
      | none => .bad) else .bad
    | _, _ => .bad
  | .eql a b, ρ => (ev T a ρ).bind fun x ρ1 => (ev T b ρ1).bind fun y ρ2 => match x, y with
    | .n (.lst xs), .n (.lst ys) => if allEq T xs ys then .ok (.f (.bl true)) ρ2 else .bad
    | _, _ => .bad
  | .sli e lo hi, ρ => (ev T e ρ).bind fun v ρ1 => (if absent lo then .ok none ρ1 else (ev T lo ρ1).bind partOf).bind fun l ρ2 => (if absent hi then .ok none ρ2 else (ev T hi ρ2).bind partOf).bind fun h ρ3 => lift ((rd ρ3 v).bind (sliD l h)) ρ3
  | .mut o i es, ρ => match ownAt ρ i with
    | some (.lst _) => (evs T es ρ).bind fun vs ρ1 => match (if o = .append then frs ρ1 vs else (rds ρ1 vs).map fun ds => (ds, ρ1)) with
      | some (ds, ρ2) => match (ownAt ρ2 i).bind fun d => mutD o d ds with
        | some (r, d) => match putOwn ρ2 i d with
          | some ρ3 => .ok (.f r) ρ3
          | none => .bad
        | none => .bad
      | none => .bad
    | _ => .bad
  | .lc e t it c own, ρ => (evI T it ρ).bind fun items ρ1 =>
      (calm (gather (fun x ρ => match tgt ρ t x with
        | none => .bad
        | some ρ => (ev T c ρ).bind fun b ρ => truth b ρ fun k ρ => if k then (ev T e ρ).bind fun v ρ => (okD v ρ).bind fun d ρ => .ok [d] (wipeE ρ own) else .ok [] (wipeE ρ own)) items (wipeE ρ1 own))).bind fun ds ρ2 =>
      if ds.length ≤ LIM then .ok (.n (.lst ds)) (unwipe ρ1 ρ2 own) else .bad
  | .dc k e t it c own, ρ => (evI T it ρ).bind fun items ρ1 =>
      (calm (gather (fun x ρ => match tgt ρ t x with
        | none => .bad
        | some ρ => (ev T c ρ).bind fun b ρ => truth b ρ fun q ρ => if q then (ev T k ρ).bind fun kv ρ => (ev T e ρ).bind fun v ρ => match (rd ρ kv).bind keyOf with
          | some key => (okD v ρ).bind fun d ρ => .ok [(key, d)] (wipeE ρ own)
          | none => .bad
          else .ok [] (wipeE ρ own)) items (wipeE ρ1 own))).bind fun ps ρ2 =>
      if ps.length ≤ LIM then .ok (.n (.dct (putAll [] ps))) (unwipe ρ1 ρ2 own) else .bad
  | .lc2 e t it c t1 it1 c1 own own1, ρ => (evI T it ρ).bind fun items ρ1 =>
      (calm (gather (fun x ρ => match tgt ρ t x with
        | none => .bad
        | some ρ => (ev T c ρ).bind fun b ρ => truth b ρ fun k ρ => if k then (evI T it1 ρ).bind fun items1 ρ => (gather (fun x ρ => match tgt ρ t1 x with
            | none => .bad
            | some ρ => (ev T c1 ρ).bind fun b ρ => truth b ρ fun k ρ => if k then (ev T e ρ).bind fun v ρ => (okD v ρ).bind fun d ρ => .ok [d] (wipeE ρ own1) else .ok [] (wipeE ρ own1)) items1 (wipeE ρ own1)).bind fun ds ρ => .ok ds (wipeE ρ own)
          else .ok [] (wipeE ρ own)) items (wipeE ρ1 own))).bind fun ds ρ2 =>
      if ds.length ≤ LIM then .ok (.n (.lst ds)) (unwipe ρ1 ρ2 own) else .bad
def evs (T : Tb) : CEs → Env → Out (List Val)
  | .nil, ρ => .ok [] ρ
  | .cons e es, ρ => (ev T e ρ).bind fun v ρ1 => (evs T es ρ1).bind fun vs ρ2 => .ok (v :: vs) ρ2
/-- items of a display, each frozen at once; a starred one gives its items -/
def evsS (T : Tb) : CEs → List Bool → Env → Out (List D)
  | .nil, _, ρ => .ok [] ρ
  | .cons e es, st, ρ => (ev T e ρ).bind fun v ρ1 => (okD v ρ1).bind fun d ρ2 => match spread (st.headD false) d with
    | some xs => (evsS T es st.tail ρ2).bind fun ds ρ3 => .ok (xs ++ ds) ρ3
    | none => .bad
def evI (T : Tb) : CI → Env → Out (List D)
  | .seq e, ρ => (ev T e ρ).bind fun v ρ1 => (okD v ρ1).bind fun d ρ2 => match d with
    | .lst xs => .ok xs ρ2
    | .tup xs => .ok xs ρ2
    | .dct kvs => .ok (kvs.map fun p => keyD p.1) ρ2
    | .str z => .ok (z.cps.toList.map fun c => .str ⟨#[c]⟩) ρ2
    | _ => .bad
  | .rng e, ρ => (ev T e ρ).bind fun v ρ1 => match v with
    | .f (.int n) => if small n then .ok (mapRange 0 n.toNat) ρ1 else .bad
    | _ => .bad
  | .rng2 a b, ρ => (ev T a ρ).bind fun v ρ1 => (ev T b ρ1).bind fun w ρ2 => match v, w with
    | .f (.int i), .f (.int j) => if small i && small j then .ok (mapRange i (j - i).toNat) ρ2 else .bad
    | _, _ => .bad
  | .rngC a b c, ρ => (ev T a ρ).bind fun v ρ1 => (ev T b ρ1).bind fun w ρ2 => match v, w with
    | .f (.int i), .f (.int j) => if small i && small j && decide (c = -1) then .ok ((List.range (i - j).toNat).map fun (k : Nat) => .int (i - (k : Int))) ρ2 else .bad
    | _, _ => .bad
  | .zip a b, ρ => (ev T a ρ).bind fun v ρ1 => (ev T b ρ1).bind fun w ρ2 => (okD v ρ2).bind fun x ρ3 => (okD w ρ3).bind fun y ρ4 => match x, y with
    | .lst xs, .lst ys => .ok ((xs.zip ys).map fun p => .tup [p.1, p.2]) ρ4
    | _, _ => .bad
  | .enm e, ρ => (ev T e ρ).bind fun v ρ1 => (okD v ρ1).bind fun d ρ2 => match d with
    | .lst xs => .ok ((xs.zipIdx).map fun p => .tup [.int (p.2 : Nat), p.1]) ρ2
    | _ => .bad
  | .itm e, ρ => (ev T e ρ).bind fun v ρ1 => (okD v ρ1).bind fun d ρ2 => match d with
    | .dct kvs => .ok (kvs.map fun p => .tup [keyD p.1, p.2]) ρ2
    | _ => .bad
  | .val e, ρ => (ev T e ρ).bind fun v ρ1 => (okD v ρ1).bind fun d ρ2 => match d with
    | .dct kvs => .ok (kvs.map (·.2)) ρ2
    | _ => .bad
end
/-- a statement behind an expression -/
def Out.toS {α : Type} (x : Out α) (f : α → Env → SOut) : SOut := match x with
  | .ok a ρ => f a ρ
  | .exc e ρ => .exc e ρ
  | .bad => .bad
def nxt : Option Env → SOut
  | some ρ => .nx ρ
  | none => .bad
def store (ρ : Env) (i : Nat) (own : Bool) (v : Val) : Option Env := match own, v with
  | true, .n d => setS ρ i (.ow d)
  | _, v => (fr ρ v).bind fun p => setS p.2 i (.fz p.1)
def storeAll (ρ : Env) : List Nat → List Val → Option Env
  | [], [] => some ρ
  | i :: is, v :: vs => (put1 ρ i v).bind fun ρ1 => storeAll ρ1 is vs
  | _, _ => none
def SOut.seq (x : SOut) (f : Env → SOut) : SOut := match x with
  | .nx ρ => f ρ
  | y => y
/-- the most turns of a while -/
abbrev TURNS : Nat := 1000000
def whileN (c : Env → Out Val) (b : Env → SOut) : Nat → Env → SOut
  | 0, _ => .bad
  | n + 1, ρ => (c ρ).toS fun v ρ1 => match v with
    | .f (.bl true) => match b ρ1 with
      | .nx ρ2 => whileN c b n ρ2
      | .ct ρ2 => whileN c b n ρ2
      | .br ρ2 => .nx ρ2
      | .rt v ρ2 => .rt v ρ2
      | .exc e ρ2 => .exc e ρ2
      | .bad => .bad
    | .f (.bl false) => .nx ρ1
    | _ => .bad
mutual
def ex (T : Tb) : CS → Env → SOut
  | .asg (.nm i) own e, ρ => (ev T e ρ).toS fun v ρ1 => nxt (store ρ1 i own v)
  | .asg t _ e, ρ => (ev T e ρ).toS fun v ρ1 => (okD v ρ1).toS fun d ρ2 => nxt (tgt ρ2 t d)
  | .par is owns es, ρ => (evs T es ρ).toS fun vs ρ1 => nxt ((prep ρ1 owns vs).bind fun p => storeAll p.2 is p.1)
  | .aug i o e, ρ => match slotAt ρ i with
    | .fz x => (ev T e ρ).toS fun v ρ1 => match (rd ρ1 v).bind fun y => opAug o x y with
      | some (.f d) => nxt (setS ρ1 i (.fz d))
      | _ => .bad
    | _ => .bad
  | .sset i k e, ρ => if (ownAt ρ i).isSome then (ev T e ρ).toS fun v ρ1 => (ev T k ρ1).toS fun kv ρ2 => match rd ρ2 kv, fr ρ2 v with
    | some k, some (d, ρ3) => nxt (((ownAt ρ3 i).bind fun o => setD o k d).bind fun o => putOwn ρ3 i o)
    | _, _ => .bad
    else .bad
  | .fset i a e, ρ => if (ownAt ρ i).isSome then (ev T e ρ).toS fun v ρ1 => (okD v ρ1).toS fun d ρ2 => match ownAt ρ2 i with
    | some (.obj C fs) => if fs.length < 1000 && T.fl C a then nxt (putOwn ρ2 i (.obj C (setF a d fs))) else .bad
    | _ => .bad
    else .bad
  | .exp e, ρ => (ev T e ρ).toS fun _ ρ1 => .nx ρ1
  | .ret e, ρ => (ev T e ρ).toS fun v ρ1 => match v with
    | .v i => match slotAt ρ1 i with
      | .ow d => .rt (.n d) (ρ1.set i .no)
      | .fz d => .rt (.f d) ρ1
      | _ => .bad
    | v => .rt v ρ1
  | .retN, ρ => .rt (.f .non) ρ
  | .ifs c a b, ρ => (ev T c ρ).toS fun v ρ1 => match v with
    | .f (.bl true) => exs T a ρ1
    | .f (.bl false) => exs T b ρ1
    | _ => .bad
  | .fors t it b, ρ => (evI T it ρ).toS fun items ρ1 => eachS (fun x ρ => match tgt ρ t x with
    | some ρ => exs T b ρ
    | none => .bad) items ρ1
  | .whl c b, ρ => whileN (fun ρ => ev T c ρ) (fun ρ => exs T b ρ) TURNS ρ
  | .pass, ρ => .nx ρ
  | .brk, ρ => .br ρ
  | .cnt, ρ => .ct ρ
  | .wall, _ => .bad
def exs (T : Tb) : CSs → Env → SOut
  | .nil, ρ => .nx ρ
  | .cons s ss, ρ => (ex T s ρ).seq fun ρ1 => exs T ss ρ1
end
def inS : Slot → Slot
  | .ow d => .pw d
  | s => s
def outS : Slot → Slot
  | .pw d => .ow d
  | s => s
/-- a def run on its arguments -/
def run (T : Tb) (nl : Nat) (b : CSs) (as : List Slot) : FOut := match exs T b (as.map inS ++ List.replicate (nl - as.length) .no) with
  | .rt (.f d) ρ => .ok (.f d) ((ρ.take as.length).map outS)
  | .rt (.n d) ρ => .ok (.n d) ((ρ.take as.length).map outS)
  | .nx ρ => .ok (.f .non) ((ρ.take as.length).map outS)
  | .exc e ρ => .exc e ((ρ.take as.length).map outS)
  | _ => .bad
/-- a def: its code, or what it does -/
inductive FDef where
  | body (np nl : Nat) (b : CSs) | prim (φ : List Slot → FOut)
/-- a program -/
structure Pg where
  fd : Nat → Option FDef
  gl : Nat → D
  mt : Nat → Nat → Option Nat
  fl : Nat → Nat → Bool
def runF (P : Pg) : Nat → Nat → List Slot → FOut
  | 0, _, _ => .bad
  | n + 1, f, as => match P.fd f with
    | some (.body np nl b) => if as.length = np then run ⟨runF P n, P.gl, P.mt, P.fl⟩ nl b as else .bad
    | some (.prim φ) => φ as
    | none => .bad
end PV

set_option Elab.async false
set_option linter.all false
set_option maxRecDepth 100000
set_option maxHeartbeats 1000000
/-! PvB: what data stand for in the machine's abstract heap: Rep, Rel, the step of a part of the program. -/
namespace PV
open PySem L2

/-- the written part, the classes' places, the attributes' names -/
structure Nm where
  K : PySem.W.Frag
  cl : Nat → Addr
  an : Nat → Str

mutual
/-- v stands for d, all its objects frozen in F -/
def Rep (M : Nm) (F : Hp) : D → V → Prop
  | .non, v => v = .non
  | .bl b, v => v = .bl b
  | .int i, v => v = .int i
  | .str x, v => v = .str x
  | .lst ds, v => ∃ a vs, v = .ref a ∧ Rd F a (.lst vs) ∧ Reps M F ds vs
  | .tup ds, v => ∃ a vs, v = .ref a ∧ F a = some (.tup vs) ∧ Reps M F ds vs
  | .dct kvs, v => ∃ a ws, v = .ref a ∧ Rd F a (.dK ws) ∧ RepK M F kvs ws
  | .dcT kvs, v => ∃ a ws, v = .ref a ∧ Rd F a (.dT ws) ∧ RepKT M F kvs ws
  | .obj C fs, v => ∃ a dx ws, v = .ref a ∧ F a = some (.ins (M.cl C) dx ws) ∧ RepA M F fs ws
def Reps (M : Nm) (F : Hp) : List D → List V → Prop
  | [], vs => vs = []
  | d :: ds, vs => ∃ v ws, vs = v :: ws ∧ Rep M F d v ∧ Reps M F ds ws
def RepK (M : Nm) (F : Hp) : List (Key × D) → List (Key × V) → Prop
  | [], vs => vs = []
  | (k, d) :: ds, vs => ∃ v ws, vs = (k, v) :: ws ∧ Rep M F d v ∧ RepK M F ds ws
def RepKT (M : Nm) (F : Hp) : List (List Key × D) → List (List Key × V) → Prop
  | [], vs => vs = []
  | (k, d) :: ds, vs => ∃ v ws, vs = (k, v) :: ws ∧ Rep M F d v ∧ RepKT M F ds ws
def RepA (M : Nm) (F : Hp) : List (Nat × D) → List (Str × V) → Prop
  | [], vs => vs = []
  | (a, d) :: ds, vs => ∃ v ws, vs = (M.an a, v) :: ws ∧ Rep M F d v ∧ RepA M F ds ws
end

/-- what is frozen stays (a dict may be locked and unlocked) -/
structure Le (F F' : Hp) : Prop where
  l : ∀ a xs, Rd F a (.lst xs) → Rd F' a (.lst xs)
  t : ∀ a xs, F a = some (.tup xs) → F' a = some (.tup xs)
  tr : ∀ a xs, Rd F a (.tup xs) → Rd F' a (.tup xs)
  k : ∀ a xs, Rd F a (.dK xs) → Rd F' a (.dK xs)
  kt : ∀ a xs, Rd F a (.dT xs) → Rd F' a (.dT xs)
  i : ∀ a C dx fs, F a = some (.ins C dx fs) → F' a = some (.ins C dx fs)
  d : ∀ a, F' a = none → F a = none
theorem Le.refl (F : Hp) : Le F F := ⟨fun _ _ h => h, fun _ _ h => h, fun _ _ h => h, fun _ _ h => h, fun _ _ h => h, fun _ _ _ _ h => h, fun _ h => h⟩
theorem Le.trans {F F1 F2 : Hp} (a : Le F F1) (b : Le F1 F2) : Le F F2 := ⟨fun x y h => b.l x y (a.l x y h), fun x y h => b.t x y (a.t x y h), fun x y h => b.tr x y (a.tr x y h), fun x y h => b.k x y (a.k x y h),
  fun x y h => b.kt x y (a.kt x y h), fun x y z w h => b.i x y z w (a.i x y z w h), fun x h => a.d x (b.d x h)⟩
theorem rd_upd {H : Hp} {p a : Addr} {o u : HO} (h : H p = none) (r : Rd H a u) : Rd (upd H p o) a u := by
  rcases r with r | ⟨ob, r⟩
  · exact .inl (by rw [upd_ne (ne_of_none r h)]; exact r)
  · exact .inr ⟨ob, by rw [upd_ne (ne_of_none r h)]; exact r⟩
theorem Le.new {F : Hp} {p : Addr} {o : HO} (h : F p = none) : Le F (upd F p o) := by
  refine ⟨fun a xs r => rd_upd h r, fun a xs e => ?_, fun a xs r => rd_upd h r, fun a xs r => rd_upd h r, fun a xs r => rd_upd h r, fun a C dx fs e => ?_, fun a e => ?_⟩
  · rw [upd_ne (ne_of_none e h)]; exact e
  · rw [upd_ne (ne_of_none e h)]; exact e
  · by_cases q : a = p
    · rw [q]; exact h
    · rw [upd_ne q] at e; exact e
/-- both get the same new thing -/
theorem Le.both {F H : Hp} {p : Addr} {o : HO} (l : Le F H) (h : F p = none) : Le (upd F p o) (upd H p o) := by
  have rdb : ∀ a u, (Rd F a u → Rd H a u) → Rd (upd F p o) a u → Rd (upd H p o) a u := fun a u f r => by
    by_cases q : a = p
    · subst q
      rcases r with r | ⟨ob, r⟩
      · rw [upd_same] at r; exact .inl (by rw [upd_same]; exact r)
      · rw [upd_same] at r; exact .inr ⟨ob, by rw [upd_same]; exact r⟩
    · have r' : Rd F a u := by
        rcases r with r | ⟨ob, r⟩
        · rw [upd_ne q] at r; exact .inl r
        · rw [upd_ne q] at r; exact .inr ⟨ob, r⟩
      rcases f r' with r | ⟨ob, r⟩
      · exact .inl (by rw [upd_ne q]; exact r)
      · exact .inr ⟨ob, by rw [upd_ne q]; exact r⟩
  refine ⟨fun a xs => rdb a _ (l.l a xs), fun a xs e => ?_, fun a xs => rdb a _ (l.tr a xs), fun a xs => rdb a _ (l.k a xs), fun a xs => rdb a _ (l.kt a xs), fun a C dx fs e => ?_, fun a e => ?_⟩
  · by_cases q : a = p
    · subst q; rw [upd_same] at e ⊢; exact e
    · rw [upd_ne q] at e ⊢; exact l.t a xs e
  · by_cases q : a = p
    · subst q; rw [upd_same] at e ⊢; exact e
    · rw [upd_ne q] at e ⊢; exact l.i a C dx fs e
  · by_cases q : a = p
    · subst q; rw [upd_same] at e; cases e
    · rw [upd_ne q] at e ⊢; exact l.d a e
/-- frozen: it stands in the heap already -/
theorem Le.add {F H : Hp} {p : Addr} {o : HO} (l : Le F H) (h : F p = none) (e : H p = some o) : Le (upd F p o) H := by
  have u : upd H p o = H := by
    funext b
    unfold upd
    split
    · rename_i q; rw [q, e]
    · rfl
  rw [← u]
  exact l.both h
/-- something that F does not know is changed -/
theorem Le.mut {F H : Hp} {p : Addr} {o : HO} (l : Le F H) (h : F p = none) : Le F (upd H p o) := by
  have rdb : ∀ a u, (Rd F a u → Rd H a u) → Rd F a u → Rd (upd H p o) a u := fun a u f r => by
    have q : a ≠ p := by
      rintro rfl
      rcases r with r | ⟨ob, r⟩ <;> (rw [h] at r; cases r)
    rcases f r with r | ⟨ob, r⟩
    · exact .inl (by rw [upd_ne q]; exact r)
    · exact .inr ⟨ob, by rw [upd_ne q]; exact r⟩
  refine ⟨fun a xs => rdb a _ (l.l a xs), fun a xs e => ?_, fun a xs => rdb a _ (l.tr a xs), fun a xs => rdb a _ (l.k a xs), fun a xs => rdb a _ (l.kt a xs), fun a C dx fs e => ?_, fun a e => ?_⟩
  · rw [upd_ne (ne_of_none e h)]; exact l.t a xs e
  · rw [upd_ne (ne_of_none e h)]; exact l.i a C dx fs e
  · by_cases q : a = p
    · rw [q]; exact h
    · rw [upd_ne q] at e; exact l.d a e
theorem Le.sqL {K : PySem.W.Frag} {F F' : Hp} {a : Addr} {xs : List V} (l : Le F F') (h : SqL K F a xs) : SqL K F' a xs := h.elim (fun r => .inl (l.l a xs r)) .inr
theorem Le.sqT {K : PySem.W.Frag} {F F' : Hp} {a : Addr} {xs : List V} (l : Le F F') (h : SqT K F a xs) : SqT K F' a xs := h.elim (fun r => .inl (l.tr a xs r)) .inr

section
variable {M : Nm} {F F' : Hp}
mutual
theorem Rep.mono (l : Le F F') : ∀ (d : D) (v : V), Rep M F d v → Rep M F' d v
  | .non, _, h => h
  | .bl _, _, h => h
  | .int _, _, h => h
  | .str _, _, h => h
  | .lst ds, _, ⟨a, vs, e, s, r⟩ => ⟨a, vs, e, l.l a vs s, Reps.mono l ds vs r⟩
  | .tup ds, _, ⟨a, vs, e, s, r⟩ => ⟨a, vs, e, l.t a vs s, Reps.mono l ds vs r⟩
  | .dct ds, _, ⟨a, vs, e, s, r⟩ => ⟨a, vs, e, l.k a vs s, RepK.mono l ds vs r⟩
  | .dcT ds, _, ⟨a, vs, e, s, r⟩ => ⟨a, vs, e, l.kt a vs s, RepKT.mono l ds vs r⟩
  | .obj C fs, _, ⟨a, dx, ws, e, s, r⟩ => ⟨a, dx, ws, e, l.i a _ dx ws s, RepA.mono l fs ws r⟩
theorem Reps.mono (l : Le F F') : ∀ (ds : List D) (vs : List V), Reps M F ds vs → Reps M F' ds vs
  | [], _, h => h
  | d :: ds, _, ⟨v, ws, e, r, rs⟩ => ⟨v, ws, e, Rep.mono l d v r, Reps.mono l ds ws rs⟩
theorem RepK.mono (l : Le F F') : ∀ (ds : List (Key × D)) (vs : List (Key × V)), RepK M F ds vs → RepK M F' ds vs
  | [], _, h => h
  | (_, d) :: ds, _, ⟨v, ws, e, r, rs⟩ => ⟨v, ws, e, Rep.mono l d v r, RepK.mono l ds ws rs⟩
theorem RepKT.mono (l : Le F F') : ∀ (ds : List (List Key × D)) (vs : List (List Key × V)), RepKT M F ds vs → RepKT M F' ds vs
  | [], _, h => h
  | (_, d) :: ds, _, ⟨v, ws, e, r, rs⟩ => ⟨v, ws, e, Rep.mono l d v r, RepKT.mono l ds ws rs⟩
theorem RepA.mono (l : Le F F') : ∀ (ds : List (Nat × D)) (vs : List (Str × V)), RepA M F ds vs → RepA M F' ds vs
  | [], _, h => h
  | (_, d) :: ds, _, ⟨v, ws, e, r, rs⟩ => ⟨v, ws, e, Rep.mono l d v r, RepA.mono l ds ws rs⟩
end
end

/-- what stands at an object's own place -/
def RepTop (M : Nm) (F : Hp) : D → HO → Prop
  | .lst ds, .lst vs => Reps M F ds vs
  | .dct ds, .dK vs => RepK M F ds vs
  | .dcT ds, .dT vs => RepKT M F ds vs
  | .obj C fs, .ins A _ vs => A = M.cl C ∧ RepA M F fs vs
  | _, _ => False
theorem RepTop.mono {M : Nm} {F F' : Hp} (l : Le F F') : ∀ {d : D} {o : HO}, RepTop M F d o → RepTop M F' d o := fun {d o} h => by
  cases d <;> cases o <;> first
    | exact h.elim
    | exact Reps.mono l _ _ h
    | exact RepK.mono l _ _ h
    | exact RepKT.mono l _ _ h
    | exact ⟨h.1, RepA.mono l _ _ h.2⟩
/-- the object at a, frozen -/
theorem RepTop.rep {M : Nm} {F : Hp} {a : Addr} : ∀ {d : D} {o : HO}, F a = some o → RepTop M F d o → Rep M F d (.ref a) := fun {d o} e h => by
  cases d <;> cases o <;> first
    | exact h.elim
    | exact ⟨a, _, rfl, .inl e, h⟩
    | (obtain ⟨rfl, h⟩ := h; exact ⟨a, _, _, rfl, e, h⟩)
/-- v is to be read as d -/
def RT (M : Nm) (F H : Hp) (d : D) (v : V) : Prop := Rep M F d v ∨ ∃ a o, v = .ref a ∧ H a = some o ∧ RepTop M F d o
theorem RT.mono {M : Nm} {F F' H : Hp} {d : D} {v : V} (l : Le F F') (h : RT M F H d v) : RT M F' H d v :=
  h.elim (fun r => .inl (Rep.mono l d v r)) fun ⟨a, o, e, q, r⟩ => .inr ⟨a, o, e, q, r.mono l⟩
section
variable {M : Nm} {F H : Hp} {v : V}
theorem RT.lstR {ds : List D} (l : Le F H) (h : RT M F H (.lst ds) v) : ∃ a vs, v = .ref a ∧ Rd H a (.lst vs) ∧ Reps M F ds vs := by
  rcases h with ⟨a, vs, e, s, r⟩ | ⟨a, o, e, q, r⟩
  · exact ⟨a, vs, e, l.l a vs s, r⟩
  · cases o <;> first | exact r.elim | exact ⟨a, _, e, .inl q, r⟩
theorem RT.lst {ds : List D} (l : Le F H) (h : RT M F H (.lst ds) v) : ∃ a vs, v = .ref a ∧ SqL M.K H a vs ∧ Reps M F ds vs :=
  let ⟨a, vs, e, s, r⟩ := h.lstR l; ⟨a, vs, e, .inl s, r⟩
theorem RT.tup {ds : List D} (l : Le F H) (h : RT M F H (.tup ds) v) : ∃ a vs, v = .ref a ∧ H a = some (.tup vs) ∧ Reps M F ds vs := by
  rcases h with ⟨a, vs, e, s, r⟩ | ⟨a, o, e, q, r⟩
  · exact ⟨a, vs, e, l.t a vs s, r⟩
  · cases o <;> exact r.elim
theorem RT.dct {ds : List (Key × D)} (l : Le F H) (h : RT M F H (.dct ds) v) : ∃ a vs, v = .ref a ∧ Rd H a (.dK vs) ∧ RepK M F ds vs := by
  rcases h with ⟨a, vs, e, s, r⟩ | ⟨a, o, e, q, r⟩
  · exact ⟨a, vs, e, l.k a vs s, r⟩
  · cases o <;> first | exact r.elim | exact ⟨a, _, e, .inl q, r⟩
theorem RT.dcT {ds : List (List Key × D)} (l : Le F H) (h : RT M F H (.dcT ds) v) : ∃ a vs, v = .ref a ∧ Rd H a (.dT vs) ∧ RepKT M F ds vs := by
  rcases h with ⟨a, vs, e, s, r⟩ | ⟨a, o, e, q, r⟩
  · exact ⟨a, vs, e, l.kt a vs s, r⟩
  · cases o <;> first | exact r.elim | exact ⟨a, _, e, .inl q, r⟩
theorem RT.obj {C : Nat} {fs : List (Nat × D)} (l : Le F H) (h : RT M F H (.obj C fs) v) : ∃ a dx ws, v = .ref a ∧ H a = some (.ins (M.cl C) dx ws) ∧ RepA M F fs ws := by
  rcases h with ⟨a, dx, vs, e, s, r⟩ | ⟨a, o, e, q, r⟩
  · exact ⟨a, dx, vs, e, l.i a _ dx vs s, r⟩
  · cases o <;> first | exact r.elim | (obtain ⟨rfl, r⟩ := r; exact ⟨a, _, _, e, q, r⟩)
theorem RT.non (h : RT M F H .non v) : v = .non := h.elim (fun r => r) fun ⟨a, o, e, q, r⟩ => by cases o <;> exact r.elim
theorem RT.bl {b : Bool} (h : RT M F H (.bl b) v) : v = .bl b := h.elim (fun r => r) fun ⟨a, o, e, q, r⟩ => by cases o <;> exact r.elim
theorem RT.int {b : Int} (h : RT M F H (.int b) v) : v = .int b := h.elim (fun r => r) fun ⟨a, o, e, q, r⟩ => by cases o <;> exact r.elim
theorem RT.str {b : Str} (h : RT M F H (.str b) v) : v = .str b := h.elim (fun r => r) fun ⟨a, o, e, q, r⟩ => by cases o <;> exact r.elim
end

/-! ### lists of data -/
section
variable {M : Nm} {F : Hp}
theorem Reps.length : ∀ {ds : List D} {vs : List V}, Reps M F ds vs → ds.length = vs.length
  | [], _, h => by subst h; rfl
  | d :: ds, _, ⟨v, ws, e, _, r⟩ => by subst e; simp [Reps.length r]
theorem Reps.nil : Reps M F [] [] := rfl
theorem Reps.cons {d : D} {ds : List D} {v : V} {vs : List V} (h : Rep M F d v) (r : Reps M F ds vs) : Reps M F (d :: ds) (v :: vs) := ⟨v, vs, rfl, h, r⟩
theorem Reps.append : ∀ {ds es : List D} {vs ws : List V}, Reps M F ds vs → Reps M F es ws → Reps M F (ds ++ es) (vs ++ ws)
  | [], _, _, _, h, r => by subst h; exact r
  | d :: ds, _, _, _, ⟨v, xs, e, q, r⟩, s => by subst e; exact ⟨v, _, rfl, q, r.append s⟩
theorem Reps.get : ∀ {ds : List D} {vs : List V} {i : Nat} {v : V}, Reps M F ds vs → vs[i]? = some v → ∃ d, ds[i]? = some d ∧ Rep M F d v
  | [], _, _, _, h, e => by subst h; simp at e
  | d :: ds, _, 0, v, ⟨w, xs, q, r, _⟩, e => by subst q; simp at e; subst e; exact ⟨d, rfl, r⟩
  | d :: ds, _, i + 1, v, ⟨w, xs, q, _, rs⟩, e => by subst q; simp at e; obtain ⟨x, h1, h2⟩ := rs.get e; exact ⟨x, by simpa using h1, h2⟩
theorem Reps.at : ∀ {ds : List D} {vs : List V} {i : Nat} {d : D}, Reps M F ds vs → ds[i]? = some d → ∃ v, vs[i]? = some v ∧ Rep M F d v
  | [], _, _, _, h, e => by simp at e
  | d :: ds, _, 0, v, ⟨w, xs, q, r, _⟩, e => by subst q; simp at e; subst e; exact ⟨w, rfl, r⟩
  | d :: ds, _, i + 1, v, ⟨w, xs, q, _, rs⟩, e => by subst q; simp at e; obtain ⟨x, h1, h2⟩ := rs.at e; exact ⟨x, by simpa using h1, h2⟩
theorem Reps.take : ∀ (n : Nat) {ds : List D} {vs : List V}, Reps M F ds vs → Reps M F (ds.take n) (vs.take n)
  | 0, _, _, _ => by simp; exact Reps.nil
  | n + 1, [], _, h => by subst h; exact Reps.nil
  | n + 1, d :: ds, _, ⟨w, xs, q, r, rs⟩ => by subst q; exact ⟨w, _, rfl, r, rs.take n⟩
theorem Reps.drop : ∀ (n : Nat) {ds : List D} {vs : List V}, Reps M F ds vs → Reps M F (ds.drop n) (vs.drop n)
  | 0, _, _, h => h
  | n + 1, [], _, h => by subst h; exact Reps.nil
  | n + 1, d :: ds, _, ⟨w, xs, q, r, rs⟩ => by subst q; exact rs.drop n
theorem Reps.set : ∀ (n : Nat) {ds : List D} {vs : List V} {d : D} {v : V}, Reps M F ds vs → Rep M F d v → Reps M F (ds.set n d) (vs.set n v)
  | _, [], _, _, _, h, _ => by subst h; exact Reps.nil
  | 0, d :: ds, _, _, _, ⟨w, xs, q, r, rs⟩, h => by subst q; exact ⟨_, _, rfl, h, rs⟩
  | n + 1, d :: ds, _, _, _, ⟨w, xs, q, r, rs⟩, h => by subst q; exact ⟨w, _, rfl, r, rs.set n h⟩
theorem Reps.reverse : ∀ {ds : List D} {vs : List V}, Reps M F ds vs → Reps M F ds.reverse vs.reverse
  | [], _, h => by subst h; exact Reps.nil
  | d :: ds, _, ⟨w, xs, q, r, rs⟩ => by
    subst q
    rw [List.reverse_cons, List.reverse_cons]
    exact rs.reverse.append (Reps.cons r Reps.nil)
theorem Reps.erase : ∀ (n : Nat) {ds : List D} {vs : List V}, Reps M F ds vs → Reps M F (ds.eraseIdx n) (vs.eraseIdx n)
  | _, [], _, h => by subst h; exact Reps.nil
  | 0, d :: ds, _, ⟨w, xs, q, r, rs⟩ => by subst q; exact rs
  | n + 1, d :: ds, _, ⟨w, xs, q, r, rs⟩ => by subst q; exact ⟨w, _, rfl, r, rs.erase n⟩
theorem Reps.dropLast {ds : List D} {vs : List V} (h : Reps M F ds vs) : Reps M F ds.dropLast vs.dropLast := by
  rw [List.dropLast_eq_take, List.dropLast_eq_take, h.length]
  exact h.take _
theorem Reps.rep (n : Nat) {ds : List D} {vs : List V} (h : Reps M F ds vs) : Reps M F (List.replicate n ds).flatten (List.replicate n vs).flatten := by
  induction n with
  | zero => exact Reps.nil
  | succ n ih => rw [List.replicate_succ, List.replicate_succ, List.flatten_cons, List.flatten_cons]; exact h.append ih
/-- ints stand for themselves -/
theorem Reps.ints : ∀ {ds : List D} {vs : List V} {is : List Int}, Reps M F ds vs → intsOf ds = some is → vs = is.map V.int
  | [], _, is, h, e => by subst h; simp [intsOf] at e; subst e; rfl
  | d :: ds, _, is, ⟨w, xs, q, r, rs⟩, e => by
    subst q
    cases d with
    | int i =>
      rw [show intsOf (.int i :: ds) = (intsOf ds).map (i :: ·) from rfl] at e
      obtain ⟨js, h1, h2⟩ := Option.map_eq_some_iff.mp e
      subst h2
      have r' : w = .int i := r
      rw [r', List.map_cons, rs.ints h1]
    | _ => cases e
theorem Reps.bools : ∀ {ds : List D} {vs : List V} {is : List Bool}, Reps M F ds vs → boolsOf ds = some is → vs = is.map V.bl
  | [], _, is, h, e => by subst h; simp [boolsOf] at e; subst e; rfl
  | d :: ds, _, is, ⟨w, xs, q, r, rs⟩, e => by
    subst q
    cases d with
    | bl i =>
      rw [show boolsOf (.bl i :: ds) = (boolsOf ds).map (i :: ·) from rfl] at e
      obtain ⟨js, h1, h2⟩ := Option.map_eq_some_iff.mp e
      subst h2
      have r' : w = .bl i := r
      rw [r', List.map_cons, rs.bools h1]
    | _ => cases e
theorem Reps.strs : ∀ {ds : List D} {vs : List V} {is : List Str}, Reps M F ds vs → strsOf ds = some is → vs = is.map V.str
  | [], _, is, h, e => by subst h; simp [strsOf] at e; subst e; rfl
  | d :: ds, _, is, ⟨w, xs, q, r, rs⟩, e => by
    subst q
    cases d with
    | str i =>
      rw [show strsOf (.str i :: ds) = (strsOf ds).map (i :: ·) from rfl] at e
      obtain ⟨js, h1, h2⟩ := Option.map_eq_some_iff.mp e
      subst h2
      have r' : w = .str i := r
      rw [r', List.map_cons, rs.strs h1]
    | _ => cases e
theorem reps_int : ∀ (is : List Int), Reps M F (is.map D.int) (is.map V.int)
  | [] => Reps.nil
  | i :: is => Reps.cons rfl (reps_int is)
theorem reps_str : ∀ (is : List Str), Reps M F (is.map D.str) (is.map V.str)
  | [] => Reps.nil
  | i :: is => Reps.cons rfl (reps_str is)
end

/-! ### frames -/
def IsOwn : Slot → Prop
  | .ow _ => True | .pw _ => True | _ => False
/-- the own objects' places -/
def OA (ρ : Env) (σ : L2.St) (a : Addr) : Prop := ∃ i, IsOwn (slotAt ρ i) ∧ σ[i]? = some (some (.ref a))
structure Rel (M : Nm) (H0 F H : Hp) (σ : L2.St) (ρ : Env) : Prop where
  sub : Le F H
  len : σ.length = ρ.length
  fz : ∀ i d, slotAt ρ i = .fz d → ∃ v, σ[i]? = some (some v) ∧ Rep M F d v
  ow : ∀ i d, slotAt ρ i = .ow d ∨ slotAt ρ i = .pw d → ∃ a o, σ[i]? = some (some (.ref a)) ∧ F a = none ∧ H a = some o ∧ RepTop M F d o
  dist : ∀ i j a, IsOwn (slotAt ρ i) → IsOwn (slotAt ρ j) → σ[i]? = some (some (.ref a)) → σ[j]? = some (some (.ref a)) → i = j
  new : ∀ i d a, slotAt ρ i = .ow d → σ[i]? = some (some (.ref a)) → H0 a = none
  dom : ∀ a, H a = none → H0 a = none
/-- from one state to another: A the own objects ahead, A' behind -/
structure Stp (F H : Hp) (A : Addr → Prop) (F' H' : Hp) (A' : Addr → Prop) : Prop where
  le : Le F F'
  fr : ∀ b o, H b = some o → ¬ A b → H' b = some o
  dm : ∀ b, H' b = none → H b = none
  nw : ∀ b, F b = none → F' b ≠ none → H b = none ∨ A b
  ow : ∀ b, A' b → A b ∨ H b = none
theorem Stp.refl (F H : Hp) (A : Addr → Prop) : Stp F H A F H A := ⟨Le.refl F, fun _ _ h _ => h, fun _ h => h, fun _ h h' => absurd h h', fun _ h => .inl h⟩
theorem Stp.trans {F F1 F2 H H1 H2 : Hp} {A A1 A2 : Addr → Prop} (a : Stp F H A F1 H1 A1) (b : Stp F1 H1 A1 F2 H2 A2) : Stp F H A F2 H2 A2 where
  le := a.le.trans b.le
  fr := fun x o h n => b.fr x o (a.fr x o h n) fun z => (a.ow x z).elim n fun e => by rw [h] at e; cases e
  dm := fun x h => a.dm x (b.dm x h)
  nw := fun x h h' => by
    by_cases q : F1 x = none
    · rcases b.nw x q h' with e | e
      · exact .inl (a.dm x e)
      · exact (a.ow x e).elim .inr .inl
    · exact a.nw x h q
  ow := fun x h => (b.ow x h).elim (fun z => a.ow x z) fun z => .inr (a.dm x z)
/-- the slots' kinds: what an expression may do to them -/
structure ES (ρ ρ' : Env) : Prop where
  len : ρ.length = ρ'.length
  fz : ∀ i d, slotAt ρ i = .fz d → slotAt ρ' i = .fz d
  ow : ∀ i d, slotAt ρ i = .ow d → ∃ d', slotAt ρ' i = .ow d' ∨ slotAt ρ' i = .fz d'
  pw : ∀ i d, slotAt ρ i = .pw d → ∃ d', slotAt ρ' i = .pw d'
  no : ∀ i, slotAt ρ i = .no → slotAt ρ' i = .no
theorem ES.refl (ρ : Env) : ES ρ ρ := ⟨rfl, fun _ _ h => h, fun _ d h => ⟨d, .inl h⟩, fun _ d h => ⟨d, h⟩, fun _ h => h⟩
theorem ES.trans {ρ ρ1 ρ2 : Env} (a : ES ρ ρ1) (b : ES ρ1 ρ2) : ES ρ ρ2 where
  len := a.len.trans b.len
  fz := fun i d h => b.fz i d (a.fz i d h)
  ow := fun i d h => by
    obtain ⟨d', e | e⟩ := a.ow i d h
    · exact b.ow i d' e
    · exact ⟨d', .inr (b.fz i d' e)⟩
  pw := fun i d h => let ⟨d', e⟩ := a.pw i d h; b.pw i d' e
  no := fun i h => b.no i (a.no i h)
/-- an own slot behind was own ahead -/
theorem ES.own {ρ ρ' : Env} (e : ES ρ ρ') {i : Nat} (h : IsOwn (slotAt ρ' i)) : IsOwn (slotAt ρ i) := by
  cases q : slotAt ρ i with
  | no => rw [e.no i q] at h; exact h.elim
  | fz d => rw [e.fz i d q] at h; exact h.elim
  | ow d => exact True.intro
  | pw d => exact True.intro
theorem ES.oa {ρ ρ' : Env} (e : ES ρ ρ') {σ : L2.St} {a : Addr} (h : OA ρ' σ a) : OA ρ σ a := let ⟨i, o, q⟩ := h; ⟨i, e.own o, q⟩

/-- a value -/
def VOk (M : Nm) (F H : Hp) (σ : L2.St) (ρ : Env) (v : V) : Val → Prop
  | .f d => Rep M F d v
  | .n d => ∃ a o, v = .ref a ∧ F a = none ∧ H a = some o ∧ RepTop M F d o ∧ ¬ OA ρ σ a
  | .v i => σ[i]? = some (some v) ∧ (IsOwn (slotAt ρ i) ∨ ∃ d, slotAt ρ i = .fz d)
def VNew (H : Hp) (v : V) (x : Val) : Prop := ∀ d a, x = .n d → v = .ref a → H a = none
theorem VOk.step {M : Nm} {F F' H H' : Hp} {σ : L2.St} {ρ ρ' : Env} {v : V} {x : Val} (s : Stp F H (OA ρ σ) F' H' (OA ρ' σ)) (e : ES ρ ρ') (h : VOk M F H σ ρ v x) : VOk M F' H' σ ρ' v x := by
  cases x with
  | f d => exact Rep.mono s.le d v h
  | n d =>
    obtain ⟨a, o, e1, e2, e3, e4, e5⟩ := h
    refine ⟨a, o, e1, ?_, s.fr a o e3 e5, e4.mono s.le, fun z => e5 (e.oa z)⟩
    cases q : F' a with
    | none => rfl
    | some u =>
      rcases s.nw a e2 (by rw [q]; exact fun z => by cases z) with z | z
      · rw [e3] at z; cases z
      · exact absurd z e5
  | v i =>
    obtain ⟨h1, h2⟩ := h
    refine ⟨h1, ?_⟩
    rcases h2 with h2 | ⟨d, h2⟩
    · cases q : slotAt ρ i with
      | no => rw [q] at h2; exact h2.elim
      | fz d => rw [q] at h2; exact h2.elim
      | ow d =>
        obtain ⟨d', z | z⟩ := e.ow i d q
        · rw [z]; exact .inl True.intro
        · exact .inr ⟨d', z⟩
      | pw d => obtain ⟨d', z⟩ := e.pw i d q; rw [z]; exact .inl True.intro
    · exact .inr ⟨d, e.fz i d h2⟩
/-- reading a value -/
theorem VOk.rt {M : Nm} {H0 F H : Hp} {σ : L2.St} {ρ : Env} {v : V} {x : Val} {d : D} (R : Rel M H0 F H σ ρ) (h : VOk M F H σ ρ v x) (e : rd ρ x = some d) : RT M F H d v := by
  cases x with
  | f d' => cases e; exact .inl h
  | n d' => cases e; obtain ⟨a, o, e1, e2, e3, e4, _⟩ := h; exact .inr ⟨a, o, e1, e3, e4⟩
  | v i =>
    obtain ⟨h1, _⟩ := h
    cases q : slotAt ρ i with
    | no => simp [rd, q] at e
    | fz d' =>
      simp [rd, q] at e; subst e
      obtain ⟨w, e1, e2⟩ := R.fz i _ q
      rw [h1] at e1; cases e1; exact .inl e2
    | ow d' =>
      simp [rd, q] at e; subst e
      obtain ⟨a, o, e1, _, e3, e4⟩ := R.ow i _ (.inl q)
      rw [h1] at e1; cases e1; exact .inr ⟨a, o, rfl, e3, e4⟩
    | pw d' =>
      simp [rd, q] at e; subst e
      obtain ⟨a, o, e1, _, e3, e4⟩ := R.ow i _ (.inr q)
      rw [h1] at e1; cases e1; exact .inr ⟨a, o, rfl, e3, e4⟩

/-! ### sets of slots -/
theorem slotAt_set (ρ : Env) (i j : Nat) (s : Slot) : slotAt (ρ.set i s) j = if j = i ∧ i < ρ.length then s else slotAt ρ j := by
  unfold slotAt
  rw [List.getD_eq_getElem?_getD, List.getD_eq_getElem?_getD, List.getElem?_set]
  by_cases h : i = j
  · subst h
    by_cases q : i < ρ.length
    · simp [q]
    · simp [q]
  · rw [if_neg h, if_neg (fun z => h z.1.symm)]
theorem slotAt_lt {ρ : Env} {i : Nat} (h : slotAt ρ i ≠ .no) : i < ρ.length := by
  by_cases q : i < ρ.length
  · exact q
  · exact absurd (by unfold slotAt; rw [List.getD_eq_getElem?_getD, List.getElem?_eq_none (by omega)]; rfl) h

/-- freezing, behind a part that began at Fs, Hs -/
structure Frz (M : Nm) (H0 Fs Hs : Hp) (As : Addr → Prop) (F H : Hp) (σ : L2.St) (ρ : Env) (v : V) (x : Val) (F' : Hp) (ρ' : Env) (d : D) : Prop where
  rel : Rel M H0 F' H σ ρ'
  stp : Stp Fs Hs As F' H (OA ρ' σ)
  es : ES ρ ρ'
  rep : Rep M F' d v
  le : Le F F'
  only : ∀ b, F b = none → F' b ≠ none → v = .ref b ∧ ((∃ d, x = .n d) ∨ OA ρ σ b)
theorem upd_none {H : Hp} {a b : Addr} {o : HO} (h : H b = none) (n : b ≠ a) : upd H a o b = none := by rw [upd_ne n]; exact h
theorem fr_ok {M : Nm} {H0 Fs Hs F H : Hp} {As : Addr → Prop} {σ : L2.St} {ρ ρ' : Env} {v : V} {x : Val} {d : D} (R : Rel M H0 F H σ ρ) (S : Stp Fs Hs As F H (OA ρ σ)) (h : VOk M F H σ ρ v x) (hn : VNew Hs v x) (e : fr ρ x = some (d, ρ')) :
    ∃ F', Frz M H0 Fs Hs As F H σ ρ v x F' ρ' d := by
  cases x with
  | f d' =>
    cases e
    exact ⟨F, R, S, ES.refl _, h, Le.refl F, fun b z z' => absurd z z'⟩
  | n d' =>
    cases e
    obtain ⟨a, o, rfl, e2, e3, e4, e5⟩ := h
    have le : Le F (upd F a o) := Le.new e2
    have only : ∀ b, F b = none → upd F a o b ≠ none → b = a := fun b z z' => by
      by_cases q : b = a
      · exact q
      · rw [upd_ne q] at z'; exact absurd z z'
    refine ⟨upd F a o, ⟨R.sub.add e2 e3, R.len, fun i d z => ?_, fun i d z => ?_, R.dist, R.new, R.dom⟩, ⟨S.le.trans le, S.fr, S.dm, fun b z z' => ?_, S.ow⟩, ES.refl _, (e4.mono le).rep upd_same, le, fun b z z' => ⟨by rw [only b z z'], .inl ⟨_, rfl⟩⟩⟩
    · obtain ⟨w, h1, h2⟩ := R.fz i d z; exact ⟨w, h1, Rep.mono le _ _ h2⟩
    · obtain ⟨b, u, h1, h2, h3, h4⟩ := R.ow i d z
      have nb : b ≠ a := by
        rintro rfl
        exact e5 ⟨i, by rcases z with z | z <;> (rw [z]; exact True.intro), h1⟩
      exact ⟨b, u, h1, by rw [upd_ne nb]; exact h2, h3, h4.mono le⟩
    · by_cases q : F b = none
      · rw [only b q z']; exact .inl (hn _ a rfl rfl)
      · exact S.nw b z q
  | v i =>
    obtain ⟨h1, h2⟩ := h
    cases q : slotAt ρ i with
    | no => simp [fr, q] at e
    | pw d' => simp [fr, q] at e
    | fz d' =>
      simp [fr, q] at e
      obtain ⟨rfl, rfl⟩ := e
      obtain ⟨w, e1, e2⟩ := R.fz i _ q
      rw [h1] at e1; cases e1
      exact ⟨F, R, S, ES.refl _, e2, Le.refl F, fun b z z' => absurd z z'⟩
    | ow d' =>
      simp [fr, q] at e
      obtain ⟨rfl, rfl⟩ := e
      obtain ⟨a, o, e1, e2, e3, e4⟩ := R.ow i _ (.inl q)
      rw [h1] at e1; cases e1
      have le : Le F (upd F a o) := Le.new e2
      have hi : i < ρ.length := slotAt_lt (by rw [q]; intro z; cases z)
      have only : ∀ b, F b = none → upd F a o b ≠ none → b = a := fun b z z' => by
        by_cases q : b = a
        · exact q
        · rw [upd_ne q] at z'; exact absurd z z'
      have at' : ∀ j, slotAt (ρ.set i (.fz d')) j = if j = i then .fz d' else slotAt ρ j := fun j => by
        rw [slotAt_set]; by_cases z : j = i <;> simp [z, hi]
      have own' : ∀ j, IsOwn (slotAt (ρ.set i (.fz d')) j) → j ≠ i ∧ IsOwn (slotAt ρ j) := fun j z => by
        rw [at'] at z
        by_cases w : j = i
        · rw [if_pos w] at z; exact z.elim
        · rw [if_neg w] at z; exact ⟨w, z⟩
      have oa : ∀ b, OA (ρ.set i (.fz d')) σ b → OA ρ σ b := fun b ⟨j, z, w⟩ => ⟨j, (own' j z).2, w⟩
      refine ⟨upd F a o, ⟨R.sub.add e2 e3, by rw [List.length_set]; exact R.len, fun j d z => ?_, fun j d z => ?_, fun j k b z w => R.dist j k b (own' j z).2 (own' k w).2, fun j d b z w => ?_, R.dom⟩,
        ⟨S.le.trans le, S.fr, S.dm, fun b z z' => ?_, fun b z => S.ow b (oa b z)⟩, ⟨by rw [List.length_set], fun j d z => ?_, fun j d z => ?_, fun j d z => ?_, fun j z => ?_⟩, (e4.mono le).rep upd_same, le, fun b z z' => ⟨by rw [only b z z'], .inr (by rw [only b z z']; exact ⟨i, by rw [q]; exact True.intro, h1⟩)⟩⟩
      · rw [at'] at z
        by_cases w : j = i
        · rw [if_pos w] at z; cases z; subst w; exact ⟨_, h1, (e4.mono le).rep upd_same⟩
        · rw [if_neg w] at z; obtain ⟨u, h1, h2⟩ := R.fz j d z; exact ⟨u, h1, Rep.mono le _ _ h2⟩
      · rw [at'] at z
        by_cases w : j = i
        · rw [if_pos w] at z; rcases z with z | z <;> cases z
        · rw [if_neg w] at z
          obtain ⟨b, u, g1, g2, g3, g4⟩ := R.ow j d z
          have nb : b ≠ a := by
            rintro rfl
            exact w (R.dist j i b (by rcases z with z | z <;> (rw [z]; exact True.intro)) (by rw [q]; exact True.intro) g1 h1)
          exact ⟨b, u, g1, by rw [upd_ne nb]; exact g2, g3, g4.mono le⟩
      · rw [at'] at z
        by_cases y : j = i
        · rw [if_pos y] at z; cases z
        · rw [if_neg y] at z; exact R.new j d b z w
      · by_cases w : F b = none
        · rw [only b w z']
          exact (S.ow a ⟨i, by rw [q]; exact True.intro, h1⟩).elim .inr .inl
        · exact S.nw b z w
      · rw [at']; by_cases w : j = i
        · subst w; rw [q] at z; cases z
        · rw [if_neg w]; exact z
      · rw [at']; by_cases w : j = i
        · subst w; rw [q] at z; cases z; exact ⟨d', .inr (if_pos rfl)⟩
        · rw [if_neg w]; exact ⟨d, .inl z⟩
      · rw [at']; by_cases w : j = i
        · subst w; rw [q] at z; cases z
        · rw [if_neg w]; exact ⟨d, z⟩
      · rw [at']; by_cases w : j = i
        · subst w; rw [q] at z; cases z
        · rw [if_neg w]; exact z
/-- another value behind a freezing -/
theorem Frz.keep {M : Nm} {H0 Fs Hs F H F' : Hp} {As : Addr → Prop} {σ : L2.St} {ρ ρ' : Env} {v w : V} {d : D} {x y : Val} (z : Frz M H0 Fs Hs As F H σ ρ v x F' ρ' d) (h : VOk M F H σ ρ w y) (n : ∀ d d', x = .n d → y = .n d' → w ≠ v) : VOk M F' H σ ρ' w y := by
  cases y with
  | f d => exact Rep.mono z.le d w h
  | n d =>
    obtain ⟨a, o, rfl, e2, e3, e4, e5⟩ := h
    refine ⟨a, o, rfl, ?_, e3, e4.mono z.le, fun q => e5 (z.es.oa q)⟩
    cases q : F' a with
    | none => rfl
    | some u =>
      exfalso
      obtain ⟨w1, w2⟩ := z.only a e2 (by rw [q]; exact fun z => by cases z)
      rcases w2 with ⟨d', w2⟩ | w2
      · exact n d' d w2 rfl w1.symm
      · exact e5 w2
  | v i =>
    obtain ⟨h1, h2⟩ := h
    refine ⟨h1, ?_⟩
    rcases h2 with h2 | ⟨d, h2⟩
    · cases q : slotAt ρ i with
      | no => rw [q] at h2; exact h2.elim
      | fz d => rw [q] at h2; exact h2.elim
      | ow d =>
        obtain ⟨d', z | z⟩ := z.es.ow i d q
        · rw [z]; exact .inl True.intro
        · exact .inr ⟨d', z⟩
      | pw d => obtain ⟨d', z⟩ := z.es.pw i d q; rw [z]; exact .inl True.intro
    · exact .inr ⟨d, z.es.fz i d h2⟩

/-! ### lists of values -/
/-- values in a row, each new one unlike those ahead -/
def VsOk (M : Nm) (F H : Hp) (σ : L2.St) (ρ : Env) : List V → List Val → Prop
  | [], xs => xs = []
  | v :: vs, xs => ∃ x ys, xs = x :: ys ∧ VOk M F H σ ρ v x ∧ VsOk M F H σ ρ vs ys ∧ ∀ w y, (w, y) ∈ vs.zip ys → ∀ d d', x = .n d → y = .n d' → w ≠ v
def VsNew (H : Hp) : List V → List Val → Prop
  | v :: vs, x :: xs => VNew H v x ∧ VsNew H vs xs
  | _, _ => True
theorem VsOk.length {M : Nm} {F H : Hp} {σ : L2.St} {ρ : Env} : ∀ {vs : List V} {xs : List Val}, VsOk M F H σ ρ vs xs → vs.length = xs.length
  | [], _, h => by subst h; rfl
  | v :: vs, _, ⟨x, ys, e, _, r, _⟩ => by subst e; simp [VsOk.length r]
theorem VsOk.step {M : Nm} {F F' H H' : Hp} {σ : L2.St} {ρ ρ' : Env} (s : Stp F H (OA ρ σ) F' H' (OA ρ' σ)) (e : ES ρ ρ') : ∀ {vs : List V} {xs : List Val}, VsOk M F H σ ρ vs xs → VsOk M F' H' σ ρ' vs xs
  | [], _, h => h
  | v :: vs, _, ⟨x, ys, q, h, r, n⟩ => ⟨x, ys, q, h.step s e, VsOk.step s e r, n⟩
theorem VsOk.rts {M : Nm} {H0 F H : Hp} {σ : L2.St} {ρ : Env} (R : Rel M H0 F H σ ρ) : ∀ {vs : List V} {xs : List Val} {ds : List D}, VsOk M F H σ ρ vs xs → rds ρ xs = some ds → Paired (RT M F H) ds vs
  | [], _, ds, h, e => by subst h; cases e; exact .nil
  | v :: vs, _, ds, ⟨x, ys, q, h, r, n⟩, e => by
    subst q
    cases h1 : rd ρ x with
    | none => simp [rds, h1] at e
    | some d =>
      cases h2 : rds ρ ys with
      | none => simp [rds, h1, h2] at e
      | some ds' =>
        simp [rds, h1, h2] at e
        subst e
        exact .cons (h.rt R h1) (r.rts R h2)
theorem VsNew.tail {H : Hp} {v : V} {vs : List V} {x : Val} {xs : List Val} (h : VsNew H (v :: vs) (x :: xs)) : VNew H v x ∧ VsNew H vs xs := h
/-- all are frozen, from the left -/
theorem frs_ok {M : Nm} {H0 Fs Hs H : Hp} {As : Addr → Prop} {σ : L2.St} : ∀ {vs : List V} {xs : List Val} {F : Hp} {ρ ρ' : Env} {ds : List D}, Rel M H0 F H σ ρ → Stp Fs Hs As F H (OA ρ σ) → VsOk M F H σ ρ vs xs → VsNew Hs vs xs → frs ρ xs = some (ds, ρ') →
    ∃ F', Rel M H0 F' H σ ρ' ∧ Stp Fs Hs As F' H (OA ρ' σ) ∧ ES ρ ρ' ∧ Reps M F' ds vs ∧ Le F F' ∧ ∀ b, F b = none → F' b ≠ none → V.ref b ∈ vs
  | [], _, F, ρ, ρ', ds, R, S, h, _, e => by
    subst h; cases e
    exact ⟨F, R, S, ES.refl _, Reps.nil, Le.refl _, fun b z z' => absurd z z'⟩
  | v :: vs, _, F, ρ, ρ', ds, R, S, ⟨x, ys, q, h, r, n⟩, hn, e => by
    subst q
    obtain ⟨hn1, hn2⟩ := hn
    cases h1 : fr ρ x with
    | none => simp [frs, h1] at e
    | some p =>
      obtain ⟨d, ρ1⟩ := p
      cases h2 : frs ρ1 ys with
      | none => simp [frs, h1, h2] at e
      | some p2 =>
        obtain ⟨ds', ρ2⟩ := p2
        simp [frs, h1, h2] at e
        obtain ⟨rfl, rfl⟩ := e
        obtain ⟨F1, z⟩ := fr_ok R S h hn1 h1
        -- the others behind it: a new one that is the frozen object cannot be
        have keep : ∀ {vs : List V} {ys : List Val}, VsOk M F H σ ρ vs ys → (∀ w y, (w, y) ∈ vs.zip ys → ∀ d d', x = .n d → y = .n d' → w ≠ v) → VsOk M F1 H σ ρ1 vs ys := by
          intro vs
          induction vs with
          | nil => intro ys h _; exact h
          | cons w vs ih =>
            rintro ys ⟨y, ys', rfl, g, gr, gn⟩ m
            exact ⟨y, ys', rfl, z.keep g (fun d d' e e' => m w y (by simp) d d' e e'), ih gr (fun w' y' hm => m w' y' (by simp [hm])), gn⟩
        obtain ⟨F2, R2, S2, E2, P2, L2, O2⟩ := frs_ok z.rel z.stp (keep r n) hn2 h2
        refine ⟨F2, R2, S2, z.es.trans E2, Reps.cons (Rep.mono L2 _ _ z.rep) P2, z.le.trans L2, fun b zb zb' => ?_⟩
        by_cases q : F1 b = none
        · exact List.mem_cons_of_mem _ (O2 b q zb')
        · rw [(z.only b zb q).1]; exact List.mem_cons_self
end PV

set_option Elab.async false
set_option linter.all false
set_option maxRecDepth 100000
set_option maxHeartbeats 1000000
/-! PvC: readings of the small language, and the rules of its expressions over the hand layer. -/
namespace PV
open PySem L2

def XOk (M : Nm) (F H : Hp) (e : XV) (cls : Value) (d : Option Addr) : Prop := cls = .ref (M.cl e.c) ∧ match d with
  | none => e.fs = []
  | some a => ∃ ws, H a = some (.xd ws) ∧ RepA M F e.fs ws
section
variable (M : Nm) (H0 : Hp) (W : WX)
def Post {α β : Type} (F H : Hp) (σ : L2.St) (ρ : Env) (VR : Hp → Hp → Env → α → β → Prop) (r : Out α) (Q : β → Hp → Prop) : Prop := match r with
  | .ok x ρ' => ∀ b F' H', Rel M H0 F' H' σ ρ' → Stp F H (OA ρ σ) F' H' (OA ρ' σ) → ES ρ ρ' → VR F' H' ρ' x b → Q b H'
  | .exc e ρ' => ∀ cls d F' H', Rel M H0 F' H' σ ρ' → Stp F H (OA ρ σ) F' H' (OA ρ' σ) → ES ρ ρ' → XOk M F' H' e cls d → W cls d σ H'
  | .bad => False
abbrev VR1 (H : Hp) (σ : L2.St) : Hp → Hp → Env → Val → V → Prop := fun F' H' ρ' x v => VOk M F' H' σ ρ' v x ∧ VNew H v x
abbrev VRs (H : Hp) (σ : L2.St) : Hp → Hp → Env → List Val → List V → Prop := fun F' H' ρ' xs vs => VsOk M F' H' σ ρ' vs xs ∧ VsNew H vs xs
abbrev VRb : Hp → Hp → Env → Val → Bool → Prop := fun _ _ _ x b => x = .f (.bl b)
variable (T : Tb)
def tE (c : CE) : TE := fun σ H Q => ∃ F ρ, Rel M H0 F H σ ρ ∧ Post M H0 W F H σ ρ (VR1 M H σ) (ev T c ρ) Q
def tA (cs : CEs) : TA := fun σ H Q => ∃ F ρ, Rel M H0 F H σ ρ ∧ Post M H0 W F H σ ρ (VRs M H σ) (evs T cs ρ) Q
/-- the value is a bool -/
def okB (r : Out Val) : Out Bool := match r with
  | .ok (.f (.bl b)) ρ => .ok b ρ
  | .ok _ _ => .bad
  | .exc e ρ => .exc e ρ
  | .bad => .bad
def tT (c : CE) : TT := fun σ H Q => ∃ F ρ, Rel M H0 F H σ ρ ∧ Post M H0 W F H σ ρ (fun _ _ _ (x : Bool) b => x = b) (okB (ev T c ρ)) Q
end
section
variable {M : Nm} {H0 : Hp} {W : WX} {T : Tb} {α β γ δ : Type}
theorem Post.bind {F H : Hp} {σ : L2.St} {ρ : Env} {VR : Hp → Hp → Env → α → β → Prop} {VQ : Hp → Hp → Env → γ → δ → Prop} {r : Out γ} {f : γ → Env → Out α} {Q : β → Hp → Prop} {Q1 : δ → Hp → Prop}
    (h : Post M H0 W F H σ ρ VR (r.bind f) Q)
    (k : ∀ x ρ1 b F1 H1, Rel M H0 F1 H1 σ ρ1 → Stp F H (OA ρ σ) F1 H1 (OA ρ1 σ) → ES ρ ρ1 → VQ F1 H1 ρ1 x b → Post M H0 W F H σ ρ VR (f x ρ1) Q → Q1 b H1) : Post M H0 W F H σ ρ VQ r Q1 := by
  cases r with
  | ok x ρ1 => exact fun b F1 H1 R S E v => k x ρ1 b F1 H1 R S E v h
  | exc e ρ1 => exact h
  | bad => exact h
theorem Post.shift {F H F1 H1 : Hp} {σ : L2.St} {ρ ρ1 : Env} {VR VR' : Hp → Hp → Env → α → β → Prop} {r : Out α} {Q : β → Hp → Prop} (h : Post M H0 W F H σ ρ VR r Q) (S : Stp F H (OA ρ σ) F1 H1 (OA ρ1 σ)) (E : ES ρ ρ1)
    (v : ∀ F' H' ρ' x b, Rel M H0 F' H' σ ρ' → Stp F1 H1 (OA ρ1 σ) F' H' (OA ρ' σ) → VR' F' H' ρ' x b → VR F' H' ρ' x b) : Post M H0 W F1 H1 σ ρ1 VR' r Q := by
  cases r with
  | ok x ρ2 => exact fun b F2 H2 R2 S2 E2 v2 => h b F2 H2 R2 (S.trans S2) (E.trans E2) (v _ _ _ _ _ R2 S2 v2)
  | exc e ρ2 => exact fun c d F2 H2 R2 S2 E2 v2 => h c d F2 H2 R2 (S.trans S2) (E.trans E2) v2
  | bad => exact h
theorem Post.imp {F H : Hp} {σ : L2.St} {ρ : Env} {VR VR' : Hp → Hp → Env → α → β → Prop} {r : Out α} {Q Q' : β → Hp → Prop} (h : Post M H0 W F H σ ρ VR r Q)
    (v : ∀ F' H' ρ' x b, VR' F' H' ρ' x b → VR F' H' ρ' x b) (q : ∀ b H', Q b H' → Q' b H') : Post M H0 W F H σ ρ VR' r Q' := by
  cases r with
  | ok x ρ2 => exact fun b F2 H2 R2 S2 E2 v2 => q _ _ (h b F2 H2 R2 S2 E2 (v _ _ _ _ _ v2))
  | exc e ρ2 => exact h
  | bad => exact h
theorem VNew.back {F F1 H H1 : Hp} {A A1 : Addr → Prop} {v : V} {x : Val} (S : Stp F H A F1 H1 A1) (h : VNew H1 v x) : VNew H v x := fun d a e e' => S.dm a (h d a e e')
theorem VsNew.back {F F1 H H1 : Hp} {A A1 : Addr → Prop} (S : Stp F H A F1 H1 A1) : ∀ {vs : List V} {xs : List Val}, VsNew H1 vs xs → VsNew H vs xs
  | [], _, _ => by unfold VsNew; trivial
  | _ :: _, [], _ => by unfold VsNew; trivial
  | v :: vs, x :: xs, h => ⟨VNew.back S h.1, VsNew.back S h.2⟩
theorem PE.imp {X : Cx} {e : Expr} {t t' : TE} (h : PE X e t) (i : ∀ σ H Q, t' σ H Q → t σ H Q) : PE X e t' := ⟨fun pins s σ H Q I q => h.run pins s σ H Q I (i σ H Q q)⟩
theorem PA.imp {X : Cx} {e : List Expr} {t t' : TA} (h : PA X e t) (i : ∀ σ H Q, t' σ H Q → t σ H Q) : PA X e t' := ⟨fun pos pins s σ H Q I q => h.run pos pins s σ H Q I (i σ H Q q)⟩
theorem PT.imp {X : Cx} {e : Expr} {t t' : TT} (h : PT X e t) (i : ∀ σ H Q, t' σ H Q → t σ H Q) : PT X e t' := ⟨fun pins s σ H Q I q => h.run pins s σ H Q I (i σ H Q q)⟩
theorem PW.imp {X : Cx} {e : Expr} {t t' : TT} (h : PW X e t) (i : ∀ σ H Q, t' σ H Q → t σ H Q) : PW X e t' := ⟨fun wh pins s σ H Q I q => h.run wh pins s σ H Q I (i σ H Q q)⟩

/-! ### names and constants -/
theorem e_var {X : Cx} {i : Nat} {e : Expr} (h : PE X e (tVar i)) : PE X e (tE M H0 W T (.var i)) := by
  refine PE.imp h fun σ H Q => ?_
  rintro ⟨F, ρ, R, p⟩
  simp only [ev] at p
  cases q : slotAt ρ i with
  | no => rw [q] at p; exact p.elim
  | fz d =>
    rw [q] at p
    obtain ⟨v, h1, h2⟩ := R.fz i d q
    exact ⟨v, h1, p v F H R (Stp.refl _ _ _) (ES.refl _) ⟨h2, fun _ _ z => by cases z⟩⟩
  | ow d =>
    rw [q] at p
    obtain ⟨a, o, h1, h2, h3, h4⟩ := R.ow i d (.inl q)
    exact ⟨_, h1, p _ F H R (Stp.refl _ _ _) (ES.refl _) ⟨⟨h1, .inl (by rw [q]; exact True.intro)⟩, fun _ _ z => by cases z⟩⟩
  | pw d =>
    rw [q] at p
    obtain ⟨a, o, h1, h2, h3, h4⟩ := R.ow i d (.inr q)
    exact ⟨_, h1, p _ F H R (Stp.refl _ _ _) (ES.refl _) ⟨⟨h1, .inl (by rw [q]; exact True.intro)⟩, fun _ _ z => by cases z⟩⟩
/-- a constant, a module's constant: v stands for d in any heap -/
theorem e_cst {X : Cx} {e : Expr} {d : D} {v : V} (h : PE X e (tC v)) (r : ∀ F, Rep M F d v) : PE X e (tE M H0 W T (.cst d)) := by
  refine PE.imp h fun σ H Q => ?_
  rintro ⟨F, ρ, R, p⟩
  exact p v F H R (Stp.refl _ _ _) (ES.refl _) ⟨r F, fun _ _ z => by cases z⟩
theorem e_glb {X : Cx} {e : Expr} {g : Nat} {v : V} (h : PE X e (tC v)) (r : ∀ F, Rep M F (T.gl g) v) : PE X e (tE M H0 W T (.glb g)) := by
  refine PE.imp h fun σ H Q => ?_
  rintro ⟨F, ρ, R, p⟩
  exact p v F H R (Stp.refl _ _ _) (ES.refl _) ⟨r F, fun _ _ z => by cases z⟩

/-! ### operations by values -/
def OpPost (M : Nm) (F H : Hp) (r : Val) (v : V) (F' H' : Hp) : Prop := match r with
  | .f d => Rep M F' d v ∧ ((F' = F ∧ H' = H) ∨ ∃ p o, H p = none ∧ H' = upd H p o ∧ F' = upd F p o)
  | .n d => ∃ p o, v = .ref p ∧ H p = none ∧ H' = upd H p o ∧ F' = F ∧ RepTop M F d o
  | .v _ => False
theorem Rel.alloc {F H : Hp} {σ : L2.St} {ρ : Env} {p : Addr} {o : HO} (R : Rel M H0 F H σ ρ) (hp : H p = none) :
    Rel M H0 F (upd H p o) σ ρ ∧ Stp F H (OA ρ σ) F (upd H p o) (OA ρ σ) := by
  have fp : F p = none := R.sub.d p hp
  refine ⟨⟨R.sub.mut fp, R.len, R.fz, fun i d z => ?_, R.dist, R.new, fun a z => ?_⟩, ⟨Le.refl F, fun b u z _ => ?_, fun b z => ?_, fun b z z' => absurd z z', fun b z => .inl z⟩⟩
  · obtain ⟨a, u, h1, h2, h3, h4⟩ := R.ow i d z
    exact ⟨a, u, h1, h2, by rw [upd_ne (ne_of_none h3 hp)]; exact h3, h4⟩
  · by_cases q : a = p
    · rw [q]; exact R.dom p hp
    · rw [upd_ne q] at z; exact R.dom a z
  · rw [upd_ne (ne_of_none z hp)]; exact z
  · by_cases q : b = p
    · rw [q]; exact hp
    · rw [upd_ne q] at z; exact z
theorem Rel.allocF {F H : Hp} {σ : L2.St} {ρ : Env} {p : Addr} {o : HO} (R : Rel M H0 F H σ ρ) (hp : H p = none) :
    Rel M H0 (upd F p o) (upd H p o) σ ρ ∧ Stp F H (OA ρ σ) (upd F p o) (upd H p o) (OA ρ σ) := by
  have fp : F p = none := R.sub.d p hp
  obtain ⟨R1, S1⟩ := R.alloc (o := o) hp
  have le : Le F (upd F p o) := Le.new fp
  refine ⟨⟨R.sub.both fp, R.len, fun i d z => ?_, fun i d z => ?_, R.dist, R.new, R1.dom⟩, ⟨le, S1.fr, S1.dm, fun b z z' => ?_, S1.ow⟩⟩
  · obtain ⟨v, h1, h2⟩ := R.fz i d z; exact ⟨v, h1, Rep.mono le _ _ h2⟩
  · obtain ⟨a, u, h1, h2, h3, h4⟩ := R1.ow i d z
    obtain ⟨a', u', g1, g2, g3, g4⟩ := R.ow i d z
    rw [h1] at g1; cases g1
    exact ⟨a, u, h1, by rw [upd_ne (ne_of_none g3 hp)]; exact h2, h3, h4.mono le⟩
  · by_cases q : b = p
    · rw [q]; exact .inl hp
    · rw [upd_ne q] at z'; exact absurd z z'
theorem OpPost.rel {F H F' H' : Hp} {σ : L2.St} {ρ : Env} {r : Val} {v : V} (R : Rel M H0 F H σ ρ) (h : OpPost M F H r v F' H') :
    Rel M H0 F' H' σ ρ ∧ Stp F H (OA ρ σ) F' H' (OA ρ σ) ∧ VOk M F' H' σ ρ v r ∧ VNew H v r := by
  cases r with
  | f d =>
    obtain ⟨h1, ⟨rfl, rfl⟩ | ⟨p, o, hp, rfl, rfl⟩⟩ := h
    · exact ⟨R, Stp.refl _ _ _, h1, fun _ _ z => by cases z⟩
    · obtain ⟨R1, S1⟩ := R.allocF (o := o) hp
      exact ⟨R1, S1, h1, fun _ _ z => by cases z⟩
  | n d =>
    obtain ⟨p, o, rfl, hp, rfl, rfl, h4⟩ := h
    obtain ⟨R1, S1⟩ := R.alloc (o := o) hp
    refine ⟨R1, S1, ⟨p, o, rfl, R.sub.d p hp, upd_same, h4, ?_⟩, fun d' a e e' => by cases e'; exact hp⟩
    rintro ⟨i, q, z⟩
    cases w : slotAt ρ i with
    | no => rw [w] at q; exact q
    | fz d => rw [w] at q; exact q
    | ow d => obtain ⟨a, u, h1, h2, h3, _⟩ := R.ow i d (.inl w); rw [z] at h1; cases h1; rw [hp] at h3; cases h3
    | pw d => obtain ⟨a, u, h1, h2, h3, _⟩ := R.ow i d (.inr w); rw [z] at h1; cases h1; rw [hp] at h3; cases h3
  | v i => exact h.elim
/-- what an operation on values asks -/
def rO1 (M : Nm) (g : D → R1) : V → Hp → VK → Prop := fun x H Q => ∃ F d r, Le F H ∧ RT M F H d x ∧ g d = some r ∧ ∀ v F' H', OpPost M F H r v F' H' → Q v H'
def rO2 (M : Nm) (g : D → D → R1) : R2 := fun x y H Q => ∃ F d e r, Le F H ∧ RT M F H d x ∧ RT M F H e y ∧ g d e = some r ∧ ∀ v F' H', OpPost M F H r v F' H' → Q v H'
def rON (M : Nm) (g : List D → R1) : List V → Hp → VK → Prop := fun xs H Q => ∃ F ds r, Le F H ∧ Paired (RT M F H) ds xs ∧ g ds = some r ∧ ∀ v F' H', OpPost M F H r v F' H' → Q v H'

/-- an expression's value behind another part -/
theorem VOk.after {F F1 H H1 : Hp} {σ : L2.St} {ρ ρ1 : Env} {v : V} {x : Val} (S : Stp F H (OA ρ σ) F1 H1 (OA ρ1 σ)) (E : ES ρ ρ1) (h : VOk M F H σ ρ v x) : VOk M F1 H1 σ ρ1 v x := h.step S E

theorem op_fin {F H F1 H1 : Hp} {σ : L2.St} {ρ ρ1 : Env} {Q : VK} {o : List D → R1} {xs : List Val} {vs : List V} (R1' : Rel M H0 F1 H1 σ ρ1) (S : Stp F H (OA ρ σ) F1 H1 (OA ρ1 σ)) (E : ES ρ ρ1) (V1 : VsOk M F1 H1 σ ρ1 vs xs)
    (p : Post M H0 W F H σ ρ (VR1 M H σ) (lift ((rds ρ1 xs).bind o) ρ1) Q) : rON M o vs H1 Q := by
  cases h : rds ρ1 xs with
  | none => rw [h] at p; exact p.elim
  | some ds =>
    rw [h] at p
    cases g : o ds with
    | none => simp only [Option.bind, g] at p; exact p.elim
    | some r =>
      simp only [Option.bind, g] at p
      refine ⟨F1, ds, r, R1'.sub, V1.rts R1' h, g, fun v F2 H2 z => ?_⟩
      obtain ⟨R2, S2, v2, n2⟩ := OpPost.rel R1' z
      exact p v F2 H2 R2 (S.trans S2) E ⟨v2, VNew.back S n2⟩
theorem paired1 {α β : Type} {R : α → β → Prop} {ds : List α} {y : β} (h : Paired R ds [y]) : ∃ d, ds = [d] ∧ R d y := by
  cases h with
  | cons r t => cases t; exact ⟨_, rfl, r⟩
theorem paired2 {α β : Type} {R : α → β → Prop} {ds : List α} {y z : β} (h : Paired R ds [y, z]) : ∃ d e, ds = [d, e] ∧ R d y ∧ R e z := by
  cases h with
  | cons r t =>
    obtain ⟨e, rfl, r'⟩ := paired1 t
    exact ⟨_, e, rfl, r, r'⟩
/-- one operand -/
theorem i_op1 {o : Op} {a : CE} {σ : L2.St} {H : Hp} {Q : VK} (h : tE M H0 W T (.op o (.cons a .nil)) σ H Q) : tE M H0 W T a σ H fun x H1 => rO1 M (fun d => opD o [d]) x H1 Q := by
  obtain ⟨F, ρ, R, p⟩ := h
  simp only [ev, evs] at p
  refine ⟨F, ρ, R, ?_⟩
  rw [show (((ev T a ρ).bind fun v ρ1 => (Out.ok [] ρ1 : Out (List Val)).bind fun vs ρ2 => Out.ok (v :: vs) ρ2).bind fun vs ρ1 => lift ((rds ρ1 vs).bind (opD o)) ρ1)
    = (ev T a ρ).bind fun v ρ1 => lift ((rds ρ1 [v]).bind (opD o)) ρ1 by cases ev T a ρ <;> rfl] at p
  refine Post.bind p fun x ρ1 v F1 H1 R1 S1 E1 V1 p1 => ?_
  obtain ⟨F2, ds, r, h1, h2, h3, h4⟩ := op_fin (vs := [v]) R1 S1 E1 ⟨x, [], rfl, V1.1, rfl, fun _ _ m => by simp at m⟩ p1
  obtain ⟨d, rfl, h5⟩ := paired1 h2
  exact ⟨F2, d, r, h1, h5, h3, h4⟩
/-- two values in a row -/
theorem two_ok {F1 F2 H1 H2 : Hp} {σ : L2.St} {ρ1 ρ2 : Env} {x y : Val} {v w : V} (V1 : VOk M F1 H1 σ ρ1 v x) (S : Stp F1 H1 (OA ρ1 σ) F2 H2 (OA ρ2 σ)) (E : ES ρ1 ρ2) (V2 : VOk M F2 H2 σ ρ2 w y) (N2 : VNew H1 w y) :
    VsOk M F2 H2 σ ρ2 [v, w] [x, y] := by
  refine ⟨x, [y], rfl, V1.step S E, ⟨y, [], rfl, V2, rfl, fun _ _ m => by simp at m⟩, fun w' y' m d d' e e' => ?_⟩
  simp at m
  obtain ⟨rfl, rfl⟩ := m
  subst e
  rintro rfl
  obtain ⟨a, o, rfl, _, e3, _⟩ := V1
  have := N2 d' a e' rfl
  rw [e3] at this; cases this
theorem i_op2 {o : Op} {a b : CE} {σ : L2.St} {H : Hp} {Q : VK} (h : tE M H0 W T (.op o (.cons a (.cons b .nil))) σ H Q) :
    tE M H0 W T a σ H fun x H1 => tE M H0 W T b σ H1 fun y H2 => rO2 M (fun d e => opD o [d, e]) x y H2 Q := by
  obtain ⟨F, ρ, R, p⟩ := h
  simp only [ev, evs] at p
  refine ⟨F, ρ, R, ?_⟩
  rw [show (((ev T a ρ).bind fun v ρ1 => ((ev T b ρ1).bind fun v ρ1 => (Out.ok [] ρ1 : Out (List Val)).bind fun vs ρ2 => Out.ok (v :: vs) ρ2).bind fun vs ρ2 => Out.ok (v :: vs) ρ2).bind fun vs ρ1 => lift ((rds ρ1 vs).bind (opD o)) ρ1)
    = (ev T a ρ).bind fun v ρ1 => (ev T b ρ1).bind fun w ρ2 => lift ((rds ρ2 [v, w]).bind (opD o)) ρ2 by
      cases h1 : ev T a ρ with
      | ok x ρ1 => cases h2 : ev T b ρ1 <;> simp [Out.bind, h2]
      | exc e ρ1 => rfl
      | bad => rfl] at p
  refine Post.bind p fun x ρ1 v F1 H1 R1 S1 E1 V1 p1 => ⟨F1, ρ1, R1, ?_⟩
  refine Post.bind (Post.shift p1 S1 E1 fun _ _ _ _ _ _ _ z => z) fun y ρ2 w F2 H2 R2 S2 E2 V2 p2 => ?_
  obtain ⟨F3, ds, r, h1, h2, h3, h4⟩ := op_fin (vs := [v, w]) R2 S2 E2 (two_ok V1.1 S2 E2 V2.1 V2.2) (Post.imp p2 (fun _ _ _ _ _ z => ⟨z.1, z.2.back S1⟩) fun _ _ z => z)
  obtain ⟨d, e, rfl, h5, h6⟩ := paired2 h2
  exact ⟨F3, d, e, r, h1, h5, h6, h3, h4⟩
/-- any number of operands -/
theorem i_opN {o : Op} {as : CEs} {σ : L2.St} {H : Hp} {Q : VK} (h : tE M H0 W T (.op o as) σ H Q) : tA M H0 W T as σ H fun xs H1 => rON M (opD o) xs H1 Q := by
  obtain ⟨F, ρ, R, p⟩ := h
  simp only [ev] at p
  exact ⟨F, ρ, R, Post.bind p fun x ρ1 v F1 H1 R1 S1 E1 V1 p1 => op_fin R1 S1 E1 V1.1 p1⟩
theorem memNew {H : Hp} : ∀ {vs : List V} {xs : List Val} {w : V} {y : Val}, VsNew H vs xs → (w, y) ∈ vs.zip xs → VNew H w y
  | [], _, _, _, _, m => by simp at m
  | _ :: _, [], _, _, _, m => by simp at m
  | v :: vs, x :: xs, w, y, h, m => by
    simp at m
    rcases m with ⟨rfl, rfl⟩ | m
    · exact h.1
    · exact memNew h.2 m
/-! ### argument lists -/
theorem i_nil {σ : L2.St} {H : Hp} {Q : List V → Hp → Prop} (h : tA M H0 W T .nil σ H Q) : tNil σ H Q := by
  obtain ⟨F, ρ, R, p⟩ := h
  exact p [] F H R (Stp.refl _ _ _) (ES.refl _) ⟨rfl, by unfold VsNew; trivial⟩
theorem i_cons {a : CE} {as : CEs} {σ : L2.St} {H : Hp} {Q : List V → Hp → Prop} (h : tA M H0 W T (.cons a as) σ H Q) : tCons (tE M H0 W T a) (tA M H0 W T as) σ H Q := by
  obtain ⟨F, ρ, R, p⟩ := h
  simp only [evs] at p
  refine ⟨F, ρ, R, ?_⟩
  refine Post.bind p fun x ρ1 v F1 H1 R1 S1 E1 V1 p1 => ⟨F1, ρ1, R1, ?_⟩
  refine Post.bind (Post.shift (VR' := VRs M H σ) p1 S1 E1 fun _ _ _ _ _ _ _ z => z) fun xs ρ2 vs F2 H2 R2 S2 E2 V2 p2 => ?_
  refine p2 (v :: vs) F2 H2 R2 S2 E2 ⟨⟨x, xs, rfl, V1.1.step S2 E2, V2.1, fun w y m d d' e e' => ?_⟩, V1.2, V2.2.back S1⟩
  subst e
  rintro rfl
  obtain ⟨c, o, rfl, _, e3, _⟩ := V1.1
  have q := memNew V2.2 m d' c e' rfl
  rw [e3] at q; cases q
end
end PV

set_option Elab.async false
set_option linter.all false
set_option maxRecDepth 100000
set_option maxHeartbeats 1000000
/-! PvD: tests, displays, attributes, calls. -/
namespace PV
open PySem L2
/-- what of the text is asked -/
structure Kt (M : Nm) (T : Tb) : Prop where
  inj : ∀ a b, M.an a = M.an b → a = b
  cls : ∀ C a, T.fl C a = true → Cls M.K (M.cl C) ∧ NoAttr M.K (M.cl C) (M.an a)
section
variable {M : Nm} {H0 : Hp} {W : WX} {T : Tb} {α β γ δ : Type}
theorem Post.shiftV {F H F1 H1 : Hp} {σ : L2.St} {ρ ρ1 : Env} {r : Out Val} {Q : VK} (h : Post M H0 W F H σ ρ (VR1 M H σ) r Q) (S : Stp F H (OA ρ σ) F1 H1 (OA ρ1 σ)) (E : ES ρ ρ1) : Post M H0 W F1 H1 σ ρ1 (VR1 M H1 σ) r Q :=
  h.shift S E fun _ _ _ _ _ _ _ z => ⟨z.1, z.2.back S⟩
theorem Post.shiftB {F H F1 H1 : Hp} {σ : L2.St} {ρ ρ1 : Env} {r : Out α} {Q : α → Hp → Prop} (h : Post M H0 W F H σ ρ (fun _ _ _ (x : α) b => x = b) r Q) (S : Stp F H (OA ρ σ) F1 H1 (OA ρ1 σ)) (E : ES ρ ρ1) : Post M H0 W F1 H1 σ ρ1 (fun _ _ _ (x : α) b => x = b) r Q :=
  h.shift S E fun _ _ _ _ _ _ _ z => z
/-! ### tests -/
/-- a test is a bool value -/
theorem i_test {c : CE} {σ : L2.St} {H : Hp} {Q : Bool → Hp → Prop} (h : tT M H0 W T c σ H Q) : tE M H0 W T c σ H fun x H' => ∃ k, x = .bl k ∧ Q k H' := by
  obtain ⟨F, ρ, R, p⟩ := h
  refine ⟨F, ρ, R, ?_⟩
  cases h1 : ev T c ρ with
  | exc e ρ1 => rw [h1] at p; exact p
  | bad => rw [h1] at p; exact p
  | ok x ρ1 =>
    rw [h1] at p
    cases x with
    | n d => exact p.elim
    | v i => exact p.elim
    | f d =>
      cases d with
      | bl b => exact fun v F1 H1 R1 S1 E1 V1 => ⟨b, V1.1, p b F1 H1 R1 S1 E1 rfl⟩
      | _ => exact p.elim
theorem t_val {X : Cx} {e : Expr} {c : CE} (h : PE X e (tE M H0 W T c)) (he : ∀ whole, isTrue e X.env whole = (do let v ← whole; standAt e.pos; holding [v] (truthy v))) : PT X e (tT M H0 W T c) :=
  PT.imp (pt_val h he) fun σ H Q z => i_test z
/-- truth of a value -/
theorem truth_bind {r : Out Val} {f : Bool → Env → Out α} : (r.bind fun v ρ => truth v ρ f) = (okB r).bind f := by
  cases r with
  | ok x ρ =>
    cases x with
    | f d => cases d <;> rfl
    | n d => rfl
    | v i => rfl
  | exc e ρ => rfl
  | bad => rfl
theorem i_and {a b : CE} {σ : L2.St} {H : Hp} {Q : VK} (h : tE M H0 W T (.and_ a b) σ H Q) : tAndV (tE M H0 W T a) (tE M H0 W T b) σ H Q := by
  obtain ⟨F, ρ, R, p⟩ := h
  simp only [ev] at p
  rw [truth_bind] at p
  refine i_test ⟨F, ρ, R, Post.bind p fun x ρ1 b' F1 H1 R1 S1 E1 V1 p1 => ?_⟩
  subst V1
  cases x with
  | true => exact ⟨F1, ρ1, R1, p1.shiftV S1 E1⟩
  | false => exact p1 _ F1 H1 R1 S1 E1 ⟨rfl, fun _ _ z => by cases z⟩
theorem i_or {a b : CE} {σ : L2.St} {H : Hp} {Q : VK} (h : tE M H0 W T (.or_ a b) σ H Q) : tOrV (tE M H0 W T a) (tE M H0 W T b) σ H Q := by
  obtain ⟨F, ρ, R, p⟩ := h
  simp only [ev] at p
  rw [truth_bind] at p
  refine i_test ⟨F, ρ, R, Post.bind p fun x ρ1 b' F1 H1 R1 S1 E1 V1 p1 => ?_⟩
  subst V1
  cases x with
  | false => exact ⟨F1, ρ1, R1, p1.shiftV S1 E1⟩
  | true => exact p1 _ F1 H1 R1 S1 E1 ⟨rfl, fun _ _ z => by cases z⟩
theorem i_not {a : CE} {σ : L2.St} {H : Hp} {Q : VK} (h : tE M H0 W T (.not_ a) σ H Q) : tNotV (tE M H0 W T a) σ H Q := by
  obtain ⟨F, ρ, R, p⟩ := h
  simp only [ev] at p
  rw [truth_bind] at p
  refine i_test ⟨F, ρ, R, Post.bind p fun x ρ1 b' F1 H1 R1 S1 E1 V1 p1 => ?_⟩
  subst V1
  exact p1 _ F1 H1 R1 S1 E1 ⟨rfl, fun _ _ z => by cases z⟩
theorem i_ite {c a b : CE} {σ : L2.St} {H : Hp} {Q : VK} (h : tE M H0 W T (.ite c a b) σ H Q) : tIf (tT M H0 W T c) (tE M H0 W T a) (tE M H0 W T b) σ H Q := by
  obtain ⟨F, ρ, R, p⟩ := h
  simp only [ev] at p
  rw [truth_bind] at p
  refine ⟨F, ρ, R, Post.bind p fun x ρ1 b' F1 H1 R1 S1 E1 V1 p1 => ?_⟩
  subst V1
  cases x with
  | true => exact ⟨F1, ρ1, R1, p1.shiftV S1 E1⟩
  | false => exact ⟨F1, ρ1, R1, p1.shiftV S1 E1⟩
theorem okB_and {a b : CE} {ρ : Env} : okB (ev T (.and_ a b) ρ) = (okB (ev T a ρ)).bind fun k ρ1 => if k then okB (ev T b ρ1) else .ok false ρ1 := by
  simp only [ev]
  rw [truth_bind]
  cases okB (ev T a ρ) with
  | ok k ρ1 => cases k <;> rfl
  | exc e ρ => rfl
  | bad => rfl
theorem okB_or {a b : CE} {ρ : Env} : okB (ev T (.or_ a b) ρ) = (okB (ev T a ρ)).bind fun k ρ1 => if k then .ok true ρ1 else okB (ev T b ρ1) := by
  simp only [ev]
  rw [truth_bind]
  cases okB (ev T a ρ) with
  | ok k ρ1 => cases k <;> rfl
  | exc e ρ => rfl
  | bad => rfl
theorem okB_not {a : CE} {ρ : Env} : okB (ev T (.not_ a) ρ) = (okB (ev T a ρ)).bind fun k ρ1 => .ok (!k) ρ1 := by
  simp only [ev]
  rw [truth_bind]
  cases okB (ev T a ρ) with
  | ok k ρ1 => cases k <;> rfl
  | exc e ρ => rfl
  | bad => rfl
theorem j_and {a b : CE} {σ : L2.St} {H : Hp} {Q : Bool → Hp → Prop} (h : tT M H0 W T (.and_ a b) σ H Q) : tAnd (tT M H0 W T a) (tT M H0 W T b) σ H Q := by
  obtain ⟨F, ρ, R, p⟩ := h
  rw [okB_and] at p
  refine ⟨F, ρ, R, Post.bind p fun x ρ1 b' F1 H1 R1 S1 E1 V1 p1 => ?_⟩
  subst V1
  cases x with
  | true => exact ⟨F1, ρ1, R1, p1.shiftB S1 E1⟩
  | false => exact p1 _ F1 H1 R1 S1 E1 rfl
theorem j_or {a b : CE} {σ : L2.St} {H : Hp} {Q : Bool → Hp → Prop} (h : tT M H0 W T (.or_ a b) σ H Q) : tOr (tT M H0 W T a) (tT M H0 W T b) σ H Q := by
  obtain ⟨F, ρ, R, p⟩ := h
  rw [okB_or] at p
  refine ⟨F, ρ, R, Post.bind p fun x ρ1 b' F1 H1 R1 S1 E1 V1 p1 => ?_⟩
  subst V1
  cases x with
  | false => exact ⟨F1, ρ1, R1, p1.shiftB S1 E1⟩
  | true => exact p1 _ F1 H1 R1 S1 E1 rfl
theorem j_not {a : CE} {σ : L2.St} {H : Hp} {Q : Bool → Hp → Prop} (h : tT M H0 W T (.not_ a) σ H Q) : tNot (tT M H0 W T a) σ H Q := by
  obtain ⟨F, ρ, R, p⟩ := h
  rw [okB_not] at p
  refine ⟨F, ρ, R, Post.bind p fun x ρ1 b' F1 H1 R1 S1 E1 V1 p1 => ?_⟩
  subst V1
  exact p1 _ F1 H1 R1 S1 E1 rfl
/-! ### chains -/
theorem i_chn {o o' : Op} {a b c : CE} {σ : L2.St} {H : Hp} {Q : VK} (h : tE M H0 W T (.chn o o' a b c) σ H Q) :
    tChain (rO2 M fun d e => opD o [d, e]) (rO2 M fun d e => opD o' [d, e]) (tE M H0 W T a) (tE M H0 W T b) (tE M H0 W T c) σ H Q := by
  obtain ⟨F, ρ, R, p⟩ := h
  simp only [ev] at p
  refine ⟨F, ρ, R, Post.bind p fun x ρ1 v F1 H1 R1 S1 E1 V1 p1 => ⟨F1, ρ1, R1, ?_⟩⟩
  refine Post.bind (p1.shiftV S1 E1) fun y ρ2 w F2 H2 R2 S2 E2 V2 p2 => ?_
  have V12 : VsOk M F2 H2 σ ρ2 [v, w] [x, y] := two_ok V1.1 S2 E2 V2.1 V2.2
  have p3 := p2.shiftV S2 E2
  cases h1 : rds ρ2 [x, y] with
  | none => simp only [h1, Option.bind, lift, Out.bind] at p3; exact p3.elim
  | some ds =>
    have h2 := V12.rts R2 h1
    obtain ⟨d, e, rfl, h3, h4⟩ := paired2 h2
    cases g : opD o [d, e] with
    | none => simp only [h1, g, Option.bind, lift, Out.bind] at p3; exact p3.elim
    | some r =>
      simp only [h1, g, Option.bind, lift, Out.bind] at p3
      cases r with
      | n q => exact p3.elim
      | v q => exact p3.elim
      | f q =>
        cases q with
        | bl k =>
          refine ⟨F2, d, e, _, R2.sub, h3, h4, g, fun z F3 H3 op => ?_⟩
          obtain ⟨R3, S3, v3, _⟩ := OpPost.rel R2 op
          have hz : z = .bl k := v3
          refine ⟨k, hz, ?_⟩
          have p4 := p3.shiftV S3 (ES.refl ρ2)
          cases k with
          | false => exact p4 _ F3 H3 R3 (Stp.refl _ _ _) (ES.refl _) ⟨rfl, fun _ _ z => by cases z⟩
          | true =>
            show tE M H0 W T c σ H3 _
            refine ⟨F3, ρ2, R3, ?_⟩
            refine Post.bind p4 fun u ρ4 t F4 H4 R4 S4 E4 V4 p5 => ?_
            have Vy : VOk M F3 H3 σ ρ2 w y := V2.1.step S3 (ES.refl _)
            obtain ⟨F5, ds, r, g1, g2, g3, g4⟩ := op_fin (vs := [w, t]) R4 S4 E4 (two_ok Vy S4 E4 V4.1 V4.2) p5
            obtain ⟨d', e', rfl, g5, g6⟩ := paired2 g2
            exact ⟨F5, d', e', r, g1, g5, g6, g3, g4⟩
        | _ => exact p3.elim
/-! ### displays -/
theorem LIM_line : LIM ≤ sizeLine := by rw [sizeLine_eq]; decide
theorem i_lst {es : CEs} {σ : L2.St} {H : Hp} {Q : VK} (h : tE M H0 W T (.lst es) σ H Q) : tLst (tA M H0 W T es) σ H Q := by
  obtain ⟨F, ρ, R, p⟩ := h
  simp only [ev] at p
  refine ⟨F, ρ, R, Post.bind p fun xs ρ1 vs F1 H1 R1 S1 E1 V1 p1 => ?_⟩
  cases h1 : frs ρ1 xs with
  | none => simp only [h1] at p1; exact p1.elim
  | some q =>
    obtain ⟨ds, ρ2⟩ := q
    obtain ⟨F2, R2, S2, E2, P2, L2, O2⟩ := frs_ok R1 S1 V1.1 V1.2 h1
    simp only [h1] at p1
    have hl := P2.length
    by_cases hz : ds.length ≤ LIM
    · rw [if_pos hz] at p1
      refine ⟨by have := LIM_line; omega, fun a ha => ?_⟩
      obtain ⟨R3, S3⟩ := R2.alloc (o := .lst vs) ha
      have op : OpPost M F2 H1 (.n (.lst ds)) (.ref a) F2 (upd H1 a (.lst vs)) := ⟨a, _, rfl, ha, rfl, rfl, P2⟩
      obtain ⟨R4, S4, v4, n4⟩ := OpPost.rel R2 op
      exact p1 _ F2 _ R4 (S2.trans S4) (E1.trans E2) ⟨v4, n4.back S2⟩
    · rw [if_neg hz] at p1; exact p1.elim
theorem i_tup {es : CEs} {σ : L2.St} {H : Hp} {Q : VK} (h : tE M H0 W T (.tup es) σ H Q) : tTup (tA M H0 W T es) σ H Q := by
  obtain ⟨F, ρ, R, p⟩ := h
  simp only [ev] at p
  refine ⟨F, ρ, R, Post.bind p fun xs ρ1 vs F1 H1 R1 S1 E1 V1 p1 => ?_⟩
  cases h1 : frs ρ1 xs with
  | none => simp only [h1] at p1; exact p1.elim
  | some q =>
    obtain ⟨ds, ρ2⟩ := q
    obtain ⟨F2, R2, S2, E2, P2, L2, O2⟩ := frs_ok R1 S1 V1.1 V1.2 h1
    simp only [h1] at p1
    have hl := P2.length
    by_cases hz : ds.length ≤ LIM
    · rw [if_pos hz] at p1
      refine ⟨by have := LIM_line; omega, fun a ha => ?_⟩
      have fa := R2.sub.d a ha
      have op : OpPost M F2 H1 (.f (.tup ds)) (.ref a) (upd F2 a (.tup vs)) (upd H1 a (.tup vs)) :=
        ⟨⟨a, vs, rfl, upd_same, Reps.mono (Le.new fa) _ _ P2⟩, .inr ⟨a, _, ha, rfl, rfl⟩⟩
      obtain ⟨R4, S4, v4, n4⟩ := OpPost.rel R2 op
      exact p1 _ _ _ R4 (S2.trans S4) (E1.trans E2) ⟨v4, n4.back S2⟩
    · rw [if_neg hz] at p1; exact p1.elim
theorem i_dnK {σ : L2.St} {H : Hp} {Q : VK} (h : tE M H0 W T (.dctN false) σ H Q) : tDNewK σ H Q := by
  obtain ⟨F, ρ, R, p⟩ := h
  intro a ha
  have op : OpPost M F H (.n (.dct [])) (.ref a) F (upd H a (.dK [])) := ⟨a, _, rfl, ha, rfl, rfl, rfl⟩
  obtain ⟨R4, S4, v4, n4⟩ := OpPost.rel R op
  exact p _ _ _ R4 S4 (ES.refl _) ⟨v4, n4⟩
theorem i_dnT {σ : L2.St} {H : Hp} {Q : VK} (h : tE M H0 W T (.dctN true) σ H Q) : tDNewT σ H Q := by
  obtain ⟨F, ρ, R, p⟩ := h
  intro a ha
  have op : OpPost M F H (.n (.dcT [])) (.ref a) F (upd H a (.dT [])) := ⟨a, _, rfl, ha, rfl, rfl, rfl⟩
  obtain ⟨R4, S4, v4, n4⟩ := OpPost.rel R op
  exact p _ _ _ R4 S4 (ES.refl _) ⟨v4, n4⟩
/-! ### attributes -/
theorem lookup_repA (kt : ∀ a b, M.an a = M.an b → a = b) {F : Hp} : ∀ {fs : List (Nat × D)} {ws : List (Str × V)} {a : Nat} {d : D}, RepA M F fs ws → getF fs a = some d → ∃ v, ws.lookup (M.an a) = some v ∧ Rep M F d v
  | [], _, _, _, _, e => by cases e
  | (k, x) :: fs, _, a, d, ⟨v, ws, q, r, rs⟩, e => by
    subst q
    by_cases h : k = a
    · subst h
      simp [getF] at e
      subst e
      exact ⟨v, by simp, r⟩
    · simp [getF, h] at e
      obtain ⟨w, h1, h2⟩ := lookup_repA kt rs e
      refine ⟨w, ?_, h2⟩
      have hb : (M.an a == M.an k) = false := beq_eq_false_iff_ne.mpr fun z => h (kt _ _ z.symm)
      simp only [List.lookup, hb]
      exact h1
theorem i_fld (kt : Kt M T) {a : Nat} {e : CE} {σ : L2.St} {H : Hp} {Q : VK} (h : tE M H0 W T (.fld a e) σ H Q) : tFld M.K (tE M H0 W T e) (M.an a) σ H Q := by
  obtain ⟨F, ρ, R, p⟩ := h
  simp only [ev] at p
  refine ⟨F, ρ, R, Post.bind p fun x ρ1 v F1 H1 R1 S1 E1 V1 p1 => ?_⟩
  cases h1 : rd ρ1 x with
  | none => simp only [h1] at p1; exact p1.elim
  | some d =>
    cases d with
    | obj C fs =>
      simp only [h1] at p1
      by_cases hf : T.fl C a = true
      · rw [if_pos hf] at p1
        cases h2 : getF fs a with
        | none => simp only [h2] at p1; exact p1.elim
        | some d =>
          simp only [h2] at p1
          obtain ⟨b, dx, ws, rfl, h3, h4⟩ := (V1.1.rt R1 h1).obj R1.sub
          obtain ⟨w, h5, h6⟩ := lookup_repA kt.inj h4 h2
          obtain ⟨k1, k2⟩ := kt.cls C a hf
          exact ⟨b, _, dx, ws, w, rfl, h3, k1, k2, h5, p1 _ _ _ R1 S1 E1 ⟨h6, fun _ _ z => by cases z⟩⟩
      · rw [if_neg hf] at p1; exact p1.elim
    | _ => simp only [h1] at p1; exact p1.elim
end
end PV

set_option Elab.async false
set_option linter.all false
set_option maxRecDepth 100000
set_option maxHeartbeats 1000000
/-! PvE: calls: what a def promises in the small language, arguments lent, the frame behind. -/
namespace PV
open PySem L2

/-! ### the promise of a def -/
def ArgOk (M : Nm) (F H : Hp) (v : V) : Slot → Prop
  | .fz d => Rep M F d v
  | .ow d => ∃ a o, v = .ref a ∧ F a = none ∧ H a = some o ∧ RepTop M F d o
  | _ => False
/-- the places of the objects that are lent -/
def AO (vs : List V) (as : List Slot) (a : Addr) : Prop := ∃ (i : Nat) (d : D), as[i]? = some (.ow d) ∧ vs[i]? = some (.ref a)
def Dist (vs : List V) (as : List Slot) : Prop := ∀ (i j : Nat) (d d' : D) (a : Addr), as[i]? = some (.ow d) → as[j]? = some (.ow d') → vs[i]? = some (.ref a) → vs[j]? = some (.ref a) → i = j
/-- what was lent, behind the call -/
def OutOk (M : Nm) (F' H' : Hp) (vs : List V) (as os : List Slot) : Prop := ∀ (i : Nat) (d : D), as[i]? = some (.ow d) → ∃ d' a o, os[i]? = some (.ow d') ∧ vs[i]? = some (.ref a) ∧ F' a = none ∧ H' a = some o ∧ RepTop M F' d' o
def ResOk (M : Nm) (H F' H' : Hp) (v : V) : Val → Prop
  | .f d => Rep M F' d v
  | .n d => ∃ a o, v = .ref a ∧ H a = none ∧ F' a = none ∧ H' a = some o ∧ RepTop M F' d o
  | .v _ => False
def spOf (M : Nm) (φ : List Slot → FOut) : Sp := fun vs H Q E => ∃ F as, Le F H ∧ vs.length = as.length ∧ (∀ (i : Nat) (v : V) (s : Slot), vs[i]? = some v → as[i]? = some s → ArgOk M F H v s) ∧ Dist vs as ∧
  match φ as with
  | .ok r os => ∀ v F' H', Le F' H' → Stp F H (AO vs as) F' H' (AO vs as) → OutOk M F' H' vs as os → ResOk M H F' H' v r → Q v H'
  | .exc e os => ∀ cls d F' H', Le F' H' → Stp F H (AO vs as) F' H' (AO vs as) → OutOk M F' H' vs as os → XOk M F' H' e cls d → E cls d H'
  | .bad => False

/-! ### lending -/
def Lent (M : Nm) (F : Hp) (ρ : Env) (σ : L2.St) : List Nat → List V → List Val → List Slot → Prop
  | _, [], [], [] => True
  | u, v :: vs, x :: xs, .fz d :: as => Rep M F d v ∧ Lent M F ρ σ u vs xs as
  | u, v :: vs, .v i :: xs, .ow d :: as => i ∉ u ∧ (slotAt ρ i = .ow d ∨ slotAt ρ i = .pw d) ∧ σ[i]? = some (some v) ∧ Lent M F ρ σ (i :: u) vs xs as
  | _, _, _, _ => False
section
variable {M : Nm} {H0 : Hp} {W : WX} {T : Tb}
theorem Lent.mono {F F' : Hp} {ρ ρ' : Env} {σ : L2.St} (l : Le F F') : ∀ {u : List Nat} {vs : List V} {xs : List Val} {as : List Slot}, (∀ i, i ∉ u → ∀ d, slotAt ρ i = .ow d ∨ slotAt ρ i = .pw d → slotAt ρ' i = slotAt ρ i) → Lent M F ρ σ u vs xs as → Lent M F' ρ' σ u vs xs as := by
  intro u vs
  induction vs generalizing u with
  | nil => intro xs as _ h; cases xs <;> cases as <;> exact h
  | cons v vs ih =>
    intro xs as k h
    cases xs with
    | nil => cases as <;> exact h.elim
    | cons x xs =>
      cases as with
      | nil => cases x <;> exact h.elim
      | cons a as =>
        cases a with
        | fz d => cases x <;> exact ⟨Rep.mono l _ _ h.1, ih k h.2⟩
        | ow d =>
          cases x with
          | v i =>
            obtain ⟨h1, h2, h3, h4⟩ := h
            exact ⟨h1, by rw [k i h1 d h2]; exact h2, h3, ih (fun j hj => k j fun z => hj (List.mem_cons_of_mem _ z)) h4⟩
          | _ => exact h.elim
        | _ => cases x <;> exact h.elim
theorem lend_ok {Fs Hs H : Hp} {As : Addr → Prop} {σ : L2.St} : ∀ {xs : List Val} {vs : List V} {k : List Bool} {u : List Nat} {F : Hp} {ρ ρ' : Env} {as : List Slot}, Rel M H0 F H σ ρ → Stp Fs Hs As F H (OA ρ σ) → VsOk M F H σ ρ vs xs → VsNew Hs vs xs →
    lend ρ u k xs = some (as, ρ') → ∃ F', Rel M H0 F' H σ ρ' ∧ Stp Fs Hs As F' H (OA ρ' σ) ∧ ES ρ ρ' ∧ Le F F' ∧ Lent M F' ρ' σ u vs xs as ∧ ∀ i ∈ u, slotAt ρ' i = slotAt ρ i
  | [], vs, k, u, F, ρ, ρ', as, R, S, h, _, e => by
    cases vs with
    | cons v vs => obtain ⟨x, ys, q, _⟩ := h; cases q
    | nil =>
      unfold lend at e; cases e
      exact ⟨F, R, S, ES.refl _, Le.refl _, True.intro, fun _ _ => rfl⟩
  | x :: xs, vs, k, u, F, ρ, ρ', as, R, S, h, hn, e => by
    cases vs with
    | nil => cases h
    | cons v vs =>
    obtain ⟨x', ys, q, h, r, n⟩ := h
    cases q
    obtain ⟨hn1, hn2⟩ := hn
    -- a value that is frozen first
    have frozen : ∀ {d : D} {ρ1 : Env} {as' : List Slot}, fr ρ x = some (d, ρ1) → (∀ i ∈ u, slotAt ρ1 i = slotAt ρ i) → lend ρ1 u k.tail xs = some (as', ρ') →
        ∃ F', Rel M H0 F' H σ ρ' ∧ Stp Fs Hs As F' H (OA ρ' σ) ∧ ES ρ ρ' ∧ Le F F' ∧ Lent M F' ρ' σ u (v :: vs) (x :: xs) (.fz d :: as') ∧ ∀ i ∈ u, slotAt ρ' i = slotAt ρ i := fun {d ρ1 as'} h1 hu h2 => by
      obtain ⟨F1, z⟩ := fr_ok R S h hn1 h1
      have keep : ∀ {vs : List V} {ys : List Val}, VsOk M F H σ ρ vs ys → (∀ w y, (w, y) ∈ vs.zip ys → ∀ d d', x = .n d → y = .n d' → w ≠ v) → VsOk M F1 H σ ρ1 vs ys := by
        intro vs
        induction vs with
        | nil => intro ys h _; exact h
        | cons w vs ih =>
          rintro ys ⟨y, ys', rfl, g, gr, gn⟩ m
          exact ⟨y, ys', rfl, z.keep g (fun d d' e e' => m w y (by simp) d d' e e'), ih gr (fun w' y' hm => m w' y' (by simp [hm])), gn⟩
      obtain ⟨F2, R2, S2, E2, L2, P2, U2⟩ := lend_ok z.rel z.stp (keep r n) hn2 h2
      exact ⟨F2, R2, S2, z.es.trans E2, z.le.trans L2, ⟨Rep.mono L2 _ _ z.rep, P2⟩, fun i hi => (U2 i hi).trans (hu i hi)⟩
    have plain : ∀ {d : D}, fr ρ x = some (d, ρ) → (lend ρ u k.tail xs).map (fun p => (Slot.fz d :: p.1, p.2)) = some (as, ρ') →
        ∃ F', Rel M H0 F' H σ ρ' ∧ Stp Fs Hs As F' H (OA ρ' σ) ∧ ES ρ ρ' ∧ Le F F' ∧ Lent M F' ρ' σ u (v :: vs) (x :: xs) as ∧ ∀ i ∈ u, slotAt ρ' i = slotAt ρ i := fun {d} h1 h2 => by
      obtain ⟨⟨as', ρ2⟩, h3, h4⟩ := Option.map_eq_some_iff.mp h2
      cases h4
      exact frozen h1 (fun _ _ => rfl) h3
    -- lent
    have lent : ∀ {i : Nat} {d : D} {as' : List Slot}, x = .v i → (slotAt ρ i = .ow d ∨ slotAt ρ i = .pw d) → i ∉ u → lend ρ (i :: u) k.tail xs = some (as', ρ') →
        ∃ F', Rel M H0 F' H σ ρ' ∧ Stp Fs Hs As F' H (OA ρ' σ) ∧ ES ρ ρ' ∧ Le F F' ∧ Lent M F' ρ' σ u (v :: vs) (x :: xs) (.ow d :: as') ∧ ∀ i ∈ u, slotAt ρ' i = slotAt ρ i := fun {i d as'} hx hs hu h2 => by
      obtain ⟨F2, R2, S2, E2, L2, P2, U2⟩ := lend_ok R S r hn2 h2
      subst hx
      exact ⟨F2, R2, S2, E2, L2, ⟨hu, by rw [U2 i List.mem_cons_self]; exact hs, h.1, P2⟩, fun j hj => U2 j (List.mem_cons_of_mem _ hj)⟩
    unfold lend at e
    cases x with
    | f d =>
      have e' : (lend ρ u k.tail xs).map (fun p => (Slot.fz d :: p.1, p.2)) = some (as, ρ') := by
        cases hk : k.headD false <;> (simp only [hk] at e; exact e)
      exact plain rfl e'
    | n d =>
      have e' : (lend ρ u k.tail xs).map (fun p => (Slot.fz d :: p.1, p.2)) = some (as, ρ') := by
        cases hk : k.headD false <;> (simp only [hk] at e; exact e)
      exact plain rfl e'
    | v i =>
      cases hk : k.headD false with
      | false =>
        simp only [hk] at e
        by_cases hu : i ∈ u
        · rw [if_pos hu] at e; cases e
        · rw [if_neg hu] at e
          cases h1 : fr ρ (.v i) with
          | none => simp only [h1] at e; cases e
          | some p =>
            obtain ⟨d, ρ1⟩ := p
            simp only [h1] at e
            obtain ⟨⟨as', ρ2⟩, h3, h4⟩ := Option.map_eq_some_iff.mp e
            cases h4
            refine frozen h1 (fun j hj => ?_) h3
            have ne : j ≠ i := fun z => hu (z ▸ hj)
            cases q : slotAt ρ i with
            | no => simp [fr, q] at h1
            | pw d' => simp [fr, q] at h1
            | fz d' => simp [fr, q] at h1; rw [h1.2]
            | ow d' =>
              simp [fr, q] at h1
              rw [← h1.2, slotAt_set, if_neg fun z => ne z.1]
      | true =>
        simp only [hk] at e
        cases q : slotAt ρ i with
        | no => simp only [q] at e; cases e
        | fz d =>
          simp only [q] at e
          exact plain (by simp [fr, q]) e
        | ow d =>
          simp only [q] at e
          by_cases hu : i ∈ u
          · rw [if_pos hu] at e; cases e
          · rw [if_neg hu] at e
            obtain ⟨⟨as', ρ2⟩, h3, h4⟩ := Option.map_eq_some_iff.mp e
            cases h4
            exact lent rfl (.inl q) hu h3
        | pw d =>
          simp only [q] at e
          by_cases hu : i ∈ u
          · rw [if_pos hu] at e; cases e
          · rw [if_neg hu] at e
            obtain ⟨⟨as', ρ2⟩, h3, h4⟩ := Option.map_eq_some_iff.mp e
            cases h4
            exact lent rfl (.inr q) hu h3
theorem Lent.len {F : Hp} {ρ : Env} {σ : L2.St} : ∀ {u : List Nat} {vs : List V} {xs : List Val} {as : List Slot}, Lent M F ρ σ u vs xs as → vs.length = as.length ∧ xs.length = as.length := by
  intro u vs
  induction vs generalizing u with
  | nil => intro xs as h; cases xs <;> cases as <;> first | exact ⟨rfl, rfl⟩ | exact h.elim
  | cons v vs ih =>
    intro xs as h
    cases xs with
    | nil => cases as <;> exact h.elim
    | cons x xs =>
      cases as with
      | nil => cases x <;> exact h.elim
      | cons a as =>
        cases a with
        | fz d => obtain ⟨p, q⟩ := ih (by cases x <;> exact h.2); exact ⟨by simp [p], by simp [q]⟩
        | ow d =>
          cases x with
          | v i => obtain ⟨p, q⟩ := ih h.2.2.2; exact ⟨by simp [p], by simp [q]⟩
          | _ => exact h.elim
        | _ => cases x <;> exact h.elim
/-- what stands at one place -/
theorem Lent.at {F : Hp} {ρ : Env} {σ : L2.St} : ∀ {u : List Nat} {vs : List V} {xs : List Val} {as : List Slot} {j : Nat} {v : V} {s : Slot}, Lent M F ρ σ u vs xs as → vs[j]? = some v → as[j]? = some s →
    (∃ d, s = .fz d ∧ Rep M F d v) ∨ ∃ d i, s = .ow d ∧ xs[j]? = some (.v i) ∧ i ∉ u ∧ (slotAt ρ i = .ow d ∨ slotAt ρ i = .pw d) ∧ σ[i]? = some (some v) := by
  intro u vs
  induction vs generalizing u with
  | nil => intro xs as j v s h e; simp at e
  | cons w vs ih =>
    intro xs as j v s h e e'
    cases xs with
    | nil => cases as <;> exact h.elim
    | cons x xs =>
      cases as with
      | nil => simp at e'
      | cons a as =>
        cases a with
        | fz d =>
          have h' : Rep M F d w ∧ Lent M F ρ σ u vs xs as := by cases x <;> exact h
          cases j with
          | zero => simp at e e'; subst e e'; exact .inl ⟨d, rfl, h'.1⟩
          | succ j => simp at e e'; simpa using ih h'.2 e e'
        | ow d =>
          cases x with
          | v i =>
            obtain ⟨h1, h2, h3, h4⟩ := h
            cases j with
            | zero => simp at e e'; subst e e'; exact .inr ⟨d, i, rfl, by simp, h1, h2, h3⟩
            | succ j =>
              simp at e e'
              rcases ih h4 e e' with g | ⟨d', i', g1, g2, g3, g4, g5⟩
              · exact .inl g
              · exact .inr ⟨d', i', g1, by simpa using g2, fun z => g3 (List.mem_cons_of_mem _ z), g4, g5⟩
          | _ => exact h.elim
        | _ => cases x <;> exact h.elim
/-- two that are lent are two slots -/
theorem Lent.inj {F : Hp} {ρ : Env} {σ : L2.St} : ∀ {u : List Nat} {vs : List V} {xs : List Val} {as : List Slot} {j k : Nat} {i : Nat} {d d' : D}, Lent M F ρ σ u vs xs as → as[j]? = some (.ow d) → as[k]? = some (.ow d') → xs[j]? = some (.v i) → xs[k]? = some (.v i) → j = k := by
  intro u vs
  induction vs generalizing u with
  | nil => intro xs as j k i d d' h e; cases xs <;> cases as <;> first | (simp at e; done) | exact h.elim
  | cons w vs ih =>
    intro xs as j k i d d' h e e' f f'
    cases xs with
    | nil => cases as <;> exact h.elim
    | cons x xs =>
      cases as with
      | nil => simp at e
      | cons a as =>
        cases a with
        | fz q =>
          have h' : Lent M F ρ σ u vs xs as := by cases x <;> exact h.2
          cases j with
          | zero => simp at e
          | succ j =>
            cases k with
            | zero => simp at e'
            | succ k => simp at e e' f f'; rw [ih h' e e' f f']
        | ow q =>
          cases x with
          | v m =>
            obtain ⟨h1, h2, h3, h4⟩ := h
            have other : ∀ {j : Nat} {d : D}, as[j]? = some (.ow d) → xs[j]? = some (.v m) → False := fun {j d} g g' => by
              have hl := h4.len
              obtain ⟨v, hv⟩ : ∃ v, vs[j]? = some v := by
                have : j < as.length := (List.getElem?_eq_some_iff.mp g).1
                exact ⟨vs[j]'(by omega), by simp [show j < vs.length by omega]⟩
              rcases h4.at hv g with ⟨_, z, _⟩ | ⟨_, i', _, z, nz, _⟩
              · cases z
              · rw [g'] at z; cases z; exact nz List.mem_cons_self
            cases j with
            | zero =>
              cases k with
              | zero => rfl
              | succ k => simp at f f'; subst f; exact (other (by simpa using e') f').elim
            | succ j =>
              cases k with
              | zero => simp at f f'; subst f'; exact (other (by simpa using e) f).elim
              | succ k => simp at e e' f f'; rw [ih h4 e e' f f']
          | _ => exact h.elim
        | _ => cases x <;> exact h.elim
theorem Lent.dist {F H : Hp} {ρ : Env} {σ : L2.St} {u : List Nat} {vs : List V} {xs : List Val} {as : List Slot} (R : Rel M H0 F H σ ρ) (h : Lent M F ρ σ u vs xs as) : Dist vs as := by
  intro i j d d' a e e' f f'
  rcases h.at f e with ⟨_, z, _⟩ | ⟨q, m, z, g1, _, g2, g3⟩
  · cases z
  rcases h.at f' e' with ⟨_, z', _⟩ | ⟨q', m', z', g1', _, g2', g3'⟩
  · cases z'
  have : m = m' := R.dist m m' a (by rcases g2 with g | g <;> (rw [g]; exact True.intro)) (by rcases g2' with g | g <;> (rw [g]; exact True.intro)) g3 g3'
  subst this
  exact h.inj e e' g1 g1'
theorem Lent.args {F H : Hp} {ρ : Env} {σ : L2.St} {u : List Nat} {vs : List V} {xs : List Val} {as : List Slot} (R : Rel M H0 F H σ ρ) (h : Lent M F ρ σ u vs xs as) : ∀ (i : Nat) (v : V) (s : Slot), vs[i]? = some v → as[i]? = some s → ArgOk M F H v s := by
  intro i v s e e'
  rcases h.at e e' with ⟨d, rfl, r⟩ | ⟨d, m, rfl, g1, _, g2, g3⟩
  · exact r
  · obtain ⟨a, o, q1, q2, q3, q4⟩ := R.ow m d g2
    rw [g3] at q1; cases q1
    exact ⟨a, o, rfl, q2, q3, q4⟩
theorem Lent.ao {F : Hp} {ρ : Env} {σ : L2.St} {u : List Nat} {vs : List V} {xs : List Val} {as : List Slot} (h : Lent M F ρ σ u vs xs as) {a : Addr} (z : AO vs as a) : OA ρ σ a := by
  obtain ⟨i, d, e, f⟩ := z
  rcases h.at f e with ⟨_, z, _⟩ | ⟨q, m, z, g1, _, g2, g3⟩
  · cases z
  · exact ⟨m, by rcases g2 with g | g <;> (rw [g]; exact True.intro), g3⟩

/-! ### behind the call -/
def kindSet : Slot → D → Slot
  | .ow _, d => .ow d | .pw _, d => .pw d | s, _ => s
/-- a slot that was not lent is as it was, one that was lent has what came back -/
theorem back_at {F : Hp} {σ : L2.St} : ∀ {vs : List V} {xs : List Val} {as os : List Slot} {ρ : Env} {u : List Nat}, Lent M F ρ σ u vs xs as → (∀ (j : Nat) (d : D), as[j]? = some (.ow d) → ∃ d', os[j]? = some (.ow d')) → ∀ i,
    (slotAt (back ρ xs as os) i = slotAt ρ i ∧ ∀ (j : Nat) (d : D), as[j]? = some (.ow d) → xs[j]? ≠ some (.v i)) ∨
      (i ∉ u ∧ ∃ (j : Nat) (d d' : D), as[j]? = some (.ow d) ∧ os[j]? = some (.ow d') ∧ xs[j]? = some (.v i) ∧ slotAt (back ρ xs as os) i = kindSet (slotAt ρ i) d') := by
  intro vs
  induction vs with
  | nil =>
    intro xs as os ρ u h ho i
    cases xs <;> cases as <;> first | exact h.elim | exact .inl ⟨by unfold back; rfl, fun j d e => by simp at e⟩
  | cons w vs ih =>
    intro xs as os ρ u h ho i
    cases xs with
    | nil => cases as <;> exact h.elim
    | cons x xs =>
      cases as with
      | nil => cases x <;> exact h.elim
      | cons a as =>
        cases os with
        | nil =>
          have no : ∀ (j : Nat) (d : D), (a :: as)[j]? ≠ some (.ow d) := fun j d e => by
            obtain ⟨d', z⟩ := ho j d e
            simp at z
          exact .inl ⟨by cases x <;> cases a <;> rfl, fun j d e => absurd e (no j d)⟩
        | cons o os =>
        cases a with
        | fz q =>
          have h' : Lent M F ρ σ u vs xs as := by cases x <;> exact h.2
          have eb : back ρ (x :: xs) (.fz q :: as) (o :: os) = back ρ xs as os := by cases x <;> rfl
          rw [eb]
          rcases ih (os := os) h' (fun j d e => by simpa using ho (j + 1) d (by simpa using e)) i with ⟨g1, g2⟩ | ⟨g0, j, d, d', g1, g2, g3, g4⟩
          · refine .inl ⟨g1, fun j d e => ?_⟩
            cases j with
            | zero => simp at e
            | succ j => simpa using g2 j d (by simpa using e)
          · exact .inr ⟨g0, j + 1, d, d', by simpa using g1, by simpa using g2, by simpa using g3, g4⟩
        | ow q =>
          cases x with
          | v m =>
            obtain ⟨h1, h2, h3, h4⟩ := h
            obtain ⟨q', hq⟩ := ho 0 q (by simp)
            simp at hq; subst hq
            have hm : m < ρ.length := slotAt_lt (by rcases h2 with g | g <;> (rw [g]; intro z; cases z))
            have eb : back ρ (.v m :: xs) (.ow q :: as) (.ow q' :: os) = back (ρ.set m (kindSet (slotAt ρ m) q')) xs as os := by
              show back (backS ρ m (.ow q')) xs as os = _
              unfold backS
              rcases h2 with g | g <;> (rw [g]; rfl)
            rw [eb]
            have at' : ∀ j, slotAt (ρ.set m (kindSet (slotAt ρ m) q')) j = if j = m then kindSet (slotAt ρ m) q' else slotAt ρ j := fun j => by
              rw [slotAt_set]; by_cases z : j = m <;> simp [z, hm]
            have h4' : Lent M F (ρ.set m (kindSet (slotAt ρ m) q')) σ (m :: u) vs xs as := h4.mono (Le.refl F) fun j hj d _ => by
              have ne : j ≠ m := fun z => hj (by rw [z]; exact List.mem_cons_self)
              rw [at', if_neg ne]
            rcases ih (os := os) h4' (fun j d e => by simpa using ho (j + 1) d (by simpa using e)) i with ⟨g1, g2⟩ | ⟨g0, j, d, d', g1, g2, g3, g4⟩
            · by_cases z : i = m
              · subst z
                refine .inr ⟨h1, 0, q, q', by simp, by simp, by simp, ?_⟩
                rw [g1, at', if_pos rfl]
              · refine .inl ⟨by rw [g1, at', if_neg z], fun j d e => ?_⟩
                cases j with
                | zero => simp; exact fun y => z y.symm
                | succ j => simpa using g2 j d (by simpa using e)
            · have nz : i ≠ m := fun z => g0 (z ▸ List.mem_cons_self)
              refine .inr ⟨fun z => g0 (List.mem_cons_of_mem _ z), j + 1, d, d', by simpa using g1, by simpa using g2, by simpa using g3, ?_⟩
              rw [g4, at', if_neg nz]
          | _ => exact h.elim
        | _ => cases x <;> exact h.elim
theorem back_len : ∀ {xs : List Val} {as os : List Slot} {ρ : Env}, (back ρ xs as os).length = ρ.length
  | [], _, _, _ => by unfold back; rfl
  | x :: xs, [], os, ρ => by cases x <;> rfl
  | x :: xs, a :: as, [], ρ => by cases x <;> cases a <;> rfl
  | x :: xs, a :: as, o :: os, ρ => by
    have keep : (back ρ xs as os).length = ρ.length := back_len
    cases x with
    | v i =>
      cases a with
      | ow d =>
        show (back (backS ρ i o) xs as os).length = _
        rw [back_len]
        unfold backS
        cases o <;> first | rfl | (cases slotAt ρ i <;> first | rfl | simp)
      | _ => exact keep
    | _ => exact keep
theorem back_ok {F H F' H' : Hp} {σ : L2.St} {ρ : Env} {vs : List V} {xs : List Val} {as os : List Slot} (R : Rel M H0 F H σ ρ) (L : Lent M F ρ σ [] vs xs as) (le : Le F' H') (S : Stp F H (AO vs as) F' H' (AO vs as)) (O : OutOk M F' H' vs as os) :
    Rel M H0 F' H' σ (back ρ xs as os) ∧ Stp F H (OA ρ σ) F' H' (OA (back ρ xs as os) σ) ∧ ES ρ (back ρ xs as os) := by
  have A := back_at (os := os) L (fun j d e => let ⟨d', _, _, h, _⟩ := O j d e; ⟨d', h⟩)
  have kown : ∀ {s : Slot} {d : D}, IsOwn (kindSet s d) → IsOwn s := fun {s d} h => by cases s <;> first | exact h | exact True.intro
  have own : ∀ i, IsOwn (slotAt (back ρ xs as os) i) → IsOwn (slotAt ρ i) := fun i h => by
    rcases A i with ⟨g, _⟩ | ⟨_, j, d, d', _, _, _, g⟩
    · rw [g] at h; exact h
    · rw [g] at h; exact kown h
  -- what is lent at j is the slot's own object
  have slotOf : ∀ {i j : Nat} {d : D}, as[j]? = some (.ow d) → xs[j]? = some (.v i) → (slotAt ρ i = .ow d ∨ slotAt ρ i = .pw d) ∧ ∃ v, vs[j]? = some v ∧ σ[i]? = some (some v) := fun {i j d} e e' => by
    have hj : j < as.length := (List.getElem?_eq_some_iff.mp e).1
    have hv : j < vs.length := by rw [L.len.1]; exact hj
    rcases L.at (v := vs[j]) (by simp [hv]) e with ⟨_, z, _⟩ | ⟨q, m, z, g1, _, g2, g3⟩
    · cases z
    · cases z
      rw [e'] at g1; cases g1
      exact ⟨g2, _, by simp [hv], g3⟩
  refine ⟨⟨le, by rw [back_len]; exact R.len, fun i d z => ?_, fun i d z => ?_, fun i j a z w => R.dist i j a (own i z) (own j w), fun i d a z w => ?_, fun a z => R.dom a (S.dm a z)⟩,
    ⟨S.le, fun b o z n => S.fr b o z fun y => n (L.ao y), S.dm, fun b z z' => (S.nw b z z').imp id L.ao, fun b ⟨i, z, w⟩ => .inl ⟨i, own i z, w⟩⟩, ⟨back_len.symm, fun i d z => ?_, fun i d z => ?_, fun i d z => ?_, fun i z => ?_⟩⟩
  · -- frozen slots
    have z' : slotAt ρ i = .fz d := by
      rcases A i with ⟨g, _⟩ | ⟨_, j, q, q', g1, g2, g3, g⟩
      · rw [← g]; exact z
      · obtain ⟨h1, _⟩ := slotOf g1 g3
        rw [g] at z
        rcases h1 with h1 | h1 <;> (rw [h1] at z; cases z)
    obtain ⟨v, h1, h2⟩ := R.fz i d z'
    exact ⟨v, h1, Rep.mono S.le _ _ h2⟩
  · -- own slots
    rcases A i with ⟨g, g'⟩ | ⟨_, j, q, q', g1, g2, g3, g⟩
    · rw [g] at z
      obtain ⟨a, o, h1, h2, h3, h4⟩ := R.ow i d z
      have na : ¬ AO vs as a := by
        rintro ⟨j, q, e, f⟩
        rcases L.at f e with ⟨_, y, _⟩ | ⟨_, m, _, y1, _, y2, y3⟩
        · cases y
        · have hm : m = i := R.dist m i a (by rcases y2 with y | y <;> (rw [y]; exact True.intro)) (by rcases z with y | y <;> (rw [y]; exact True.intro)) y3 h1
          subst hm
          exact g' j q e y1
      refine ⟨a, o, h1, ?_, S.fr a o h3 na, h4.mono S.le⟩
      cases y : F' a with
      | none => rfl
      | some u =>
        rcases S.nw a h2 (by rw [y]; intro w; cases w) with w | w
        · rw [h3] at w; cases w
        · exact absurd w na
    · obtain ⟨h1, v, h2, h3⟩ := slotOf g1 g3
      obtain ⟨e', a, o, k1, k2, k3, k4, k5⟩ := O j q g1
      have eq : e' = q' := by rw [k1] at g2; cases g2; rfl
      subst eq
      rw [k2] at h2; cases h2
      have ed : d = e' := by
        rw [g] at z
        rcases h1 with h1 | h1 <;> (rw [h1] at z; rcases z with z | z <;> cases z <;> rfl)
      subst ed
      exact ⟨a, o, h3, k3, k4, k5⟩
  · -- new ones
    rcases A i with ⟨g, _⟩ | ⟨_, j, q, q', g1, g2, g3, g⟩
    · rw [g] at z; exact R.new i d a z w
    · obtain ⟨h1, _⟩ := slotOf g1 g3
      rw [g] at z
      rcases h1 with h1 | h1
      · exact R.new i q a h1 w
      · rw [h1] at z; cases z
  · rcases A i with ⟨g, _⟩ | ⟨_, j, q, q', g1, g2, g3, g⟩
    · rw [g]; exact z
    · rw [g, z]; rfl
  · rcases A i with ⟨g, _⟩ | ⟨_, j, q, q', g1, g2, g3, g⟩
    · rw [g]; exact ⟨d, .inl z⟩
    · rw [g, z]; exact ⟨q', .inl rfl⟩
  · rcases A i with ⟨g, _⟩ | ⟨_, j, q, q', g1, g2, g3, g⟩
    · rw [g]; exact ⟨d, z⟩
    · rw [g, z]; exact ⟨q', rfl⟩
  · rcases A i with ⟨g, _⟩ | ⟨_, j, q, q', g1, g2, g3, g⟩
    · rw [g]; exact z
    · rw [g, z]; rfl
end
end PV

set_option Elab.async false
set_option linter.all false
set_option maxRecDepth 100000
set_option maxHeartbeats 1000000
/-! PvF: the rules of calls: defs, properties, methods, new instances. -/
namespace PV
open PySem L2
section
variable {M : Nm} {H0 : Hp} {W : WX} {T : Tb}
/-- as Post.bind, the first part beginning later -/
theorem Post.bind2 {α β γ δ : Type} {F H F1 H1 : Hp} {σ : L2.St} {ρ ρ1 : Env} {VR : Hp → Hp → Env → α → β → Prop} {VQ : Hp → Hp → Env → γ → δ → Prop} {r : Out γ} {f : γ → Env → Out α} {Q : β → Hp → Prop} {Q1 : δ → Hp → Prop}
    (h : Post M H0 W F H σ ρ VR (r.bind f) Q) (S : Stp F H (OA ρ σ) F1 H1 (OA ρ1 σ)) (E : ES ρ ρ1)
    (k : ∀ x ρ2 b F2 H2, Rel M H0 F2 H2 σ ρ2 → Stp F1 H1 (OA ρ1 σ) F2 H2 (OA ρ2 σ) → ES ρ1 ρ2 → VQ F2 H2 ρ2 x b → Post M H0 W F H σ ρ VR (f x ρ2) Q → Q1 b H2) : Post M H0 W F1 H1 σ ρ1 VQ r Q1 := by
  cases r with
  | ok x ρ1 => exact fun b F1 H1 R S E v => k x ρ1 b F1 H1 R S E v h
  | exc e ρ2 => exact fun c d F2 H2 R2 S2 E2 v2 => h c d F2 H2 R2 (S.trans S2) (E.trans E2) v2
  | bad => exact h
theorem call_fin {f : Nat} {keep : List Bool} {F H F1 H1 : Hp} {σ : L2.St} {ρ ρ1 : Env} {xs : List Val} {vs : List V} {Q : VK} {E : XK} (hW : ∀ c d σ H, W c d σ H → E c d H) (R1 : Rel M H0 F1 H1 σ ρ1) (S : Stp F H (OA ρ σ) F1 H1 (OA ρ1 σ)) (E1 : ES ρ ρ1)
    (V1 : VsOk M F1 H1 σ ρ1 vs xs) (N1 : VsNew H vs xs) (p : Post M H0 W F H σ ρ (VR1 M H σ) (callF T f keep xs ρ1) Q) : spOf M (T.fn f) vs H1 Q E := by
  unfold callF at p
  cases h1 : lend ρ1 [] keep xs with
  | none => rw [h1] at p; exact p.elim
  | some q =>
    obtain ⟨as, ρ2⟩ := q
    rw [h1] at p
    dsimp only at p
    obtain ⟨F2, R2, S2, E2, L2, P2, _⟩ := lend_ok R1 S V1 N1 h1
    refine ⟨F2, as, R2.sub, P2.len.1, P2.args R2, P2.dist R2, ?_⟩
    cases h2 : T.fn f as with
    | bad => rw [h2] at p; exact p.elim
    | exc e os =>
      rw [h2] at p
      intro cls d F3 H3 le St O hx
      obtain ⟨R3, S3, E3⟩ := back_ok R2 P2 le St O
      exact hW _ _ _ _ (p cls d F3 H3 R3 (S2.trans S3) (E1.trans (E2.trans E3)) hx)
    | ok r os =>
      rw [h2] at p
      intro v F3 H3 le St O hr
      obtain ⟨R3, S3, E3⟩ := back_ok R2 P2 le St O
      cases r with
      | f d => exact p v F3 H3 R3 (S2.trans S3) (E1.trans (E2.trans E3)) ⟨hr, fun _ _ z => by cases z⟩
      | n d =>
        obtain ⟨a, o, rfl, h3, h4, h5, h6⟩ := hr
        refine p _ F3 H3 R3 (S2.trans S3) (E1.trans (E2.trans E3)) ⟨⟨a, o, rfl, h4, h5, h6, ?_⟩, fun d' b z z' => by cases z'; exact S2.dm _ h3⟩
        intro z
        obtain ⟨i, z1, z2⟩ := E3.oa z
        cases w : slotAt ρ2 i with
        | no => rw [w] at z1; exact z1
        | fz d => rw [w] at z1; exact z1
        | ow d => obtain ⟨b, u, g1, g2, g3, _⟩ := R2.ow i d (.inl w); rw [z2] at g1; cases g1; rw [h3] at g3; cases g3
        | pw d => obtain ⟨b, u, g1, g2, g3, _⟩ := R2.ow i d (.inr w); rw [z2] at g1; cases g1; rw [h3] at g3; cases g3
      | v i => exact p.elim
theorem i_call {f : Nat} {keep : List Bool} {es : CEs} {E : XK} (hW : ∀ c d σ H, W c d σ H → E c d H) {σ : L2.St} {H : Hp} {Q : VK} (h : tE M H0 W T (.call f keep es) σ H Q) : tCall (spOf M (T.fn f)) [] E (tA M H0 W T es) σ H Q := by
  obtain ⟨F, ρ, R, p⟩ := h
  simp only [ev] at p
  refine ⟨F, ρ, R, Post.bind p fun xs ρ1 vs F1 H1 R1 S1 E1 V1 p1 => ?_⟩
  show spOf M (T.fn f) (vs ++ []) H1 Q E
  rw [List.append_nil]
  exact call_fin hW R1 S1 E1 V1.1 V1.2 p1
/-- a call without arguments -/
theorem i_call0 {f : Nat} {keep : List Bool} {E : XK} (hW : ∀ c d σ H, W c d σ H → E c d H) {σ : L2.St} {H : Hp} {Q : VK} (h : tE M H0 W T (.call f keep .nil) σ H Q) : tCall (spOf M (T.fn f)) [] E tNil σ H Q := i_nil (i_call hW h)
theorem calm_post {F H : Hp} {σ : L2.St} {ρ : Env} {α β : Type} {VR : Hp → Hp → Env → α → β → Prop} {r : Out α} {Q : β → Hp → Prop} {W' : WX} (p : Post M H0 W F H σ ρ VR (calm r) Q) : Post M H0 W' F H σ ρ VR r Q := by
  cases r with
  | ok x ρ1 => exact p
  | exc e ρ1 => exact p.elim
  | bad => exact p
theorem PE.ex {X : Cx} {e : Expr} {ι : Type} {P : ι → Prop} {t : ι → TE} (h : ∀ i, P i → PE X e (t i)) : PE X e (fun σ H Q => ∃ i, P i ∧ t i σ H Q) := ⟨fun pins s σ H Q I ⟨i, hp, q⟩ => (h i hp).run pins s σ H Q I q⟩
/-- what a value that is an object is -/
theorem VOk.ins {F H : Hp} {σ : L2.St} {ρ : Env} {v : V} {x : Val} {C : Nat} {fs : List (Nat × D)} (R : Rel M H0 F H σ ρ) (h : VOk M F H σ ρ v x) (e : rd ρ x = some (.obj C fs)) : ∃ a dx ws, v = .ref a ∧ H a = some (.ins (M.cl C) dx ws) ∧ RepA M F fs ws :=
  (h.rt R e).obj R.sub
/-- a property: the class is what the object is of -/
theorem i_prp {m : Nat} {e : CE} {σ : L2.St} {H : Hp} {Q : VK} (h : tE M H0 W T (.prp m e) σ H Q) : tE M H0 W T e σ H fun x H1 => ∃ C f a dx fs, T.mt C m = some f ∧ x = .ref a ∧ H1 a = some (.ins (M.cl C) dx fs) ∧ spOf M (T.fn f) [.ref a] H1 Q E0 := by
  obtain ⟨F, ρ, R, p⟩ := h
  simp only [ev] at p
  refine ⟨F, ρ, R, Post.bind p fun x ρ1 v F1 H1 R1 S1 E1 V1 p1 => ?_⟩
  cases h1 : rd ρ1 x with
  | none => simp only [h1] at p1; exact p1.elim
  | some d =>
    cases d with
    | obj C fs =>
      simp only [h1] at p1
      cases h2 : T.mt C m with
      | none => simp only [h2] at p1; exact p1.elim
      | some f =>
        simp only [h2] at p1
        obtain ⟨a, dx, ws, rfl, h3, _⟩ := V1.1.ins R1 h1
        exact ⟨C, f, a, dx, ws, h2, rfl, h3, call_fin (vs := [.ref a]) (W := fun _ _ _ _ => False) (fun _ _ _ _ z => z) R1 S1 E1 ⟨x, [], rfl, V1.1, rfl, fun _ _ z => by simp at z⟩ ⟨V1.2, by unfold VsNew; trivial⟩ (calm_post p1)⟩
    | _ => simp only [h1] at p1; exact p1.elim
/-- a method -/
theorem i_mth {m : Nat} {e : CE} {keep : List Bool} {es : CEs} {E : XK} (hW : ∀ c d σ H, W c d σ H → E c d H) {σ : L2.St} {H : Hp} {Q : VK} (h : tE M H0 W T (.mth m e keep es) σ H Q) :
    tE M H0 W T e σ H fun x H1 => ∃ C f a dx fs fs', T.mt C m = some f ∧ x = .ref a ∧ H1 a = some (.ins (M.cl C) dx fs) ∧ (∃ F, RepA M F fs' fs) ∧ tA M H0 W T es σ H1 fun vs H2 => spOf M (T.fn f) (x :: (vs ++ [])) H2 Q E := by
  obtain ⟨F, ρ, R, p⟩ := h
  simp only [ev] at p
  refine ⟨F, ρ, R, Post.bind p fun x ρ1 v F1 H1 R1 S1 E1 V1 p1 => ?_⟩
  cases h1 : rd ρ1 x with
  | none => simp only [h1] at p1; exact p1.elim
  | some d =>
    cases d with
    | obj C fs =>
      simp only [h1] at p1
      cases h2 : T.mt C m with
      | none => simp only [h2] at p1; exact p1.elim
      | some f =>
        simp only [h2] at p1
        obtain ⟨a, dx, ws, rfl, h3, h4⟩ := V1.1.ins R1 h1
        refine ⟨C, f, a, dx, ws, fs, h2, rfl, h3, ⟨F1, h4⟩, F1, ρ1, R1, ?_⟩
        refine Post.bind2 p1 S1 E1 fun xs ρ2 vs F2 H2 R2 S2 E2 V2 p2 => ?_
        rw [List.append_nil]
        refine call_fin (xs := x :: xs) hW R2 (S1.trans S2) (E1.trans E2) ⟨x, xs, rfl, V1.1.step S2 E2, V2.1, fun w y mm d d' e e' => ?_⟩ ⟨V1.2, V2.2.back S1⟩ p2
        subst e
        rintro rfl
        obtain ⟨c, o, q, _, e3, _⟩ := V1.1
        cases q
        have q := memNew V2.2 mm d' _ e' rfl
        rw [e3] at q; cases q
    | _ => simp only [h1] at p1; exact p1.elim
/-- a new instance -/
theorem i_new {C : Nat} {keep : List Bool} {es : CEs} {E : XK} (hW : ∀ c d σ H, W c d σ H → E c d H) {f : Nat} (hf : T.mt C mInit = some f) {σ : L2.St} {H : Hp} {Q : VK} (h : tE M H0 W T (.new C keep es) σ H Q) :
    tMake (M.cl C) (spOf M (T.fn f)) [] E (tA M H0 W T es) σ H Q := by
  obtain ⟨F, ρ, R, p⟩ := h
  simp only [ev] at p
  refine ⟨F, ρ, R, Post.bind p fun xs ρ1 vs F1 H1 R1 S1 E1 V1 p1 => ?_⟩
  intro x dx hx hdx hne
  rw [List.append_nil]
  simp only [hf] at p1
  cases h1 : lend ρ1 [] keep xs with
  | none => rw [h1] at p1; exact p1.elim
  | some q =>
    obtain ⟨as, ρ2⟩ := q
    rw [h1] at p1
    dsimp only at p1
    obtain ⟨F2, R2, S2, E2, L2, P2, _⟩ := lend_ok R1 S1 V1.1 V1.2 h1
    have fx := R2.sub.d x hx
    have fdx := R2.sub.d dx hdx
    have hdx1 : (upd H1 dx (.own x)) x = none := by rw [upd_ne hne.symm]; exact hx
    -- what stands at x, and elsewhere
    have atx : (upd (upd H1 dx (.own x)) x (.ins (M.cl C) dx [])) x = some (.ins (M.cl C) dx []) := upd_same
    have ato : ∀ b o, H1 b = some o → (upd (upd H1 dx (.own x)) x (.ins (M.cl C) dx [])) b = some o := fun b o e => by
      rw [upd_ne (ne_of_none e hx), upd_ne (ne_of_none e hdx)]; exact e
    have none_of : ∀ b, (upd (upd H1 dx (.own x)) x (.ins (M.cl C) dx [])) b = none → H1 b = none := fun b e => by
      by_cases q : b = x
      · rw [q]; exact hx
      · rw [upd_ne q] at e
        by_cases q' : b = dx
        · rw [q']; exact hdx
        · rw [upd_ne q'] at e; exact e
    have none_of' : ∀ b, (upd (upd H1 dx (.own x)) x (.ins (M.cl C) dx [])) b = none → b ≠ x ∧ b ≠ dx := fun b e => by
      constructor
      · rintro rfl; rw [upd_same] at e; cases e
      · rintro rfl; rw [upd_ne hne, upd_same] at e; cases e
    have sub2 : Le F2 (upd (upd H1 dx (.own x)) x (.ins (M.cl C) dx [])) := (R2.sub.mut fdx).mut fx
    have args := P2.args R2
    have aoh : ∀ a, AO vs as a → ∃ o, H1 a = some o := fun a ⟨i, d, e, e'⟩ => by
      obtain ⟨b, o, q1, q2, q3, q4⟩ := args i _ _ e' e
      cases q1; exact ⟨o, q3⟩
    refine ⟨F2, .ow (.obj C []) :: as, sub2, by simp [P2.len.1], fun i v s e e' => ?_, fun i j d d' a e e' g g' => ?_, ?_⟩
    · cases i with
      | zero => simp at e e'; subst e e'; exact ⟨x, _, rfl, fx, atx, rfl, rfl⟩
      | succ i =>
        simp at e e'
        have := args i v s e e'
        cases s with
        | fz d => exact this
        | ow d => obtain ⟨a, o, q1, q2, q3, q4⟩ := this; exact ⟨a, o, q1, q2, ato a o q3, q4⟩
        | _ => exact this.elim
    · have ne0 : ∀ {i : Nat} {d : D}, as[i]? = some (.ow d) → vs[i]? = some (V.ref x) → False := fun {i d} e g => by
        obtain ⟨o, q⟩ := aoh x ⟨i, d, e, g⟩
        rw [hx] at q; cases q
      cases i with
      | zero =>
        cases j with
        | zero => rfl
        | succ j => simp at e e' g g'; subst g; exact (ne0 e' g').elim
      | succ i =>
        cases j with
        | zero => simp at e e' g g'; subst g'; exact (ne0 e g).elim
        | succ j => simp at e e' g g'; rw [P2.dist R2 i j d d' a e e' g g']
    · have aoc : ∀ b, AO (.ref x :: vs) (.ow (.obj C []) :: as) b → b = x ∨ AO vs as b := fun b ⟨i, d, e, g⟩ => by
        cases i with
        | zero => simp at g; exact .inl g.symm
        | succ i => exact .inr ⟨i, d, by simpa using e, by simpa using g⟩
      have back1 : ∀ {F3 H3 : Hp}, Stp F2 (upd (upd H1 dx (.own x)) x (.ins (M.cl C) dx [])) (AO (.ref x :: vs) (.ow (.obj C []) :: as)) F3 H3 (AO (.ref x :: vs) (.ow (.obj C []) :: as)) → Stp F2 H1 (AO vs as) F3 H3 (AO vs as) := fun {F3 H3} St =>
        ⟨St.le, fun b o e n => St.fr b o (ato b o e) fun z => (aoc b z).elim (fun w => by subst w; rw [hx] at e; cases e) n, fun b e => none_of b (St.dm b e), fun b e e' => by
          rcases St.nw b e e' with z | z
          · exact .inl (none_of b z)
          · rcases aoc b z with w | w
            · subst w; exact .inl hx
            · exact .inr w, fun b z => .inl z⟩
      have out1 : ∀ {F3 H3 : Hp} {o0 : Slot} {os : List Slot}, OutOk M F3 H3 (.ref x :: vs) (.ow (.obj C []) :: as) (o0 :: os) → OutOk M F3 H3 vs as os := fun {F3 H3 o0 os} O i d e => by
        simpa using O (i + 1) d (by simpa using e)
      cases h2 : T.fn f (.ow (.obj C []) :: as) with
      | bad => rw [h2] at p1; exact p1.elim
      | exc e os =>
        cases os with
        | nil => rw [h2] at p1; exact p1.elim
        | cons o0 os =>
          rw [h2] at p1
          intro cls d F3 H3 le St O hx'
          obtain ⟨R3, S3, E3⟩ := back_ok R2 P2 le (back1 St) (out1 O)
          exact hW _ _ _ _ (p1 cls d F3 H3 R3 (S2.trans S3) (E1.trans (E2.trans E3)) hx')
      | ok r os =>
        cases os with
        | nil => rw [h2] at p1; (cases r with | f d => cases d <;> exact p1.elim | n d => exact p1.elim | v i => exact p1.elim)
        | cons o0 os =>
          rw [h2] at p1
          cases r with
          | n d => exact p1.elim
          | v i => exact p1.elim
          | f d =>
            cases d with
            | non =>
              cases o0 with
              | ow d =>
                intro v F3 H3 le St O hr
                have hv : v = .non := hr
                obtain ⟨d', a, o, k1, k2, k3, k4, k5⟩ := O 0 (.obj C []) (by simp)
                simp at k1 k2
                subst k1 k2
                obtain ⟨R3, S3, E3⟩ := back_ok R2 P2 le (back1 St) (out1 O)
                refine ⟨hv, p1 _ F3 H3 R3 (S2.trans S3) (E1.trans (E2.trans E3)) ⟨⟨x, o, rfl, k3, k4, k5, ?_⟩, fun d' b z z' => by cases z'; exact S1.dm _ hx⟩⟩
                intro z
                obtain ⟨i, z1, z2⟩ := E3.oa z
                cases w : slotAt ρ2 i with
                | no => rw [w] at z1; exact z1
                | fz d => rw [w] at z1; exact z1
                | ow d => obtain ⟨b, u, g1, g2, g3, _⟩ := R2.ow i d (.inl w); rw [z2] at g1; cases g1; rw [hx] at g3; cases g3
                | pw d => obtain ⟨b, u, g1, g2, g3, _⟩ := R2.ow i d (.inr w); rw [z2] at g1; cases g1; rw [hx] at g3; cases g3
              | _ => exact p1.elim
            | _ => exact p1.elim
end
end PV

set_option Elab.async false
set_option linter.all false
set_option maxRecDepth 100000
set_option maxHeartbeats 1000000
/-! PvG: stores, targets, statements without loops. -/
namespace PV
open PySem L2
/-- objects lent by the caller stay at their names -/
def PWk (ρ : Env) (σ : L2.St) (ρ' : Env) (σ' : L2.St) : Prop := ∀ i d, slotAt ρ i = .pw d → (∃ d', slotAt ρ' i = .pw d') ∧ σ'[i]? = σ[i]?
theorem PWk.refl (ρ : Env) (σ : L2.St) : PWk ρ σ ρ σ := fun _ d h => ⟨⟨d, h⟩, rfl⟩
theorem PWk.trans {ρ ρ1 ρ2 : Env} {σ σ1 σ2 : L2.St} (a : PWk ρ σ ρ1 σ1) (b : PWk ρ1 σ1 ρ2 σ2) : PWk ρ σ ρ2 σ2 := fun i d h => by
  obtain ⟨⟨d1, h1⟩, e1⟩ := a i d h
  obtain ⟨h2, e2⟩ := b i d1 h1
  exact ⟨h2, e2.trans e1⟩
theorem ES.pwk {ρ ρ' : Env} {σ : L2.St} (e : ES ρ ρ') : PWk ρ σ ρ' σ := fun i d h => ⟨e.pw i d h, rfl⟩
theorem setS_some {ρ ρ' : Env} {i : Nat} {s : Slot} (h : setS ρ i s = some ρ') : ρ' = ρ.set i s ∧ i < ρ.length ∧ ∀ d, slotAt ρ i ≠ .pw d := by
  unfold setS at h
  split at h
  · cases h
  · rename_i hn
    split at h
    · rename_i hi
      cases h
      exact ⟨rfl, hi, fun d e => hn d e⟩
    · cases h
section
variable {M : Nm} {H0 : Hp} {W : WX} {T : Tb}
/-- a name holds frozen data from now on -/
theorem Rel.setF {F H : Hp} {σ : L2.St} {ρ ρ' : Env} {i : Nat} {d : D} {v : V} (R : Rel M H0 F H σ ρ) (r : Rep M F d v) (h : setS ρ i (.fz d) = some ρ') :
    Rel M H0 F H (σ.set i (some v)) ρ' ∧ (∀ a, OA ρ' (σ.set i (some v)) a → OA ρ σ a) ∧ PWk ρ σ ρ' (σ.set i (some v)) := by
  obtain ⟨rfl, hi, hp⟩ := setS_some h
  have hs : i < σ.length := by rw [R.len]; exact hi
  have at' : ∀ j, slotAt (ρ.set i (.fz d)) j = if j = i then .fz d else slotAt ρ j := fun j => by
    rw [slotAt_set]; by_cases z : j = i <;> simp [z, hi]
  have own' : ∀ j, IsOwn (slotAt (ρ.set i (.fz d)) j) → j ≠ i ∧ IsOwn (slotAt ρ j) := fun j z => by
    rw [at'] at z
    by_cases w : j = i
    · rw [if_pos w] at z; exact z.elim
    · rw [if_neg w] at z; exact ⟨w, z⟩
  have ne : ∀ {j : Nat}, j ≠ i → (σ.set i (some v))[j]? = σ[j]? := fun {j} z => List.getElem?_set_ne (Ne.symm z)
  refine ⟨⟨R.sub, by simp [R.len], fun j e z => ?_, fun j e z => ?_, fun j k a z w y y' => ?_, fun j e a z y => ?_, R.dom⟩, fun a ⟨j, z, y⟩ => ?_, fun j e z => ?_⟩
  · rw [at'] at z
    by_cases w : j = i
    · rw [if_pos w] at z; cases z; subst w; exact ⟨v, List.getElem?_set_self hs, r⟩
    · rw [if_neg w] at z; rw [ne w]; exact R.fz j e z
  · rw [at'] at z
    by_cases w : j = i
    · rw [if_pos w] at z; rcases z with z | z <;> cases z
    · rw [if_neg w] at z; rw [ne w]; exact R.ow j e z
  · obtain ⟨z1, z2⟩ := own' j z
    obtain ⟨w1, w2⟩ := own' k w
    rw [ne z1] at y; rw [ne w1] at y'
    exact R.dist j k a z2 w2 y y'
  · rw [at'] at z
    by_cases w : j = i
    · rw [if_pos w] at z; cases z
    · rw [if_neg w] at z; rw [ne w] at y; exact R.new j e a z y
  · obtain ⟨z1, z2⟩ := own' j z
    rw [ne z1] at y
    exact ⟨j, z2, y⟩
  · have w : j ≠ i := by rintro rfl; exact hp e z
    rw [at', if_neg w, ne w]
    exact ⟨⟨e, z⟩, rfl⟩
/-- a name holds a new object from now on, its own -/
theorem Rel.setO {F H : Hp} {σ : L2.St} {ρ ρ' : Env} {i : Nat} {d : D} {a : Addr} {o : HO} (R : Rel M H0 F H σ ρ) (fa : F a = none) (ha : H a = some o) (r : RepTop M F d o) (na : ¬ OA ρ σ a) (h0 : H0 a = none) (h : setS ρ i (.ow d) = some ρ') :
    Rel M H0 F H (σ.set i (some (.ref a))) ρ' ∧ (∀ b, OA ρ' (σ.set i (some (.ref a))) b → OA ρ σ b ∨ b = a) ∧ PWk ρ σ ρ' (σ.set i (some (.ref a))) := by
  obtain ⟨rfl, hi, hp⟩ := setS_some h
  have hs : i < σ.length := by rw [R.len]; exact hi
  have at' : ∀ j, slotAt (ρ.set i (.ow d)) j = if j = i then .ow d else slotAt ρ j := fun j => by
    rw [slotAt_set]; by_cases z : j = i <;> simp [z, hi]
  have ne : ∀ {j : Nat}, j ≠ i → (σ.set i (some (V.ref a)))[j]? = σ[j]? := fun {j} z => List.getElem?_set_ne (Ne.symm z)
  have self : (σ.set i (some (V.ref a)))[i]? = some (some (.ref a)) := List.getElem?_set_self hs
  refine ⟨⟨R.sub, by simp [R.len], fun j e z => ?_, fun j e z => ?_, fun j k b z w y y' => ?_, fun j e b z y => ?_, R.dom⟩, fun b ⟨j, z, y⟩ => ?_, fun j e z => ?_⟩
  · rw [at'] at z
    by_cases w : j = i
    · rw [if_pos w] at z; cases z
    · rw [if_neg w] at z; rw [ne w]; exact R.fz j e z
  · rw [at'] at z
    by_cases w : j = i
    · rw [if_pos w] at z
      have : e = d := by rcases z with z | z <;> cases z; rfl
      subst this; subst w
      exact ⟨a, o, self, fa, ha, r⟩
    · rw [if_neg w] at z; rw [ne w]; exact R.ow j e z
  · rw [at'] at z w
    by_cases z1 : j = i
    · by_cases w1 : k = i
      · rw [z1, w1]
      · rw [if_neg w1] at w
        subst z1
        rw [self] at y; cases y
        rw [ne w1] at y'
        exact absurd ⟨k, w, y'⟩ na
    · rw [if_neg z1] at z
      rw [ne z1] at y
      by_cases w1 : k = i
      · subst w1
        rw [self] at y'; cases y'
        exact absurd ⟨j, z, y⟩ na
      · rw [if_neg w1] at w
        rw [ne w1] at y'
        exact R.dist j k b z w y y'
  · rw [at'] at z
    by_cases w : j = i
    · subst w; rw [self] at y; cases y; exact h0
    · rw [if_neg w] at z; rw [ne w] at y; exact R.new j e b z y
  · rw [at'] at z
    by_cases w : j = i
    · subst w; rw [self] at y; cases y; exact .inr rfl
    · rw [if_neg w] at z; rw [ne w] at y; exact .inl ⟨j, z, y⟩
  · have w : j ≠ i := by rintro rfl; exact hp e z
    rw [at', if_neg w, ne w]
    exact ⟨⟨e, z⟩, rfl⟩
theorem Stp.shrink {F H F' H' : Hp} {A A' A2 : Addr → Prop} (S : Stp F H A F' H' A') (h : ∀ a, A2 a → A' a) : Stp F H A F' H' A2 := ⟨S.le, S.fr, S.dm, S.nw, fun b z => S.ow b (h b z)⟩
/-- a value is stored -/
theorem store_okE {Fs Hs F H : Hp} {As : Addr → Prop} {σ : L2.St} {ρ ρ' : Env} {v : V} {x : Val} {i : Nat} {own : Bool} (R : Rel M H0 F H σ ρ) (S : Stp Fs Hs As F H (OA ρ σ)) (hd : ∀ a, Hs a = none → H0 a = none) (h : VOk M F H σ ρ v x) (hn : VNew Hs v x)
    (e : store ρ i own x = some ρ') : ∃ F', Rel M H0 F' H (σ.set i (some v)) ρ' ∧ Stp Fs Hs As F' H (OA ρ' (σ.set i (some v))) ∧ PWk ρ σ ρ' (σ.set i (some v)) ∧ Le F F' ∧ ∀ b, F b = none → F' b ≠ none → v = .ref b ∧ ((∃ d, x = .n d) ∨ OA ρ σ b) := by
  have plain : ∀ {ρ' : Env}, ((fr ρ x).bind fun p => setS p.2 i (.fz p.1)) = some ρ' → ∃ F', Rel M H0 F' H (σ.set i (some v)) ρ' ∧ Stp Fs Hs As F' H (OA ρ' (σ.set i (some v))) ∧ PWk ρ σ ρ' (σ.set i (some v)) ∧ Le F F' ∧ ∀ b, F b = none → F' b ≠ none → v = .ref b ∧ ((∃ d, x = .n d) ∨ OA ρ σ b) := fun {ρ'} e => by
    cases h1 : fr ρ x with
    | none => rw [h1] at e; cases e
    | some p =>
      obtain ⟨d, ρ1⟩ := p
      rw [h1] at e
      obtain ⟨F1, z⟩ := fr_ok R S h hn h1
      obtain ⟨R2, O2, P2⟩ := z.rel.setF z.rep e
      exact ⟨F1, R2, z.stp.shrink O2, z.es.pwk.trans P2, z.le, z.only⟩
  cases own with
  | false => exact plain e
  | true =>
    cases x with
    | f d => exact plain e
    | v j => exact plain e
    | n d =>
      obtain ⟨a, o, rfl, e2, e3, e4, e5⟩ := h
      obtain ⟨R2, O2, P2⟩ := R.setO e2 e3 e4 e5 (hd a (hn d a rfl rfl)) (show setS ρ i (.ow d) = some ρ' from e)
      exact ⟨F, R2, ⟨S.le, S.fr, S.dm, S.nw, fun b z => (O2 b z).elim (S.ow b) fun y => by subst y; exact .inr (hn d _ rfl rfl)⟩, P2, Le.refl F, fun b z z' => absurd z z'⟩

/-! ### targets -/
/-- what a target stores to -/
def CT.slots : CT → List Nat
  | .nm i => [i] | .tp is => is | .tq is => is.flatten
def Only (js : List Nat) (σ σ' : L2.St) : Prop := σ'.length = σ.length ∧ ∀ j, j ∉ js → σ'[j]? = σ[j]?
theorem Only.refl (σ : L2.St) (js : List Nat) : Only js σ σ := ⟨rfl, fun _ _ => rfl⟩
theorem Only.set {i : Nat} {js : List Nat} {σ σ' : L2.St} {x : Option V} (h : Only js (σ.set i x) σ') : Only (i :: js) σ σ' := ⟨by rw [h.1, List.length_set], fun j hj => by
  rw [h.2 j fun z => hj (List.mem_cons_of_mem _ z)]
  exact List.getElem?_set_ne fun z => hj (by rw [z]; exact List.mem_cons_self)⟩
theorem Only.append {is js : List Nat} {σ σ1 σ2 : L2.St} (a : Only is σ σ1) (b : Only js σ1 σ2) : Only (is ++ js) σ σ2 := ⟨b.1.trans a.1, fun j hj => by
  rw [List.mem_append, not_or] at hj
  rw [b.2 j hj.2, a.2 j hj.1]⟩
def PostG (M : Nm) (H0 F H : Hp) (σ : L2.St) (ρ : Env) (js : List Nat) (r : Option Env) (Q : L2.St → Hp → Prop) : Prop := match r with
  | some ρ' => ∀ σ', Rel M H0 F H σ' ρ' → (∀ a, OA ρ' σ' a → OA ρ σ a) → PWk ρ σ ρ' σ' → Only js σ σ' → Q σ' H
  | none => False
def tG (M : Nm) (H0 : Hp) (t : CT) : TG := fun v σ H Q => ∃ F ρ d, Rel M H0 F H σ ρ ∧ Rep M F d v ∧ PostG M H0 F H σ ρ t.slots (tgt ρ t d) Q
theorem PG.imp {X : Cx} {e : Expr} {t t' : TG} (h : PG X e t) (i : ∀ v σ H Q, t' v σ H Q → t v σ H Q) : PG X e t' := ⟨fun pins s σ H v u Q I r q => h.run pins s σ H v u Q I r (i v σ H Q q)⟩
theorem i_nm {i : Nat} {v : V} {σ : L2.St} {H : Hp} {Q : L2.St → Hp → Prop} (h : tG M H0 (.nm i) v σ H Q) : gName i v σ H Q := by
  obtain ⟨F, ρ, d, R, r, p⟩ := h
  cases h1 : setS ρ i (.fz d) with
  | none => simp only [tgt, h1] at p; exact p.elim
  | some ρ' =>
    simp only [tgt, h1] at p
    obtain ⟨R2, O2, P2⟩ := R.setF r h1
    exact p _ R2 O2 P2 (Only.set (Only.refl _ _))
/-- names one after another -/
def gNames : List Nat → TGs
  | [] => gNil
  | i :: is => gCons (gName i) (gNames is)
theorem many_ok {F H : Hp} : ∀ {is : List Nat} {ds : List D} {vs : List V} {σ : L2.St} {ρ : Env} {Q : L2.St → Hp → Prop}, Rel M H0 F H σ ρ → Reps M F ds vs → PostG M H0 F H σ ρ is (setMany ρ is ds) Q → vs.length = is.length ∧ gNames is vs σ H Q
  | [], [], vs, σ, ρ, Q, R, r, p => by
    have e : vs = [] := r
    subst e
    exact ⟨rfl, rfl, p σ R (fun _ z => z) (PWk.refl _ _) (Only.refl _ _)⟩
  | [], d :: ds, vs, σ, ρ, Q, R, r, p => p.elim
  | i :: is, [], vs, σ, ρ, Q, R, r, p => p.elim
  | i :: is, d :: ds, vs, σ, ρ, Q, R, r, p => by
    obtain ⟨v, ws, rfl, r1, r2⟩ := r
    simp only [setMany] at p
    cases h1 : setS ρ i (.fz d) with
    | none => rw [h1] at p; exact p.elim
    | some ρ1 =>
      rw [h1] at p
      obtain ⟨R1, O1, P1⟩ := R.setF r1 h1
      have p' : PostG M H0 F H (σ.set i (some v)) ρ1 is (setMany ρ1 is ds) Q := by
        cases h2 : setMany ρ1 is ds with
        | none => simp only [Option.bind, h2] at p; exact p
        | some ρ2 =>
          simp only [Option.bind, h2] at p
          exact fun σ' R' O' P' N' => p σ' R' (fun a z => O1 a (O' a z)) (P1.trans P') N'.set
      obtain ⟨h3, h4⟩ := many_ok R1 r2 p'
      exact ⟨by simp [h3], v, ws, rfl, h4⟩
theorem i_tp {is : List Nat} {v : V} {σ : L2.St} {H : Hp} {Q : L2.St → Hp → Prop} (h : tG M H0 (.tp is) v σ H Q) : gTup M.K is.length (gNames is) v σ H Q := by
  obtain ⟨F, ρ, d, R, r, p⟩ := h
  cases d with
  | tup ds =>
    obtain ⟨a, vs, rfl, s, r⟩ := r
    obtain ⟨h1, h2⟩ := many_ok R r p
    exact ⟨a, vs, rfl, (.inl (.inl (R.sub.t _ _ s)) : SqT M.K H a _), h1, h2⟩
  | _ => exact p.elim
/-- a name, or names in brackets -/
def gQs (K : PySem.W.Frag) : List (List Nat) → TGs
  | [] => gNil
  | [i] :: r => gCons (gName i) (gQs K r)
  | is :: r => gCons (gTup K is.length (gNames is)) (gQs K r)
theorem gNames_any {P : Prop} {Q : L2.St → Hp → Prop} : ∀ {is : List Nat} {vs : List V} {σ : L2.St} {H : Hp}, gNames is vs σ H (fun σ' H' => P ∧ Q σ' H') → P
  | [], _, _, _, h => h.2.1
  | _ :: _, _, _, _, ⟨_, _, _, h⟩ => gNames_any h
theorem gNames_imp {Q Q' : L2.St → Hp → Prop} (k : ∀ σ' H', Q σ' H' → Q' σ' H') : ∀ {is : List Nat} {vs : List V} {σ : L2.St} {H : Hp}, gNames is vs σ H Q → gNames is vs σ H Q'
  | [], _, _, _, h => ⟨h.1, k _ _ h.2⟩
  | _ :: _, _, _, _, ⟨v, r, e, h⟩ => ⟨v, r, e, gNames_imp k h⟩
theorem setQ_two {ρ : Env} {js : List Nat} {is : List (List Nat)} {d : D} {ds : List D} (h : js.length ≠ 1) : setQ ρ (js :: is) (d :: ds) = match d with
    | .tup xs => (setMany ρ js xs).bind fun ρ1 => setQ ρ1 is ds
    | _ => none := by
  match js, h with
  | [], _ => cases d <;> rfl
  | [_], h => simp at h
  | a :: b :: r, _ => cases d <;> rfl
theorem qs_ok {F H : Hp} : ∀ {is : List (List Nat)} {ds : List D} {vs : List V} {σ : L2.St} {ρ : Env} {Q : L2.St → Hp → Prop}, Rel M H0 F H σ ρ → Reps M F ds vs → PostG M H0 F H σ ρ is.flatten (setQ ρ is ds) Q → vs.length = is.length ∧ gQs M.K is vs σ H Q
  | [], [], vs, σ, ρ, Q, R, r, p => by
    have e : vs = [] := r
    subst e
    exact ⟨rfl, rfl, p σ R (fun _ z => z) (PWk.refl _ _) (Only.refl _ _)⟩
  | [], d :: ds, vs, σ, ρ, Q, R, r, p => p.elim
  | js :: is, [], vs, σ, ρ, Q, R, r, p => by
    have : setQ ρ (js :: is) [] = none := by
      match js with
      | [] => rfl
      | [_] => rfl
      | _ :: _ :: _ => rfl
    rw [this] at p; exact p.elim
  | js :: is, d :: ds, vs, σ, ρ, Q, R, r, p => by
    obtain ⟨v, ws, rfl, r1, r2⟩ := r
    by_cases hj : js.length = 1
    · obtain ⟨i, rfl⟩ : ∃ i, js = [i] := by
        match js, hj with
        | [i], _ => exact ⟨i, rfl⟩
      have e : setQ ρ ([i] :: is) (d :: ds) = (setS ρ i (.fz d)).bind fun ρ1 => setQ ρ1 is ds := rfl
      rw [e] at p
      cases h1 : setS ρ i (.fz d) with
      | none => rw [h1] at p; exact p.elim
      | some ρ1 =>
        rw [h1] at p
        obtain ⟨R1, O1, P1⟩ := R.setF r1 h1
        have p' : PostG M H0 F H (σ.set i (some v)) ρ1 is.flatten (setQ ρ1 is ds) Q := by
          cases h2 : setQ ρ1 is ds with
          | none => simp only [Option.bind, h2] at p; exact p
          | some ρ2 =>
            simp only [Option.bind, h2] at p
            exact fun σ' R' O' P' N' => p σ' R' (fun a z => O1 a (O' a z)) (P1.trans P') N'.set
        obtain ⟨h3, h4⟩ := qs_ok R1 r2 p'
        exact ⟨by simp [h3], v, ws, rfl, h4⟩
    · rw [setQ_two hj] at p
      cases d with
      | tup xs =>
        dsimp only at p
        obtain ⟨a, us, rfl, s, r3⟩ := r1
        have e : gQs M.K (js :: is) = gCons (gTup M.K js.length (gNames js)) (gQs M.K is) := by
          match js, hj with
          | [], _ => rfl
          | [_], h => simp at h
          | _ :: _ :: _, _ => rfl
        rw [e]
        have p' : PostG M H0 F H σ ρ js (setMany ρ js xs) (fun σ' H' => ws.length = is.length ∧ gQs M.K is ws σ' H' Q) := by
          cases h1 : setMany ρ js xs with
          | none => rw [h1] at p; exact p
          | some ρ1 =>
            rw [h1] at p
            intro σ1 R1 O1 P1 N1
            refine qs_ok R1 r2 ?_
            cases h2 : setQ ρ1 is ds with
            | none => simp only [Option.bind, h2] at p; exact p
            | some ρ2 =>
              simp only [Option.bind, h2] at p
              exact fun σ' R' O' P' N' => p σ' R' (fun a z => O1 a (O' a z)) (P1.trans P') (N1.append N')
        obtain ⟨h3, h4⟩ := many_ok R r3 p'
        have hlen : ws.length = is.length := gNames_any h4
        exact ⟨by simp [hlen], .ref a, ws, rfl, a, us, rfl, (.inl (.inl (R.sub.t _ _ s)) : SqT M.K H a _), h3, gNames_imp (fun σ' H' z => z.2) h4⟩
      | _ => exact p.elim
theorem i_tq {is : List (List Nat)} {v : V} {σ : L2.St} {H : Hp} {Q : L2.St → Hp → Prop} (h : tG M H0 (.tq is) v σ H Q) : gTup M.K is.length (gQs M.K is) v σ H Q := by
  obtain ⟨F, ρ, d, R, r, p⟩ := h
  cases d with
  | tup ds =>
    obtain ⟨a, vs, rfl, s, r⟩ := r
    obtain ⟨h1, h2⟩ := qs_ok R r p
    exact ⟨a, vs, rfl, (.inl (.inl (R.sub.t _ _ s)) : SqT M.K H a _), h1, h2⟩
  | _ => exact p.elim
/-! ### statements -/
def RelS (M : Nm) (H0 F H : Hp) (σ : L2.St) (ρ : Env) (F' H' : Hp) (σ' : L2.St) (ρ' : Env) : Prop := Rel M H0 F' H' σ' ρ' ∧ Stp F H (OA ρ σ) F' H' (OA ρ' σ') ∧ PWk ρ σ ρ' σ'
theorem RelS.refl {F H : Hp} {σ : L2.St} {ρ : Env} (R : Rel M H0 F H σ ρ) : RelS M H0 F H σ ρ F H σ ρ := ⟨R, Stp.refl _ _ _, PWk.refl _ _⟩
theorem RelS.trans {F H F1 H1 F2 H2 : Hp} {σ σ1 σ2 : L2.St} {ρ ρ1 ρ2 : Env} (a : RelS M H0 F H σ ρ F1 H1 σ1 ρ1) (b : RelS M H0 F1 H1 σ1 ρ1 F2 H2 σ2 ρ2) : RelS M H0 F H σ ρ F2 H2 σ2 ρ2 := ⟨b.1, a.2.1.trans b.2.1, a.2.2.trans b.2.2⟩
def PostS (M : Nm) (H0 : Hp) (W : WX) (F H : Hp) (σ : L2.St) (ρ : Env) (r : SOut) (D : Ends) : Prop := match r with
  | .nx ρ' => ∀ σ' F' H', RelS M H0 F H σ ρ F' H' σ' ρ' → D.nx σ' H'
  | .br ρ' => ∀ σ' F' H', RelS M H0 F H σ ρ F' H' σ' ρ' → D.bk σ' H'
  | .ct ρ' => ∀ σ' F' H', RelS M H0 F H σ ρ F' H' σ' ρ' → D.ct σ' H'
  | .rt x ρ' => ∀ σ' v F' H', RelS M H0 F H σ ρ F' H' σ' ρ' → VOk M F' H' σ' ρ' v x → VNew H0 v x → D.rt v H'
  | .exc e ρ' => ∀ cls d σ' F' H', RelS M H0 F H σ ρ F' H' σ' ρ' → XOk M F' H' e cls d → W cls d σ' H'
  | .bad => False
def tS (M : Nm) (H0 : Hp) (W : WX) (T : Tb) (c : CS) : TS := fun D σ H => ∃ F ρ, Rel M H0 F H σ ρ ∧ PostS M H0 W F H σ ρ (ex T c ρ) D
def tSs (M : Nm) (H0 : Hp) (W : WX) (T : Tb) (c : CSs) : TS := fun D σ H => ∃ F ρ, Rel M H0 F H σ ρ ∧ PostS M H0 W F H σ ρ (exs T c ρ) D
theorem PS.imp {X : Cx} {e : Stmt} {t t' : TS} (h : PS X e t) (i : ∀ D σ H, t' D σ H → t D σ H) : PS X e t' := ⟨fun pins s σ H D I q => h.run pins s σ H D I (i D σ H q)⟩
theorem PSs.imp {X : Cx} {e : List Stmt} {t t' : TS} (h : PSs X e t) (i : ∀ D σ H, t' D σ H → t D σ H) : PSs X e t' := ⟨fun pins s σ H D I q => h.run pins s σ H D I (i D σ H q)⟩
theorem PostS.shift {F H F1 H1 : Hp} {σ σ1 : L2.St} {ρ ρ1 : Env} {r : SOut} {D : Ends} (h : PostS M H0 W F H σ ρ r D) (S : RelS M H0 F H σ ρ F1 H1 σ1 ρ1) : PostS M H0 W F1 H1 σ1 ρ1 r D := by
  cases r with
  | nx ρ2 => exact fun σ' F' H' z => h σ' F' H' (S.trans z)
  | br ρ2 => exact fun σ' F' H' z => h σ' F' H' (S.trans z)
  | ct ρ2 => exact fun σ' F' H' z => h σ' F' H' (S.trans z)
  | rt x ρ2 => exact fun σ' v F' H' z => h σ' v F' H' (S.trans z)
  | exc e ρ2 => exact fun c d σ' F' H' z => h c d σ' F' H' (S.trans z)
  | bad => exact h
/-- an expression, then the rest of a statement -/
theorem toS_bind {α β : Type} {F H : Hp} {σ : L2.St} {ρ : Env} {VQ : Hp → Hp → Env → α → β → Prop} {r : Out α} {f : α → Env → SOut} {D : Ends} {Q1 : β → Hp → Prop} (h : PostS M H0 W F H σ ρ (r.toS f) D)
    (k : ∀ x ρ1 b F1 H1, Rel M H0 F1 H1 σ ρ1 → Stp F H (OA ρ σ) F1 H1 (OA ρ1 σ) → ES ρ ρ1 → VQ F1 H1 ρ1 x b → PostS M H0 W F H σ ρ (f x ρ1) D → Q1 b H1) : Post M H0 W F H σ ρ VQ r Q1 := by
  cases r with
  | ok x ρ1 => exact fun b F1 H1 R S E v => k x ρ1 b F1 H1 R S E v h
  | exc e ρ1 => exact fun c d F1 H1 R S E v => h c d σ F1 H1 ⟨R, S, E.pwk⟩ v
  | bad => exact h
theorem toS_bind2 {α β : Type} {F H F1 H1 : Hp} {σ : L2.St} {ρ ρ1 : Env} {VQ : Hp → Hp → Env → α → β → Prop} {r : Out α} {f : α → Env → SOut} {D : Ends} {Q1 : β → Hp → Prop} (h : PostS M H0 W F H σ ρ (r.toS f) D) (S : Stp F H (OA ρ σ) F1 H1 (OA ρ1 σ)) (E : ES ρ ρ1)
    (k : ∀ x ρ2 b F2 H2, Rel M H0 F2 H2 σ ρ2 → Stp F1 H1 (OA ρ1 σ) F2 H2 (OA ρ2 σ) → ES ρ1 ρ2 → VQ F2 H2 ρ2 x b → PostS M H0 W F H σ ρ (f x ρ2) D → Q1 b H2) : Post M H0 W F1 H1 σ ρ1 VQ r Q1 := by
  cases r with
  | ok x ρ1 => exact fun b F1 H1 R S E v => k x ρ1 b F1 H1 R S E v h
  | exc e ρ2 => exact fun c d F2 H2 R2 S2 E2 v => h c d σ F2 H2 ⟨R2, S.trans S2, (E.trans E2).pwk⟩ v
  | bad => exact h
theorem nxt_ok {F H F1 H1 : Hp} {σ σ1 : L2.St} {ρ ρ1 : Env} {D : Ends} (p : PostS M H0 W F H σ ρ (.nx ρ1) D) (S : RelS M H0 F H σ ρ F1 H1 σ1 ρ1) : D.nx σ1 H1 := p _ _ _ S
theorem i_asg {i : Nat} {own : Bool} {e : CE} {D : Ends} {σ : L2.St} {H : Hp} (h : tS M H0 W T (.asg (.nm i) own e) D σ H) : tAsg (tE M H0 W T e) (gName i) D σ H := by
  obtain ⟨F, ρ, R, p⟩ := h
  simp only [ex] at p
  refine ⟨F, ρ, R, toS_bind p fun x ρ1 v F1 H1 R1 S1 E1 V1 p1 => ?_⟩
  cases h1 : store ρ1 i own x with
  | none => rw [h1] at p1; exact p1.elim
  | some ρ2 =>
    rw [h1] at p1
    obtain ⟨F2, R2, S2, P2, _⟩ := store_okE R1 S1 R.dom V1.1 V1.2 h1
    exact p1 _ F2 H1 ⟨R2, S2, E1.pwk.trans P2⟩
theorem okD_ok {F H F1 H1 : Hp} {σ : L2.St} {ρ ρ1 ρ2 : Env} {v : V} {x : Val} {d : D} (R1 : Rel M H0 F1 H1 σ ρ1) (S1 : Stp F H (OA ρ σ) F1 H1 (OA ρ1 σ)) (V1 : VOk M F1 H1 σ ρ1 v x) (N1 : VNew H v x) (e : okD x ρ1 = .ok d ρ2) :
    ∃ F2, Rel M H0 F2 H1 σ ρ2 ∧ Stp F H (OA ρ σ) F2 H1 (OA ρ2 σ) ∧ ES ρ1 ρ2 ∧ Rep M F2 d v ∧ Le F1 F2 := by
  unfold okD at e
  cases h1 : fr ρ1 x with
  | none => rw [h1] at e; cases e
  | some p =>
    obtain ⟨d', ρ'⟩ := p
    rw [h1] at e; cases e
    obtain ⟨F2, z⟩ := fr_ok R1 S1 V1 N1 h1
    exact ⟨F2, z.rel, z.stp, z.es, z.rep, z.le⟩
theorem okD_cases (x : Val) (ρ : Env) : (∃ d ρ', okD x ρ = .ok d ρ') ∨ okD x ρ = .bad := by
  unfold okD
  cases fr ρ x with
  | none => exact .inr rfl
  | some p => exact .inl ⟨_, _, rfl⟩
theorem i_asgT {t : CT} (ht : ∀ i, t ≠ .nm i) {own : Bool} {e : CE} {D : Ends} {σ : L2.St} {H : Hp} (h : tS M H0 W T (.asg t own e) D σ H) : tAsg (tE M H0 W T e) (tG M H0 t) D σ H := by
  obtain ⟨F, ρ, R, p⟩ := h
  have e0 : ex T (.asg t own e) ρ = (ev T e ρ).toS fun v ρ1 => (okD v ρ1).toS fun d ρ2 => nxt (tgt ρ2 t d) := by
    cases t with
    | nm i => exact absurd rfl (ht i)
    | tp is => simp only [ex]
    | tq is => simp only [ex]
  rw [e0] at p
  refine ⟨F, ρ, R, toS_bind p fun x ρ1 v F1 H1 R1 S1 E1 V1 p1 => ?_⟩
  rcases okD_cases x ρ1 with ⟨d, ρ2, h1⟩ | h1
  · obtain ⟨F2, R2, S2, E2, r2, _⟩ := okD_ok R1 S1 V1.1 V1.2 h1
    rw [h1] at p1
    refine ⟨F2, ρ2, d, R2, r2, ?_⟩
    have p2 : PostS M H0 W F H σ ρ (nxt (tgt ρ2 t d)) D := p1
    cases h2 : tgt ρ2 t d with
    | none => rw [h2] at p2; exact p2
    | some ρ3 =>
      rw [h2] at p2
      exact fun σ' R' O' P' _ => p2 σ' F2 H1 ⟨R', S2.shrink O', (E1.trans E2).pwk.trans P'⟩
  · rw [h1] at p1; exact p1.elim
theorem i_exp {e : CE} {D : Ends} {σ : L2.St} {H : Hp} (h : tS M H0 W T (.exp e) D σ H) : tDrop (tE M H0 W T e) D σ H := by
  obtain ⟨F, ρ, R, p⟩ := h
  simp only [ex] at p
  exact ⟨F, ρ, R, toS_bind p fun x ρ1 v F1 H1 R1 S1 E1 V1 p1 => p1 σ F1 H1 ⟨R1, S1, E1.pwk⟩⟩
theorem i_retN {D : Ends} {σ : L2.St} {H : Hp} (h : tS M H0 W T .retN D σ H) : tRetN D σ H := by
  obtain ⟨F, ρ, R, p⟩ := h
  exact p σ .non F H (RelS.refl R) rfl fun _ _ z => by cases z
theorem i_pass {D : Ends} {σ : L2.St} {H : Hp} (h : tS M H0 W T .pass D σ H) : tNext D σ H := by
  obtain ⟨F, ρ, R, p⟩ := h
  exact p σ F H (RelS.refl R)
theorem i_brk {D : Ends} {σ : L2.St} {H : Hp} (h : tS M H0 W T .brk D σ H) : tBreak D σ H := by
  obtain ⟨F, ρ, R, p⟩ := h
  exact p σ F H (RelS.refl R)
theorem i_cnt {D : Ends} {σ : L2.St} {H : Hp} (h : tS M H0 W T .cnt D σ H) : tCont D σ H := by
  obtain ⟨F, ρ, R, p⟩ := h
  exact p σ F H (RelS.refl R)
theorem i_snil {D : Ends} {σ : L2.St} {H : Hp} (h : tSs M H0 W T .nil D σ H) : tNext D σ H := by
  obtain ⟨F, ρ, R, p⟩ := h
  exact p σ F H (RelS.refl R)
theorem i_seq {s : CS} {ss : CSs} {D : Ends} {σ : L2.St} {H : Hp} (h : tSs M H0 W T (.cons s ss) D σ H) : tSeq (tS M H0 W T s) (tSs M H0 W T ss) D σ H := by
  obtain ⟨F, ρ, R, p⟩ := h
  simp only [exs] at p
  refine ⟨F, ρ, R, ?_⟩
  cases h1 : ex T s ρ with
  | nx ρ1 => rw [h1] at p; exact fun σ1 F1 H1 z => ⟨F1, ρ1, z.1, PostS.shift (show PostS M H0 W F H σ ρ (exs T ss ρ1) D from p) z⟩
  | br ρ1 => rw [h1] at p; exact p
  | ct ρ1 => rw [h1] at p; exact p
  | rt x ρ1 => rw [h1] at p; exact p
  | exc e ρ1 => rw [h1] at p; exact p
  | bad => rw [h1] at p; exact p
theorem ex_ifs {c : CE} {a b : CSs} {ρ : Env} : ex T (.ifs c a b) ρ = (okB (ev T c ρ)).toS fun k ρ1 => if k then exs T a ρ1 else exs T b ρ1 := by
  simp only [ex]
  cases ev T c ρ with
  | ok x ρ1 =>
    cases x with
    | f d => cases d with
      | bl k => cases k <;> rfl
      | _ => rfl
    | n d => rfl
    | v i => rfl
  | exc e ρ1 => rfl
  | bad => rfl
theorem i_ifs {c : CE} {a b : CSs} {D : Ends} {σ : L2.St} {H : Hp} (h : tS M H0 W T (.ifs c a b) D σ H) : tIfS (tT M H0 W T c) (tSs M H0 W T a) (tSs M H0 W T b) D σ H := by
  obtain ⟨F, ρ, R, p⟩ := h
  rw [ex_ifs] at p
  refine ⟨F, ρ, R, ?_⟩
  refine toS_bind p fun x ρ1 k F1 H1 R1 S1 E1 V1 p1 => ?_
  subst V1
  cases x with
  | true => exact ⟨F1, ρ1, R1, PostS.shift p1 ⟨R1, S1, E1.pwk⟩⟩
  | false => exact ⟨F1, ρ1, R1, PostS.shift p1 ⟨R1, S1, E1.pwk⟩⟩
theorem i_ret {e : CE} {D : Ends} {σ : L2.St} {H : Hp} (h : tS M H0 W T (.ret e) D σ H) : tRet (tE M H0 W T e) D σ H := by
  obtain ⟨F, ρ, R, p⟩ := h
  simp only [ex] at p
  refine ⟨F, ρ, R, toS_bind p fun x ρ1 v F1 H1 R1 S1 E1 V1 p1 => ?_⟩
  have new0 : ∀ {y : Val}, VNew H v y → VNew H0 v y := fun h d a e e' => R.dom a (h d a e e')
  cases x with
  | f d => exact p1 σ v F1 H1 ⟨R1, S1, E1.pwk⟩ V1.1 (new0 V1.2)
  | n d => exact p1 σ v F1 H1 ⟨R1, S1, E1.pwk⟩ V1.1 (new0 V1.2)
  | v i =>
    cases q : slotAt ρ1 i with
    | no => simp only [q] at p1; exact p1.elim
    | pw d => simp only [q] at p1; exact p1.elim
    | fz d =>
      simp only [q] at p1
      obtain ⟨w, h1, h2⟩ := R1.fz i d q
      obtain ⟨g1, _⟩ := V1.1
      rw [g1] at h1; cases h1
      exact p1 σ v F1 H1 ⟨R1, S1, E1.pwk⟩ h2 fun _ _ z => by cases z
    | ow d =>
      simp only [q] at p1
      obtain ⟨a, o, h1, h2, h3, h4⟩ := R1.ow i d (.inl q)
      obtain ⟨g1, _⟩ := V1.1
      rw [g1] at h1; cases h1
      have hi : i < ρ1.length := slotAt_lt (by rw [q]; intro z; cases z)
      have at' : ∀ j, slotAt (ρ1.set i .no) j = if j = i then .no else slotAt ρ1 j := fun j => by
        rw [slotAt_set]; by_cases z : j = i <;> simp [z, hi]
      have own' : ∀ j, IsOwn (slotAt (ρ1.set i .no) j) → j ≠ i ∧ IsOwn (slotAt ρ1 j) := fun j z => by
        rw [at'] at z
        by_cases w : j = i
        · rw [if_pos w] at z; exact z.elim
        · rw [if_neg w] at z; exact ⟨w, z⟩
      have sm : ∀ j s, s ≠ .no → slotAt (ρ1.set i .no) j = s → slotAt ρ1 j = s := fun j s n z => by
        rw [at'] at z
        by_cases w : j = i
        · rw [if_pos w] at z; exact absurd z.symm n
        · rw [if_neg w] at z; exact z
      have oa : ∀ b, OA (ρ1.set i .no) σ b → OA ρ1 σ b := fun b ⟨j, z, w⟩ => ⟨j, (own' j z).2, w⟩
      refine p1 σ _ F1 H1 ⟨⟨R1.sub, by rw [List.length_set]; exact R1.len, fun j d z => R1.fz j d (sm j _ (fun y => by cases y) z), fun j d z => R1.ow j d (z.imp (sm j _ (fun y => by cases y)) (sm j _ (fun y => by cases y))), fun j k b z w => R1.dist j k b (own' j z).2 (own' k w).2,
        fun j d b z => R1.new j d b (sm j _ (fun y => by cases y) z), R1.dom⟩, S1.shrink oa, E1.pwk.trans fun j d z => ⟨⟨d, ?_⟩, rfl⟩⟩ ⟨a, o, rfl, h2, h3, h4, ?_⟩ fun d' b z z' => ?_
      · rw [at']
        have : j ≠ i := by rintro rfl; rw [q] at z; cases z
        rw [if_neg this]; exact z
      · rintro ⟨j, z, w⟩
        obtain ⟨z1, z2⟩ := own' j z
        exact z1 (R1.dist j i a z2 (by rw [q]; exact True.intro) w g1)
      · cases z'
        exact R1.new i d _ q g1
end
end PV

set_option Elab.async false
set_option linter.all false
set_option maxRecDepth 100000
set_option maxHeartbeats 1000000
/-! PvH: own objects changed, parallel stores, while. -/
namespace PV
open PySem L2
section
variable {M : Nm} {H0 : Hp} {W : WX} {T : Tb}
theorem ownAt_some {ρ : Env} {i : Nat} {d : D} (h : ownAt ρ i = some d) : slotAt ρ i = .ow d ∨ slotAt ρ i = .pw d := by
  unfold ownAt at h
  cases q : slotAt ρ i with
  | ow e => rw [q] at h; cases h; exact .inl rfl
  | pw e => rw [q] at h; cases h; exact .inr rfl
  | _ => rw [q] at h; cases h
theorem putOwn_ok {F H : Hp} {σ : L2.St} {ρ ρ' : Env} {i : Nat} {d d' : D} (R : Rel M H0 F H σ ρ) (h : ownAt ρ i = some d) (e : putOwn ρ i d' = some ρ') : ∃ a o, σ[i]? = some (some (.ref a)) ∧ H a = some o ∧ RepTop M F d o ∧ ∀ o', RepTop M F d' o' →
    Rel M H0 F (upd H a o') σ ρ' ∧ Stp F H (OA ρ σ) F (upd H a o') (OA ρ' σ) ∧ ES ρ ρ' := by
  have hs := ownAt_some h
  obtain ⟨a, o, h1, h2, h3, h4⟩ := R.ow i d hs
  refine ⟨a, o, h1, h3, h4, fun o' r => ?_⟩
  have hi : i < ρ.length := slotAt_lt (by rcases hs with g | g <;> (rw [g]; intro z; cases z))
  have er : ρ' = ρ.set i (kindSet (slotAt ρ i) d') := by
    unfold putOwn at e
    rcases hs with g | g <;> (rw [g] at e; cases e; rw [g]; rfl)
  subst er
  have own_i : IsOwn (slotAt ρ i) := by rcases hs with g | g <;> (rw [g]; exact True.intro)
  have at' : ∀ j, slotAt (ρ.set i (kindSet (slotAt ρ i) d')) j = if j = i then kindSet (slotAt ρ i) d' else slotAt ρ j := fun j => by
    rw [slotAt_set]; by_cases z : j = i <;> simp [z, hi]
  have kd : kindSet (slotAt ρ i) d' = .ow d' ∨ kindSet (slotAt ρ i) d' = .pw d' := by rcases hs with g | g <;> (rw [g]; first | exact .inl rfl | exact .inr rfl)
  have own' : ∀ j, IsOwn (slotAt (ρ.set i (kindSet (slotAt ρ i) d')) j) → IsOwn (slotAt ρ j) := fun j z => by
    rw [at'] at z
    by_cases w : j = i
    · rw [w]; exact own_i
    · rw [if_neg w] at z; exact z
  have oa : ∀ b, OA (ρ.set i (kindSet (slotAt ρ i) d')) σ b → OA ρ σ b := fun b ⟨j, z, w⟩ => ⟨j, own' j z, w⟩
  refine ⟨⟨R.sub.mut h2, by rw [List.length_set]; exact R.len, fun j e z => ?_, fun j e z => ?_, fun j k b z w => R.dist j k b (own' j z) (own' k w), fun j e b z w => ?_, fun b z => ?_⟩, ⟨Le.refl F, fun b u z n => ?_, fun b z => ?_, fun b z z' => absurd z z', fun b z => .inl (oa b z)⟩, ⟨by rw [List.length_set], fun j e z => ?_, fun j e z => ?_, fun j e z => ?_, fun j z => ?_⟩⟩
  · rw [at'] at z
    by_cases w : j = i
    · rw [if_pos w] at z; rcases kd with k | k <;> (rw [k] at z; cases z)
    · rw [if_neg w] at z; exact R.fz j e z
  · rw [at'] at z
    by_cases w : j = i
    · rw [if_pos w] at z
      have ed : e = d' := by rcases kd with k | k <;> (rw [k] at z; rcases z with z | z <;> cases z <;> rfl)
      subst ed; subst w
      exact ⟨a, o', h1, h2, upd_same, r⟩
    · rw [if_neg w] at z
      obtain ⟨b, u, g1, g2, g3, g4⟩ := R.ow j e z
      have nb : b ≠ a := by
        rintro rfl
        exact w (R.dist j i b (by rcases z with z | z <;> (rw [z]; exact True.intro)) own_i g1 h1)
      exact ⟨b, u, g1, g2, by rw [upd_ne nb]; exact g3, g4⟩
  · rw [at'] at z
    by_cases y : j = i
    · subst y
      rw [if_pos rfl] at z
      rcases hs with g | g
      · exact R.new j d b g w
      · rw [g] at z; cases z
    · rw [if_neg y] at z; exact R.new j e b z w
  · have nb : b ≠ a := by rintro rfl; rw [upd_same] at z; cases z
    rw [upd_ne nb] at z; exact R.dom b z
  · have nb : b ≠ a := by rintro rfl; exact n ⟨i, own_i, h1⟩
    rw [upd_ne nb]; exact z
  · have nb : b ≠ a := by rintro rfl; rw [upd_same] at z; cases z
    rw [upd_ne nb] at z; exact z
  · have w : j ≠ i := by rintro rfl; rw [z] at own_i; exact own_i
    rw [at', if_neg w]; exact z
  · rw [at']
    by_cases w : j = i
    · subst w; rw [if_pos rfl, z]; exact ⟨d', .inl rfl⟩
    · rw [if_neg w]; exact ⟨e, .inl z⟩
  · rw [at']
    by_cases w : j = i
    · subst w; rw [if_pos rfl, z]; exact ⟨d', rfl⟩
    · rw [if_neg w]; exact ⟨e, z⟩
  · have w : j ≠ i := by rintro rfl; rw [z] at own_i; exact own_i
    rw [at', if_neg w]; exact z
theorem putOwn_some {ρ : Env} {i : Nat} {d d' : D} (h : ownAt ρ i = some d) : ∃ ρ', putOwn ρ i d' = some ρ' := by
  unfold putOwn
  rcases ownAt_some h with g | g <;> (rw [g]; exact ⟨_, rfl⟩)
/-! ### methods that change a list -/
/-- what a change asks of the values: the reading of the method -/
def rMut (M : Nm) (o : MOp) : V → List V → Hp → VK → Prop := match o with
  | .append => rAppend | .pop => rPop | .popAt => rPopAt | .clear => rClear
  | .extend => fun x vs H Q => ∃ l b xs zs, x = .ref l ∧ vs = [.ref b] ∧ H l = some (.lst xs) ∧ SqL M.K H b zs ∧ xs.length + zs.length ≤ sizeLine ∧ Q .non (upd H l (.lst (xs ++ zs)))
theorem ixOf_lt {n : Nat} {i : Int} {k : Nat} (h : ixOf n i = some k) : k < n := by
  unfold ixOf at h
  split at h
  · split at h
    · cases h; omega
    · cases h
  · split at h
    · cases h; omega
    · cases h
theorem ixOf_seq {n : Nat} {i : Int} {k : Nat} (h : ixOf n i = some k) : seqIndex? i n = some k := (ixN_seq (show ixN n i = some k from h)).1
theorem small_63 {i : Int} (h : small i = true) : -(2 ^ 62) ≤ i ∧ i < 2 ^ 62 := by
  unfold small at h
  exact of_decide_eq_true h
theorem mut_ok {o : MOp} {F : Hp} {d d' r : D} {xs : List V} {ds : List D} {vs : List V} {H : Hp} {a : Addr} (l : Le F H) (e : mutD o d ds = some (r, d')) (ha : ∀ ob, H a = some ob → RepTop M F d ob → True) (hr : RepTop M F d (.lst xs)) (hx : H a = some (.lst xs))
    (hv : if o = .append then Reps M F ds vs else Paired (RT M F H) ds vs) {Q : VK} (k : ∀ v ob', Rep M F r v → RepTop M F d' ob' → Q v (upd H a ob')) : rMut M o (.ref a) vs H Q := by
  cases d with
  | lst es =>
    have hr : Reps M F es xs := hr
    have hl := hr.length
    have hL := LIM_line
    cases o with
    | append =>
      rw [if_pos rfl] at hv
      match ds, e with
      | [x], e =>
        simp only [mutD] at e
        split at e
        · rename_i hz
          cases e
          obtain ⟨v, ws, rfl, h1, h2⟩ := hv
          have h2 : ws = [] := h2
          subst h2
          exact ⟨a, xs, v, rfl, rfl, hx, by omega, k .non (.lst (xs ++ [v])) rfl (hr.append ⟨v, [], rfl, h1, rfl⟩)⟩
        · cases e
    | extend =>
      rw [if_neg (by decide)] at hv
      match ds, e with
      | [.lst ys], e =>
        simp only [mutD] at e
        split at e
        · rename_i hz
          cases e
          cases hv with
          | cons g t =>
            cases t
            obtain ⟨b, zs, rfl, s, r2⟩ := g.lst l
            exact ⟨a, b, xs, zs, rfl, rfl, hx, s, by have := r2.length; omega, k .non (.lst (xs ++ zs)) rfl (hr.append r2)⟩
        · cases e
    | pop =>
      rw [if_neg (by decide)] at hv
      match ds, e with
      | [], e =>
        cases hv
        simp only [mutD] at e
        obtain ⟨x, h1, h2⟩ := Option.map_eq_some_iff.mp e
        cases h2
        obtain ⟨v, h3, h4⟩ := hr.at h1
        exact ⟨a, xs, v, rfl, rfl, hx, by rw [← hl]; exact h3, k v (.lst xs.dropLast) h4 hr.dropLast⟩
    | popAt =>
      rw [if_neg (by decide)] at hv
      match ds, e with
      | [.int i], e =>
        simp only [mutD] at e
        split at e
        · rename_i hs
          cases h0 : ixOf es.length i with
          | none => rw [h0] at e; cases e
          | some m =>
            rw [h0] at e
            obtain ⟨x, h1, h2⟩ := Option.map_eq_some_iff.mp (show (es[m]?).map (fun x => (x, D.lst (es.eraseIdx m))) = some (r, d') from e)
            cases h2
            cases hv with
            | cons g t =>
              cases t
              have g := g.int
              subst g
              obtain ⟨v, h3, h4⟩ := hr.at h1
              obtain ⟨s1, s2⟩ := small_63 hs
              exact ⟨a, xs, i, m, v, rfl, rfl, hx, by omega, by omega, by rw [← hl]; exact ixOf_seq h0, h3, k v (.lst (xs.eraseIdx m)) h4 (hr.erase m)⟩
        · cases e
    | clear =>
      rw [if_neg (by decide)] at hv
      match ds, e with
      | [], e =>
        cases hv
        simp only [mutD] at e
        cases e
        exact ⟨a, xs, rfl, rfl, hx, k .non (.lst []) rfl (show Reps M F [] [] from Reps.nil)⟩
  | _ => cases o <;> (simp [mutD] at e)
theorem i_mut {o : MOp} {i : Nat} {es : CEs} {σ : L2.St} {H : Hp} {Q : VK} (h : tE M H0 W T (.mut o i es) σ H Q) : tBM M.K "list" (rMut M o) (tVar i) (tA M H0 W T es) σ H Q := by
  obtain ⟨F, ρ, R, p⟩ := h
  simp only [ev] at p
  cases h0 : ownAt ρ i with
  | none => simp only [h0] at p; exact p.elim
  | some d0 =>
    cases d0 with
    | lst ds0 =>
      simp only [h0] at p
      obtain ⟨a0, o0, q1, q2, q3, q4⟩ := R.ow i _ (ownAt_some h0)
      refine ⟨.ref a0, q1, ?_, F, ρ, R, Post.bind p fun xs ρ1 vs F1 H1 R1 S1 E1 V1 p1 => ?_⟩
      · cases o0 <;> first | exact q4.elim | exact .inl ⟨rfl, _, .inl (.inl q3)⟩
      -- the arguments, read or frozen
      have arg : ∀ {ds : List D} {ρ2 : Env}, (if o = .append then frs ρ1 xs else (rds ρ1 xs).map fun ds => (ds, ρ1)) = some (ds, ρ2) →
          ∃ F2, Rel M H0 F2 H1 σ ρ2 ∧ Stp F H (OA ρ σ) F2 H1 (OA ρ2 σ) ∧ ES ρ1 ρ2 ∧ (if o = .append then Reps M F2 ds vs else Paired (RT M F2 H1) ds vs) := fun {ds ρ2} e => by
        by_cases ho : o = .append
        · rw [if_pos ho] at e
          obtain ⟨F2, R2, S2, E2, P2, _, _⟩ := frs_ok R1 S1 V1.1 V1.2 e
          exact ⟨F2, R2, S2, E2, by rw [if_pos ho]; exact P2⟩
        · rw [if_neg ho] at e
          obtain ⟨ds', h1, h2⟩ := Option.map_eq_some_iff.mp e
          cases h2
          exact ⟨F1, R1, S1, ES.refl _, by rw [if_neg ho]; exact V1.1.rts R1 h1⟩
      cases h1 : (if o = .append then frs ρ1 xs else (rds ρ1 xs).map fun ds => (ds, ρ1)) with
      | none => simp only [h1] at p1; exact p1.elim
      | some q =>
        obtain ⟨ds, ρ2⟩ := q
        simp only [h1] at p1
        obtain ⟨F2, R2, S2, E2, A2⟩ := arg h1
        cases h2 : ownAt ρ2 i with
        | none => simp only [h2, Option.bind] at p1; exact p1.elim
        | some d =>
          simp only [h2, Option.bind] at p1
          cases h3 : mutD o d ds with
          | none => simp only [h3] at p1; exact p1.elim
          | some q =>
            obtain ⟨r, d'⟩ := q
            simp only [h3] at p1
            obtain ⟨ρ3, h4⟩ := putOwn_some (d' := d') h2
            simp only [h4] at p1
            obtain ⟨a, ob, g1, g2, g3, g4⟩ := putOwn_ok R2 h2 h4
            rw [q1] at g1; cases g1
            have isl : ∃ us, ob = .lst us := by
              cases d with
              | lst es => cases ob <;> first | exact g3.elim | exact ⟨_, rfl⟩
              | _ => cases o <;> (simp [mutD] at h3)
            obtain ⟨us, rfl⟩ := isl
            refine mut_ok R2.sub h3 (fun _ _ _ => True.intro) g3 g2 A2 fun v ob' k1 k2 => ?_
            obtain ⟨R3, S3, E3⟩ := g4 ob' k2
            exact p1 v F2 _ R3 (S2.trans S3) (E1.trans (E2.trans E3)) ⟨k1, fun _ _ z => by cases z⟩
    | _ => simp only [h0] at p; exact p.elim
theorem own_slot {F H : Hp} {σ : L2.St} {ρ : Env} {i : Nat} (R : Rel M H0 F H σ ρ) (h : (ownAt ρ i).isSome = true) : ∃ v, σ[i]? = some (some v) := by
  cases q : ownAt ρ i with
  | none => rw [q] at h; cases h
  | some d => obtain ⟨a, o, h1, _⟩ := R.ow i d (ownAt_some q); exact ⟨_, h1⟩
/-! ### x[k] = e -/
def rSet (M : Nm) : TSet := fun o i v H Q => ∃ F a ob d k e d', o = .ref a ∧ Le F H ∧ H a = some ob ∧ RepTop M F d ob ∧ RT M F H k i ∧ Rep M F e v ∧ setD d k e = some d' ∧ ∀ ob', RepTop M F d' ob' → Q (upd H a ob')
theorem i_sset {i : Nat} {k e : CE} {D : Ends} {σ : L2.St} {H : Hp} (h : tS M H0 W T (.sset i k e) D σ H) : tAsg (tE M H0 W T e) (gSub (tVar i) (tE M H0 W T k) (rSet M)) D σ H := by
  obtain ⟨F, ρ, R, p⟩ := h
  simp only [ex] at p
  by_cases hs : (ownAt ρ i).isSome = true
  case neg => rw [if_neg hs] at p; exact p.elim
  rw [if_pos hs] at p
  obtain ⟨v0, hv⟩ := own_slot R hs
  refine ⟨F, ρ, R, toS_bind p fun x ρ1 v F1 H1 R1 S1 E1 V1 p1 => ⟨v0, hv, F1, ρ1, R1, toS_bind2 p1 S1 E1 fun y ρ2 w F2 H2 R2 S2 E2 V2 p2 => ?_⟩⟩
  cases h1 : rd ρ2 y with
  | none => simp only [h1] at p2; exact p2.elim
  | some kd =>
    cases h2 : fr ρ2 x with
    | none => simp only [h1, h2] at p2; exact p2.elim
    | some q =>
      obtain ⟨d, ρ3⟩ := q
      simp only [h1, h2] at p2
      have key := V2.1.rt R2 h1
      obtain ⟨F3, z⟩ := fr_ok R2 (S1.trans S2) (V1.1.step S2 E2) V1.2 h2
      cases h3 : ownAt ρ3 i with
      | none => simp only [h3, Option.bind] at p2; exact p2.elim
      | some o =>
        cases h4 : setD o kd d with
        | none => simp only [h3, h4, Option.bind] at p2; exact p2.elim
        | some o' =>
          obtain ⟨ρ4, h5⟩ := putOwn_some (d' := o') h3
          simp only [h3, h4, h5, Option.bind] at p2
          obtain ⟨a, ob, g1, g2, g3, g4⟩ := putOwn_ok z.rel h3 h5
          rw [hv] at g1; cases g1
          refine ⟨F3, a, ob, o, kd, d, o', rfl, z.rel.sub, g2, g3, key.mono z.le, z.rep, h4, fun ob' k2 => ?_⟩
          obtain ⟨R3, S3, E3⟩ := g4 ob' k2
          exact p2 σ F3 _ ⟨R3, z.stp.trans S3, (E1.trans (E2.trans (z.es.trans E3))).pwk⟩
/-! ### e.f = v -/
theorem setF_rep {F : Hp} {a : Nat} {d : D} {v : V} (inj : ∀ a b, M.an a = M.an b → a = b) (r : Rep M F d v) : ∀ {fs : List (Nat × D)} {ws : List (Str × V)}, RepA M F fs ws → RepA M F (setF a d fs) (putF (M.an a) v ws)
  | [], _, h => by
    have h : _ = [] := h
    subst h
    exact ⟨v, [], rfl, r, rfl⟩
  | (k, x) :: fs, _, ⟨w, us, e, h1, h2⟩ => by
    subst e
    by_cases hk : k = a
    · subst hk
      simp only [setF, if_true, putF]
      exact ⟨v, us, rfl, r, h2⟩
    · have hn : M.an k ≠ M.an a := fun z => hk (inj _ _ z)
      simp only [setF, if_neg hk, putF, if_neg hn]
      exact ⟨w, _, rfl, h1, setF_rep inj r h2⟩
theorem i_fset (kt : Kt M T) {i a : Nat} {e : CE} {D : Ends} {σ : L2.St} {H : Hp} (h : tS M H0 W T (.fset i a e) D σ H) : sFld M.K (tVar i) (tE M H0 W T e) (M.an a) D σ H := by
  obtain ⟨F, ρ, R, p⟩ := h
  simp only [ex] at p
  by_cases hs : (ownAt ρ i).isSome = true
  case neg => rw [if_neg hs] at p; exact p.elim
  rw [if_pos hs] at p
  obtain ⟨v0, hv⟩ := own_slot R hs
  refine ⟨F, ρ, R, toS_bind p fun x ρ1 v F1 H1 R1 S1 E1 V1 p1 => ⟨v0, hv, ?_⟩⟩
  rcases okD_cases x ρ1 with ⟨d, ρ2, h1⟩ | h1
  · obtain ⟨F2, R2, S2, E2, r2, _⟩ := okD_ok R1 S1 V1.1 V1.2 h1
    rw [h1] at p1
    simp only [Out.toS] at p1
    cases h2 : ownAt ρ2 i with
    | none => simp only [h2] at p1; exact p1.elim
    | some o =>
      cases o with
      | obj C fs =>
        simp only [h2] at p1
        by_cases hc : (decide (fs.length < 1000) && T.fl C a) = true
        · rw [if_pos hc] at p1
          rw [Bool.and_eq_true, decide_eq_true_eq] at hc
          obtain ⟨ρ4, h5⟩ := putOwn_some (d' := .obj C (setF a d fs)) h2
          rw [h5] at p1
          obtain ⟨b, ob, g1, g2, g3, g4⟩ := putOwn_ok R2 h2 h5
          rw [hv] at g1; cases g1
          cases ob with
          | ins A dx ws =>
            obtain ⟨rfl, g3⟩ := g3
            obtain ⟨k1, k2⟩ := kt.cls C a hc.2
            have hl : ∀ {fs : List (Nat × PV.D)} {ws : List (Str × V)}, RepA M F2 fs ws → fs.length = ws.length := by
              intro fs
              induction fs with
              | nil => intro ws h; have h : ws = [] := h; subst h; rfl
              | cons x fs ih => rintro ws ⟨w, us, e, _, h2⟩; subst e; simp [ih h2]
            refine ⟨b, _, dx, ws, rfl, g2, k1, k2, by rw [← hl g3]; exact hc.1, ?_⟩
            obtain ⟨R3, S3, E3⟩ := g4 (.ins (M.cl C) dx (putF (M.an a) v ws)) ⟨rfl, setF_rep kt.inj r2 g3⟩
            exact p1 σ F2 _ ⟨R3, S2.trans S3, (E1.trans (E2.trans E3)).pwk⟩
          | _ => exact g3.elim
        · rw [if_neg hc] at p1; exact p1.elim
      | _ => simp only [h2] at p1; exact p1.elim
  · rw [h1] at p1; exact p1.elim
/-! ### x op= e -/
theorem i_aug {i : Nat} {o : Op} {e : CE} {D : Ends} {σ : L2.St} {H : Hp} (h : tS M H0 W T (.aug i o e) D σ H) : tAug i (tE M H0 W T e) (rO2 M (opAug o)) D σ H := by
  obtain ⟨F, ρ, R, p⟩ := h
  simp only [ex] at p
  cases h0 : slotAt ρ i with
  | fz d0 =>
    simp only [h0] at p
    obtain ⟨v0, q1, q2⟩ := R.fz i d0 h0
    refine ⟨v0, q1, F, ρ, R, toS_bind p fun x ρ1 v F1 H1 R1 S1 E1 V1 p1 => ?_⟩
    cases h1 : rd ρ1 x with
    | none => simp only [h1, Option.bind] at p1; exact p1.elim
    | some y =>
      simp only [h1, Option.bind] at p1
      cases h2 : opAug o d0 y with
      | none => simp only [h2] at p1; exact p1.elim
      | some r =>
        simp only [h2] at p1
        cases r with
        | f d =>
          refine ⟨F1, d0, y, _, R1.sub, .inl (Rep.mono S1.le _ _ q2), V1.1.rt R1 h1, h2, fun z F2 H2 op => ?_⟩
          obtain ⟨R2, S2, v2, _⟩ := OpPost.rel R1 op
          dsimp only at p1
          cases h3 : setS ρ1 i (.fz d) with
          | none => rw [h3] at p1; exact p1.elim
          | some ρ2 =>
            rw [h3] at p1
            obtain ⟨R3, O3, P3⟩ := R2.setF v2 h3
            exact p1 _ F2 H2 ⟨R3, (S1.trans S2).shrink O3, E1.pwk.trans P3⟩
        | _ => exact p1.elim
  | _ => simp only [h0] at p; exact p.elim
/-! ### a, b = x, y -/
/-- values none of which is a slot's -/
def NoV : List Val → Prop
  | [] => True
  | .v _ :: _ => False
  | _ :: r => NoV r
theorem prep_ok {Fs Hs H : Hp} {As : Addr → Prop} {σ : L2.St} : ∀ {xs : List Val} {vs : List V} {k : List Bool} {F : Hp} {ρ ρ' : Env} {ys : List Val}, Rel M H0 F H σ ρ → Stp Fs Hs As F H (OA ρ σ) → VsOk M F H σ ρ vs xs → VsNew Hs vs xs → prep ρ k xs = some (ys, ρ') →
    ∃ F', Rel M H0 F' H σ ρ' ∧ Stp Fs Hs As F' H (OA ρ' σ) ∧ ES ρ ρ' ∧ Le F F' ∧ VsOk M F' H σ ρ' vs ys ∧ VsNew Hs vs ys ∧ NoV ys ∧ (∀ b, F b = none → F' b ≠ none → ∃ x, (V.ref b, x) ∈ vs.zip xs ∧ ((∃ d, x = .n d) ∨ OA ρ σ b)) ∧ ∀ w d, (w, Val.n d) ∈ vs.zip ys → (w, Val.n d) ∈ vs.zip xs
  | [], vs, k, F, ρ, ρ', ys, R, S, h, _, e => by
    cases vs with
    | cons v vs => obtain ⟨x, ys, q, _⟩ := h; cases q
    | nil =>
      unfold prep at e; cases e
      exact ⟨F, R, S, ES.refl _, Le.refl _, rfl, by unfold VsNew; trivial, True.intro, fun b z z' => absurd z z', fun w d m => by simp at m⟩
  | x :: xs, vs, k, F, ρ, ρ', ys, R, S, h, hn, e => by
    cases vs with
    | nil => cases h
    | cons v vs =>
    obtain ⟨x', ys', q, h, r, n⟩ := h
    cases q
    obtain ⟨hn1, hn2⟩ := hn
    have frozen : ∀ {d : PV.D} {ρ1 : Env}, fr ρ x = some (d, ρ1) → (prep ρ1 k.tail xs).map (fun p => (Val.f d :: p.1, p.2)) = some (ys, ρ') →
        ∃ F', Rel M H0 F' H σ ρ' ∧ Stp Fs Hs As F' H (OA ρ' σ) ∧ ES ρ ρ' ∧ Le F F' ∧ VsOk M F' H σ ρ' (v :: vs) ys ∧ VsNew Hs (v :: vs) ys ∧ NoV ys ∧ (∀ b, F b = none → F' b ≠ none → ∃ y, (V.ref b, y) ∈ (v :: vs).zip (x :: xs) ∧ ((∃ d, y = .n d) ∨ OA ρ σ b)) ∧ ∀ w d, (w, Val.n d) ∈ (v :: vs).zip ys → (w, Val.n d) ∈ (v :: vs).zip (x :: xs) := fun {d ρ1} h1 h2 => by
      obtain ⟨⟨zs, ρ2⟩, h3, h4⟩ := Option.map_eq_some_iff.mp h2
      cases h4
      obtain ⟨F1, z⟩ := fr_ok R S h hn1 h1
      have keep : ∀ {vs : List V} {ys : List Val}, VsOk M F H σ ρ vs ys → (∀ w y, (w, y) ∈ vs.zip ys → ∀ d d', x = .n d → y = .n d' → w ≠ v) → VsOk M F1 H σ ρ1 vs ys := by
        intro vs
        induction vs with
        | nil => intro ys h _; exact h
        | cons w vs ih =>
          rintro ys ⟨y, ys', rfl, g, gr, gn⟩ m
          exact ⟨y, ys', rfl, z.keep g (fun d d' e e' => m w y (by simp) d d' e e'), ih gr (fun w' y' hm => m w' y' (by simp [hm])), gn⟩
      obtain ⟨F2, R2, S2, E2, L2, V2, N2, O2, Z2, M2⟩ := prep_ok z.rel z.stp (keep r n) hn2 h3
      refine ⟨F2, R2, S2, z.es.trans E2, z.le.trans L2, ⟨.f d, zs, rfl, Rep.mono L2 _ _ z.rep, V2, fun _ _ _ _ _ q => by cases q⟩, ⟨fun _ _ q => (by cases q), N2⟩, O2, fun b zb zb' => ?_, fun w d m => ?_⟩
      · by_cases q : F1 b = none
        · obtain ⟨y, m, c⟩ := Z2 b q zb'
          exact ⟨y, by simp [m], c.imp id fun w => z.es.oa w⟩
        · obtain ⟨e1, c⟩ := z.only b zb q
          exact ⟨x, by simp [e1], c⟩
      · simp at m
        simp [M2 w d m]
    have kept : ∀ {d : PV.D}, x = .n d → (prep ρ k.tail xs).map (fun p => (Val.n d :: p.1, p.2)) = some (ys, ρ') →
        ∃ F', Rel M H0 F' H σ ρ' ∧ Stp Fs Hs As F' H (OA ρ' σ) ∧ ES ρ ρ' ∧ Le F F' ∧ VsOk M F' H σ ρ' (v :: vs) ys ∧ VsNew Hs (v :: vs) ys ∧ NoV ys ∧ (∀ b, F b = none → F' b ≠ none → ∃ y, (V.ref b, y) ∈ (v :: vs).zip (x :: xs) ∧ ((∃ d, y = .n d) ∨ OA ρ σ b)) ∧ ∀ w d, (w, Val.n d) ∈ (v :: vs).zip ys → (w, Val.n d) ∈ (v :: vs).zip (x :: xs) := fun {d} hx h2 => by
      obtain ⟨⟨zs, ρ2⟩, h3, h4⟩ := Option.map_eq_some_iff.mp h2
      cases h4
      subst hx
      obtain ⟨F2, R2, S2, E2, L2, V2, N2, O2, Z2, M2⟩ := prep_ok R S r hn2 h3
      obtain ⟨a, o, rfl, e2, e3, e4, e5⟩ := h
      have fa : F2 a = none := by
        cases q : F2 a with
        | none => rfl
        | some u =>
          exfalso
          obtain ⟨y, m, c⟩ := Z2 a e2 (by rw [q]; intro z; cases z)
          rcases c with ⟨d', c⟩ | c
          · exact n _ y m d d' rfl c rfl
          · exact e5 c
      refine ⟨F2, R2, S2, E2, L2, ⟨.n d, zs, rfl, ⟨a, o, rfl, fa, e3, e4.mono L2, fun q => e5 (E2.oa q)⟩, V2, fun w y m d1 d2 q q' => ?_⟩, ⟨hn1, N2⟩, O2, fun b zb zb' => ?_, fun w d m => ?_⟩
      · subst q'
        exact n w _ (M2 w d2 m) d d2 rfl rfl
      · obtain ⟨y, m, c⟩ := Z2 b zb zb'
        exact ⟨y, by simp [m], c⟩
      · simp at m
        rcases m with ⟨rfl, rfl⟩ | m
        · simp
        · simp [M2 w d m]
    cases x with
    | n d =>
      unfold prep at e
      split at e
      · exact kept rfl e
      · exact frozen rfl e
    | f d =>
      unfold prep at e
      exact frozen rfl e
    | v i =>
      unfold prep at e
      cases h1 : fr ρ (.v i) with
      | none => rw [h1] at e; cases e
      | some p => rw [h1] at e; exact frozen h1 e
theorem memV {F H : Hp} {σ : L2.St} {ρ : Env} : ∀ {vs : List V} {ys : List Val} {w : V} {y : Val}, VsOk M F H σ ρ vs ys → (w, y) ∈ vs.zip ys → VOk M F H σ ρ w y
  | [], _, _, _, _, m => by simp at m
  | v :: vs, _, w, y, ⟨x, ys, q, h, r, n⟩, m => by
    subst q
    simp at m
    rcases m with ⟨rfl, rfl⟩ | m
    · exact h
    · exact memV r m
/-- values one after another into names -/
def putAllV : L2.St → List Nat → List V → L2.St
  | σ, i :: is, v :: vs => putAllV (σ.set i (some v)) is vs
  | σ, _, _ => σ
theorem storeAll_ok {Fs Hs H : Hp} {As : Addr → Prop} (hd : ∀ a, Hs a = none → H0 a = none) : ∀ {is : List Nat} {ys : List Val} {vs : List V} {F : Hp} {σ : L2.St} {ρ ρ' : Env}, Rel M H0 F H σ ρ → Stp Fs Hs As F H (OA ρ σ) → VsOk M F H σ ρ vs ys → VsNew Hs vs ys → NoV ys → storeAll ρ is ys = some ρ' →
    Rel M H0 F H (putAllV σ is vs) ρ' ∧ Stp Fs Hs As F H (OA ρ' (putAllV σ is vs)) ∧ PWk ρ σ ρ' (putAllV σ is vs) ∧ vs.length = is.length
  | [], [], vs, F, σ, ρ, ρ', R, S, V, N, O, e => by
    cases vs with
    | cons v vs => obtain ⟨_, _, q, _⟩ := V; cases q
    | nil => cases e; exact ⟨R, S, PWk.refl _ _, rfl⟩
  | [], _ :: _, vs, F, σ, ρ, ρ', R, S, V, N, O, e => by cases e
  | _ :: _, [], vs, F, σ, ρ, ρ', R, S, V, N, O, e => by cases e
  | i :: is, y :: ys, vs, F, σ, ρ, ρ', R, S, V, N, O, e => by
    cases vs with
    | nil => cases V
    | cons v vs =>
    obtain ⟨y', ys', q, h, r, n⟩ := V
    cases q
    obtain ⟨N1, N2⟩ := N
    simp only [storeAll] at e
    cases h1 : put1 ρ i y with
    | none => rw [h1] at e; cases e
    | some ρ1 =>
      rw [h1] at e
      -- the rest stands
      have rest : ∀ {vs : List V} {ys : List Val}, VsOk M F H σ ρ vs ys → NoV ys → (∀ w x, (w, x) ∈ vs.zip ys → ∀ d, x = .n d → ∀ a, w = .ref a → ¬ OA ρ1 (σ.set i (some v)) a) → VsOk M F H (σ.set i (some v)) ρ1 vs ys := by
        intro vs
        induction vs with
        | nil => intro ys h _ _; exact h
        | cons w vs ih =>
          rintro ys ⟨y, ys', rfl, g, gr, gn⟩ o m
          have o' : NoV ys' := by cases y <;> first | exact o | exact o.elim
          refine ⟨y, ys', rfl, ?_, ih gr o' (fun w' y' hm => m w' y' (by simp [hm])), gn⟩
          cases y with
          | f d => exact g
          | v j => exact o.elim
          | n d =>
            obtain ⟨a, ob, rfl, e2, e3, e4, e5⟩ := g
            exact ⟨a, ob, rfl, e2, e3, e4, m _ _ (by simp) d rfl a rfl⟩
      have o' : NoV ys := by cases y <;> first | exact O | exact O.elim
      cases y with
      | v j => exact O.elim
      | f d =>
        obtain ⟨R2, O2, P2⟩ := R.setF h h1
        obtain ⟨R3, S3, P3, L3⟩ := storeAll_ok hd R2 (S.shrink O2) (rest r o' fun w x m d' ex a ew q => by
          subst ex; subst ew
          obtain ⟨_, _, q1, _, _, _, q2⟩ := memV r m
          cases q1
          exact q2 (O2 a q)) N2 o' e
        exact ⟨R3, S3, P2.trans P3, by simp [L3]⟩
      | n d =>
        obtain ⟨a, o, rfl, e2, e3, e4, e5⟩ := h
        obtain ⟨R2, O2, P2⟩ := R.setO e2 e3 e4 e5 (hd a (N1 d a rfl rfl)) (show setS ρ i (.ow d) = some ρ1 from h1)
        have S2 : Stp Fs Hs As F H (OA ρ1 (σ.set i (some (.ref a)))) := ⟨S.le, S.fr, S.dm, S.nw, fun b z => (O2 b z).elim (S.ow b) fun y => by subst y; exact .inr (N1 d _ rfl rfl)⟩
        obtain ⟨R3, S3, P3, L3⟩ := storeAll_ok hd R2 S2 (rest r o' fun w x m d' ex b ew q => by
          subst ex; subst ew
          obtain ⟨_, _, q1, _, _, _, q2⟩ := memV r m
          cases q1
          rcases O2 b q with q | q
          · exact q2 q
          · subst q; exact n _ _ m d d' rfl rfl rfl) N2 o' e
        exact ⟨R3, S3, P2.trans P3, by simp [L3]⟩
theorem i_par {is : List Nat} {k : List Bool} {es : CEs} {D : Ends} {σ : L2.St} {H : Hp} (h : tS M H0 W T (.par is k es) D σ H) : tA M H0 W T es σ H fun vs H1 => vs.length = is.length ∧ D.nx (putAllV σ is vs) H1 := by
  obtain ⟨F, ρ, R, p⟩ := h
  simp only [ex] at p
  refine ⟨F, ρ, R, toS_bind p fun xs ρ1 vs F1 H1 R1 S1 E1 V1 p1 => ?_⟩
  cases h1 : prep ρ1 k xs with
  | none => simp only [h1, Option.bind] at p1; exact p1.elim
  | some q =>
    obtain ⟨ys, ρ2⟩ := q
    simp only [h1, Option.bind] at p1
    obtain ⟨F2, R2, S2, E2, _, V2, N2, O2, _, _⟩ := prep_ok R1 S1 V1.1 V1.2 h1
    cases h2 : storeAll ρ2 is ys with
    | none => rw [h2] at p1; exact p1.elim
    | some ρ3 =>
      rw [h2] at p1
      obtain ⟨R3, S3, P3, L3⟩ := storeAll_ok R.dom R2 S2 V2 N2 O2 h2
      exact ⟨L3, p1 _ F2 H1 ⟨R3, S3, (E1.trans E2).pwk.trans P3⟩⟩
theorem i_par2 {i j : Nat} {k : List Bool} {es : CEs} {D : Ends} {σ : L2.St} {H : Hp} (h : tS M H0 W T (.par [i, j] k es) D σ H) : tPar i j (tA M H0 W T es) D σ H := by
  have q := i_par h
  obtain ⟨F, ρ, R, p⟩ := q
  refine ⟨F, ρ, R, p.imp (fun _ _ _ _ _ z => z) fun vs H1 ⟨h1, h2⟩ => ?_⟩
  match vs, h1 with
  | [v, w], _ => exact ⟨v, w, rfl, h2⟩
theorem i_par3 {i j l : Nat} {k : List Bool} {es : CEs} {D : Ends} {σ : L2.St} {H : Hp} (h : tS M H0 W T (.par [i, j, l] k es) D σ H) : tPar3 i j l (tA M H0 W T es) D σ H := by
  have q := i_par h
  obtain ⟨F, ρ, R, p⟩ := q
  refine ⟨F, ρ, R, p.imp (fun _ _ _ _ _ z => z) fun vs H1 ⟨h1, h2⟩ => ?_⟩
  match vs, h1 with
  | [u, v, w], _ => exact ⟨u, v, w, rfl, h2⟩
/-! ### while -/
theorem whileN_succ {c : Env → Out Val} {b : Env → SOut} {n : Nat} {ρ : Env} : whileN c b (n + 1) ρ = (okB (c ρ)).toS fun k ρ1 => if k then (match b ρ1 with
      | .nx ρ2 => whileN c b n ρ2
      | .ct ρ2 => whileN c b n ρ2
      | .br ρ2 => .nx ρ2
      | .rt v ρ2 => .rt v ρ2
      | .exc e ρ2 => .exc e ρ2
      | .bad => .bad) else .nx ρ1 := by
  rw [show whileN c b (n + 1) ρ = (c ρ).toS fun v ρ1 => match v with
    | .f (.bl true) => match b ρ1 with
      | .nx ρ2 => whileN c b n ρ2
      | .ct ρ2 => whileN c b n ρ2
      | .br ρ2 => .nx ρ2
      | .rt v ρ2 => .rt v ρ2
      | .exc e ρ2 => .exc e ρ2
      | .bad => .bad
    | .f (.bl false) => .nx ρ1
    | _ => .bad from rfl]
  cases c ρ with
  | ok x ρ1 =>
    cases x with
    | f d => cases d with
      | bl k => cases k <;> rfl
      | _ => rfl
    | n d => rfl
    | v i => rfl
  | exc e ρ1 => rfl
  | bad => rfl
theorem i_whl {c : CE} {b : CSs} {D : Ends} {σ : L2.St} {H : Hp} (h : tS M H0 W T (.whl c b) D σ H) : tWhile (tT M H0 W T c) (tSs M H0 W T b) D σ H := by
  obtain ⟨F, ρ, R, p⟩ := h
  simp only [ex] at p
  refine ⟨fun m σ H => ∃ F ρ, Rel M H0 F H σ ρ ∧ PostS M H0 W F H σ ρ (whileN (fun ρ => ev T c ρ) (fun ρ => exs T b ρ) m ρ) D, ⟨TURNS, F, ρ, R, p⟩, ?_⟩
  rintro m σ H ⟨F, ρ, R, p⟩
  cases m with
  | zero => exact p.elim
  | succ n =>
    rw [whileN_succ] at p
    refine ⟨F, ρ, R, toS_bind p fun k ρ1 k' F1 H1 R1 S1 E1 V1 p1 => ?_⟩
    subst V1
    have S : RelS M H0 F H σ ρ F1 H1 σ ρ1 := ⟨R1, S1, E1.pwk⟩
    cases k with
    | false => exact p1 σ F1 H1 S
    | true =>
      rw [if_pos rfl] at p1 ⊢
      have p2 := PostS.shift p1 S
      refine ⟨fun σ' H' => ∃ F' ρ', Rel M H0 F' H' σ' ρ' ∧ PostS M H0 W F' H' σ' ρ' (whileN (fun ρ => ev T c ρ) (fun ρ => exs T b ρ) n ρ') D, fun σ' H' z => ⟨n, Nat.lt_succ_self n, z⟩, F1, ρ1, R1, ?_⟩
      cases h2 : exs T b ρ1 with
      | nx ρ2 => rw [h2] at p2; exact fun σ' F' H' z => ⟨F', ρ2, z.1, p2.shift z⟩
      | ct ρ2 => rw [h2] at p2; exact fun σ' F' H' z => ⟨F', ρ2, z.1, p2.shift z⟩
      | br ρ2 => rw [h2] at p2; exact p2
      | rt v ρ2 => rw [h2] at p2; exact p2
      | exc e ρ2 => rw [h2] at p2; exact p2
      | bad => rw [h2] at p2; exact p2
end
end PV

set_option Elab.async false
set_option linter.all false
set_option maxRecDepth 100000
set_option maxHeartbeats 1000000
/-! PvI: what is walked; for; comprehensions. -/
namespace PV
open PySem L2
/-- what was frozen at the start of a walk stands -/
def Keep (F1 H1 H : Hp) : Prop := ∀ b o, F1 b ≠ none → H1 b = some o → H b = some o
theorem Keep.refl (F H : Hp) : Keep F H H := fun _ _ _ h => h
structure IterOk (M : Nm) (F1 H1 : Hp) (J : It) (ds : List D) : Prop where
  go : ∀ i H, i < ds.length → Keep F1 H1 H → J.go i H
  stop : ∀ H, Keep F1 H1 H → J.stop ds.length H
  yld : ∀ i H x H', i < ds.length → Keep F1 H1 H → J.yld i H x H' → ∃ d, ds[i]? = some d ∧ ((H' = H ∧ Rep M F1 d x) ∨ ∃ T vs es, x = .ref T ∧ H T = none ∧ H' = upd H T (.tup vs) ∧ d = .tup es ∧ Reps M F1 es vs)
/-- a dict is locked, or nothing -/
def Lk (HX F0 H0' F1 H1 : Hp) : Prop := (F1 = F0 ∧ H1 = H0') ∨ ∃ d od kvs, Rd F0 d (.dK kvs) ∧ H0' d = some (.dK kvs) ∧ (∀ o' u', HX d ≠ some (.frz o' u')) ∧ F1 = upd F0 d (.frz od (.dK kvs)) ∧ H1 = upd H0' d (.frz od (.dK kvs))
/-- something locked is unlocked, or nothing -/
def Unl (HX H H' : Hp) : Prop := H' = H ∨ ∃ d od u, H d = some (.frz od u) ∧ (∀ o' u', HX d ≠ some (.frz o' u')) ∧ H' = upd H d u
section
variable {M : Nm} {H0 : Hp} {W : WX} {T : Tb}
def PostI (M : Nm) (H0 : Hp) (W : WX) (HX F H : Hp) (σ : L2.St) (ρ : Env) (r : Out (List D)) (R : It → Hp → Prop) : Prop := match r with
  | .ok ds ρ' => ∀ J F0 H0' F1 H1, Rel M H0 F0 H0' σ ρ' → Stp F H (OA ρ σ) F0 H0' (OA ρ' σ) → ES ρ ρ' → Lk HX F0 H0' F1 H1 → IterOk M F1 H1 J ds → R J H1
  | .exc e ρ' => ∀ cls d F' H', Rel M H0 F' H' σ ρ' → Stp F H (OA ρ σ) F' H' (OA ρ' σ) → ES ρ ρ' → XOk M F' H' e cls d → W cls d σ H'
  | .bad => False
def tI (M : Nm) (H0 : Hp) (W : WX) (T : Tb) (HX : Hp) (c : CI) : TI := fun σ H R => ∃ F ρ, Rel M H0 F H σ ρ ∧ PostI M H0 W HX F H σ ρ (evI T c ρ) R
/-! ### locks -/
theorem Le.lock {F : Hp} {d : Addr} {od : Obj} {kvs : List (Key × V)} (h : Rd F d (.dK kvs)) : Le F (upd F d (.frz od (.dK kvs))) := by
  have ne : ∀ {a : Addr} {u : HO}, Rd F a u → (∀ xs, u ≠ .dK xs) → (∀ o w, u ≠ .frz o w) → a ≠ d := fun {a u} r n n' => by
    rintro rfl
    rcases r with r | ⟨o, r⟩ <;> rcases h with h | ⟨o', h⟩ <;> rw [h] at r <;> cases r
    · exact n _ rfl
    · exact n' _ _ rfl
    · exact n _ rfl
  have keepR : ∀ {a : Addr} {u : HO}, a ≠ d → Rd F a u → Rd (upd F d (.frz od (.dK kvs))) a u := fun {a u} q r => by
    rcases r with r | ⟨o, r⟩
    · exact .inl (by rw [upd_ne q]; exact r)
    · exact .inr ⟨o, by rw [upd_ne q]; exact r⟩
  have neX : ∀ {a : Addr} {u : HO}, F a = some u → (∀ xs, u ≠ .dK xs) → (∀ o w, u ≠ .frz o w) → a ≠ d := fun {a u} r n n' => by
    rintro rfl
    rcases h with h | ⟨o', h⟩ <;> rw [h] at r <;> cases r
    · exact n _ rfl
    · exact n' _ _ rfl
  refine ⟨fun a xs r => keepR (ne r (fun _ z => by cases z) fun _ _ z => by cases z) r, fun a xs r => by rw [upd_ne (neX r (fun _ z => by cases z) fun _ _ z => by cases z)]; exact r, fun a xs r => keepR (ne r (fun _ z => by cases z) fun _ _ z => by cases z) r, fun a xs r => ?_,
    fun a xs r => keepR (ne r (fun _ z => by cases z) fun _ _ z => by cases z) r, fun a C dx fs r => by rw [upd_ne (neX r (fun _ z => by cases z) fun _ _ z => by cases z)]; exact r, fun a e => ?_⟩
  · by_cases q : a = d
    · subst q
      have : xs = kvs := by
        rcases r with r | ⟨o, r⟩ <;> rcases h with h | ⟨o', h⟩ <;> rw [h] at r <;> cases r <;> rfl
      subst this
      exact .inr ⟨od, upd_same⟩
    · exact keepR q r
  · by_cases q : a = d
    · subst q; rw [upd_same] at e; cases e
    · rw [upd_ne q] at e; exact e
theorem Le.unlock {F : Hp} {d : Addr} {od : Obj} {kvs : List (Key × V)} (h : F d = some (.frz od (.dK kvs))) : Le F (upd F d (.dK kvs)) := by
  have keepR : ∀ {a : Addr} {u : HO}, a ≠ d → Rd F a u → Rd (upd F d (.dK kvs)) a u := fun {a u} q r => by
    rcases r with r | ⟨o, r⟩
    · exact .inl (by rw [upd_ne q]; exact r)
    · exact .inr ⟨o, by rw [upd_ne q]; exact r⟩
  have ne : ∀ {a : Addr} {u : HO}, Rd F a u → (∀ xs, u ≠ .dK xs) → (∀ o w, u ≠ .frz o w) → a ≠ d := fun {a u} r n n' => by
    rintro rfl
    rcases r with r | ⟨o, r⟩ <;> rw [h] at r <;> cases r
    · exact n' _ _ rfl
    · exact n _ rfl
  refine ⟨fun a xs r => keepR (ne r (fun _ z => by cases z) fun _ _ z => by cases z) r, fun a xs r => by rw [upd_ne (ne (.inl r) (fun _ z => by cases z) fun _ _ z => by cases z)]; exact r, fun a xs r => keepR (ne r (fun _ z => by cases z) fun _ _ z => by cases z) r, fun a xs r => ?_,
    fun a xs r => keepR (ne r (fun _ z => by cases z) fun _ _ z => by cases z) r, fun a C dx fs r => by rw [upd_ne (ne (.inl r) (fun _ z => by cases z) fun _ _ z => by cases z)]; exact r, fun a e => ?_⟩
  · by_cases q : a = d
    · subst q
      have : xs = kvs := by
        rcases r with r | ⟨o, r⟩ <;> rw [h] at r <;> cases r
        rfl
      subst this
      exact .inl upd_same
    · exact keepR q r
  · by_cases q : a = d
    · subst q; rw [upd_same] at e; cases e
    · rw [upd_ne q] at e; exact e
theorem Le.upd2 {F H : Hp} {d : Addr} {u : HO} (l : Le F H) : Le (upd F d u) (upd H d u) := by
  have rdb : ∀ a w, (Rd F a w → Rd H a w) → Rd (upd F d u) a w → Rd (upd H d u) a w := fun a w f r => by
    by_cases q : a = d
    · subst q
      rcases r with r | ⟨ob, r⟩
      · rw [upd_same] at r; exact .inl (by rw [upd_same]; exact r)
      · rw [upd_same] at r; exact .inr ⟨ob, by rw [upd_same]; exact r⟩
    · have r' : Rd F a w := by
        rcases r with r | ⟨ob, r⟩
        · rw [upd_ne q] at r; exact .inl r
        · rw [upd_ne q] at r; exact .inr ⟨ob, r⟩
      rcases f r' with r | ⟨ob, r⟩
      · exact .inl (by rw [upd_ne q]; exact r)
      · exact .inr ⟨ob, by rw [upd_ne q]; exact r⟩
  refine ⟨fun a xs => rdb a _ (l.l a xs), fun a xs e => ?_, fun a xs => rdb a _ (l.tr a xs), fun a xs => rdb a _ (l.k a xs), fun a xs => rdb a _ (l.kt a xs), fun a C dx fs e => ?_, fun a e => ?_⟩
  · by_cases q : a = d
    · subst q; rw [upd_same] at e ⊢; exact e
    · rw [upd_ne q] at e ⊢; exact l.t a xs e
  · by_cases q : a = d
    · subst q; rw [upd_same] at e ⊢; exact e
    · rw [upd_ne q] at e ⊢; exact l.i a C dx fs e
  · by_cases q : a = d
    · subst q; rw [upd_same] at e; cases e
    · rw [upd_ne q] at e ⊢; exact l.d a e
/-- both worlds get u at d, which F knows -/
theorem Rel.relock {F H : Hp} {σ : L2.St} {ρ : Env} {d : Addr} {u : HO} (R : Rel M H0 F H σ ρ) (hf : F d ≠ none) (le : Le F (upd F d u)) : Rel M H0 (upd F d u) (upd H d u) σ ρ := by
  refine ⟨R.sub.upd2, R.len, fun i e z => ?_, fun i e z => ?_, R.dist, R.new, fun a z => ?_⟩
  · obtain ⟨v, h1, h2⟩ := R.fz i e z; exact ⟨v, h1, Rep.mono le _ _ h2⟩
  · obtain ⟨a, o, h1, h2, h3, h4⟩ := R.ow i e z
    have na : a ≠ d := by rintro rfl; exact hf h2
    exact ⟨a, o, h1, by rw [upd_ne na]; exact h2, by rw [upd_ne na]; exact h3, h4.mono le⟩
  · by_cases q : a = d
    · subst q; rw [upd_same] at z; cases z
    · rw [upd_ne q] at z; exact R.dom a z
theorem Lk.rel {HX F0 H0' F1 H1 : Hp} {σ : L2.St} {ρ : Env} (R : Rel M H0 F0 H0' σ ρ) (k : Lk HX F0 H0' F1 H1) : Rel M H0 F1 H1 σ ρ := by
  rcases k with ⟨rfl, rfl⟩ | ⟨d, od, kvs, h1, h2, h3, rfl, rfl⟩
  · exact R
  · refine R.relock ?_ (Le.lock h1)
    rcases h1 with h | ⟨_, h⟩ <;> (rw [h]; intro z; cases z)
/-- from the locked walk's end back -/
theorem Lk.back {HX F0 H0' F1 H1 F2 H2 : Hp} {σ σ2 : L2.St} {ρ ρ2 : Env} (k : Lk HX F0 H0' F1 H1) (R1 : Rel M H0 F1 H1 σ ρ) (R2 : Rel M H0 F2 H2 σ2 ρ2) (S : Stp F1 H1 (OA ρ σ) F2 H2 (OA ρ2 σ2)) :
    ∃ F3 H3, Unl HX H2 H3 ∧ Rel M H0 F3 H3 σ2 ρ2 ∧ Stp F0 H0' (OA ρ σ) F3 H3 (OA ρ2 σ2) ∧ Le F2 F3 ∧ (∀ b, F2 b = none → F3 b = none) ∧ (∀ a, F2 a = none → H3 a = H2 a) := by
  rcases k with ⟨rfl, rfl⟩ | ⟨d, od, kvs, h1, h2, h3, rfl, rfl⟩
  · exact ⟨F2, H2, .inl rfl, R2, S, Le.refl _, fun _ h => h, fun _ _ => rfl⟩
  · have e1 : H2 d = some (.frz od (.dK kvs)) := S.fr d _ upd_same fun ⟨i, o, z⟩ => by
      cases q : slotAt ρ i with
      | no => rw [q] at o; exact o
      | fz _ => rw [q] at o; exact o
      | ow e => obtain ⟨a, u, g1, g2, _⟩ := R1.ow i e (.inl q); rw [z] at g1; cases g1; rw [upd_same] at g2; cases g2
      | pw e => obtain ⟨a, u, g1, g2, _⟩ := R1.ow i e (.inr q); rw [z] at g1; cases g1; rw [upd_same] at g2; cases g2
    have rd2 : Rd F2 d (.dK kvs) := S.le.k d kvs (.inr ⟨od, upd_same⟩)
    have nf : F2 d ≠ none := by rcases rd2 with h | ⟨_, h⟩ <;> (rw [h]; intro z; cases z)
    have le2 : Le F2 (upd F2 d (.dK kvs)) := by
      rcases rd2 with h | ⟨o, h⟩
      · have : upd F2 d (.dK kvs) = F2 := by funext b; unfold upd; split; · rename_i q; rw [q, h]
                                             · rfl
        rw [this]; exact Le.refl _
      · exact Le.unlock h
    refine ⟨upd F2 d (.dK kvs), upd H2 d (.dK kvs), .inr ⟨d, od, _, e1, h3, rfl⟩, R2.relock nf le2, ⟨(Le.lock (od := od) h1).trans (S.le.trans le2), fun b o e n => ?_, fun b e => ?_, fun b e e' => ?_, fun b e => ?_⟩, le2, fun b e => ?_, fun a e => ?_⟩
    · by_cases q : b = d
      · subst q; rw [h2] at e; cases e; exact upd_same
      · rw [upd_ne q]; exact S.fr b o (by rw [upd_ne q]; exact e) n
    · have q : b ≠ d := by rintro rfl; rw [upd_same] at e; cases e
      rw [upd_ne q] at e
      have := S.dm b e
      rw [upd_ne q] at this; exact this
    · have q : b ≠ d := by
        rintro rfl
        rcases h1 with h | ⟨_, h⟩ <;> (rw [h] at e; cases e)
      rw [upd_ne q] at e'
      rcases S.nw b (by rw [upd_ne q]; exact e) e' with z | z
      · rw [upd_ne q] at z; exact .inl z
      · exact .inr z
    · rcases S.ow b e with z | z
      · exact .inl z
      · by_cases q : b = d
        · subst q; rw [upd_same] at z; cases z
        · rw [upd_ne q] at z; exact .inr z
    · by_cases q : b = d
      · subst q; exact absurd e nf
      · rw [upd_ne q]; exact e
    · have q : a ≠ d := by rintro rfl; exact nf e
      rw [upd_ne q]
theorem Stp.keep {F H F' H' : Hp} {σ : L2.St} {ρ : Env} {A' : Addr → Prop} (R : Rel M H0 F H σ ρ) (S : Stp F H (OA ρ σ) F' H' A') : Keep F H H' := fun b o h e => S.fr b o e fun ⟨i, q, z⟩ => by
  cases w : slotAt ρ i with
  | no => rw [w] at q; exact q
  | fz _ => rw [w] at q; exact q
  | ow d => obtain ⟨a, u, g1, g2, _⟩ := R.ow i d (.inl w); rw [z] at g1; cases g1; exact h g2
  | pw d => obtain ⟨a, u, g1, g2, _⟩ := R.ow i d (.inr w); rw [z] at g1; cases g1; exact h g2
/-- at a turn: the item in hand -/
theorem IterOk.turn {F1 H1 F H : Hp} {σ : L2.St} {ρ : Env} {J : It} {ds : List D} {i : Nat} {x : V} {H' : Hp} (I : IterOk M F1 H1 J ds) (le : Le F1 F) (R : Rel M H0 F H σ ρ) (k : Keep F1 H1 H) (hi : i < ds.length) (y : J.yld i H x H') :
    ∃ d F', ds[i]? = some d ∧ Rel M H0 F' H' σ ρ ∧ Stp F H (OA ρ σ) F' H' (OA ρ σ) ∧ Rep M F' d x := by
  obtain ⟨d, hd, ⟨rfl, r⟩ | ⟨T, vs, es, rfl, hT, rfl, rfl, r⟩⟩ := I.yld i H x H' hi k y
  · exact ⟨d, F, hd, R, Stp.refl _ _ _, Rep.mono le _ _ r⟩
  · have fT := R.sub.d T hT
    have op : OpPost M F H (.f (.tup es)) (.ref T) (upd F T (.tup vs)) (upd H T (.tup vs)) := ⟨⟨T, vs, rfl, upd_same, Reps.mono (Le.new fT) _ _ (Reps.mono le _ _ r)⟩, .inr ⟨T, _, hT, rfl, rfl⟩⟩
    obtain ⟨R2, S2, v2, _⟩ := OpPost.rel R op
    exact ⟨_, _, hd, R2, S2, v2⟩
theorem XOk.unl {HX F F3 H H3 : Hp} {e : XV} {c : Value} {d : Option Addr} (x : XOk M F H e c d) (u : Unl HX H H3) (le : Le F F3) : XOk M F3 H3 e c d := by
  obtain ⟨h1, h2⟩ := x
  refine ⟨h1, ?_⟩
  cases d with
  | none => exact h2
  | some a =>
    obtain ⟨ws, h3, h4⟩ := h2
    refine ⟨ws, ?_, RepA.mono le _ _ h4⟩
    rcases u with rfl | ⟨b, od, w, g1, g2, rfl⟩
    · exact h3
    · have : a ≠ b := by rintro rfl; rw [g1] at h3; cases h3
      rw [upd_ne this]; exact h3
/-! ### for -/
def unlD (HX : Hp) (D : Ends) : Ends := { nx := fun σ H => ∃ H', Unl HX H H' ∧ D.nx σ H', rt := fun v H => ∃ H', Unl HX H H' ∧ D.rt v H', bk := fun σ H => ∃ H', Unl HX H H' ∧ D.bk σ H', ct := fun σ H => ∃ H', Unl HX H H' ∧ D.ct σ H' }
def tUnl (HX : Hp) (t : TS) : TS := fun D σ H => t (unlD HX D) σ H
theorem unl_inv {X : Cx} {pins : List (Addr × Obj)} {σ : L2.St} {H H' : Hp} {s : Shared} (I : Inv X pins σ H s) (u : Unl X.H_0 H H') : Inv X pins σ H' s := by
  rcases u with rfl | ⟨d, od, u, h1, h2, rfl⟩
  · exact I
  · exact I.unlock h1 h2
theorem ps_unl {X : Cx} {st : Stmt} {t : TS} (h : PS X st t) : PS X st (tUnl X.H_0 t) := by
  refine ⟨fun pins s σ H D I q => thn (h.run pins s σ H _ I q) fun f s' z => ?_⟩
  cases f with
  | next => obtain ⟨σ', H', I', H2, u, q⟩ := z; exact ⟨σ', H2, unl_inv I' u, q⟩
  | brk => obtain ⟨σ', H', I', H2, u, q⟩ := z; exact ⟨σ', H2, unl_inv I' u, q⟩
  | cont => obtain ⟨σ', H', I', H2, u, q⟩ := z; exact ⟨σ', H2, unl_inv I' u, q⟩
  | ret v => obtain ⟨x, σ', H', I', r, H2, u, q⟩ := z; exact ⟨x, σ', H2, unl_inv I' u, r, q⟩
def tUnlE (HX : Hp) (t : TE) : TE := fun σ H Q => t σ H fun v H1 => ∃ H', Unl HX H1 H' ∧ Q v H'
theorem pe_unl {X : Cx} {e : Expr} {t : TE} (h : PE X e t) : PE X e (tUnlE X.H_0 t) := by
  refine ⟨fun pins s σ H Q I q => thn (h.run pins s σ H _ I q) fun u s' ⟨x, H', I', r, H2, z, q⟩ => ⟨x, H2, unl_inv I' z, r, q⟩⟩
theorem eachS_cons {f : D → Env → SOut} {x : D} {r : List D} {ρ : Env} : eachS f (x :: r) ρ = match f x ρ with
    | .nx ρ1 => eachS f r ρ1
    | .ct ρ1 => eachS f r ρ1
    | .br ρ1 => .nx ρ1
    | .rt v ρ1 => .rt v ρ1
    | .exc e ρ1 => .exc e ρ1
    | .bad => .bad := rfl
theorem i_fors {HX : Hp} {t : CT} {it : CI} {b : CSs} {D : Ends} {σ : L2.St} {H : Hp} (hW : ∀ cls d σ H H', Unl HX H H' → W cls d σ H' → W cls d σ H) (h : tS M H0 W T (.fors t it b) D σ H) :
    tUnl HX (tFor (tI M H0 W T HX it) (tG M H0 t) (tSs M H0 W T b)) D σ H := by
  obtain ⟨F, ρ, R, p⟩ := h
  simp only [ex] at p
  refine ⟨F, ρ, R, ?_⟩
  cases h1 : evI T it ρ with
  | bad => rw [h1] at p; exact p
  | exc e ρ1 => rw [h1] at p; exact fun c d F1 H1 R S E v => p c d σ F1 H1 ⟨R, S, E.pwk⟩ v
  | ok ds ρ1 =>
    rw [h1] at p
    intro J F0 H0' F1 H1 R0 S0 E0 k I
    have p0 : PostS M H0 W F H σ ρ (eachS (fun x ρ => match tgt ρ t x with
      | some ρ => exs T b ρ
      | none => .bad) ds ρ1) D := p
    have p1 := p0.shift ⟨R0, S0, E0.pwk⟩
    have R1 := k.rel R0
    -- the word: what is left of the walk, from a state that the walk came to
    refine ⟨fun i m σ' H' => m = ds.length - i ∧ i ≤ ds.length ∧ ∃ F' ρ', RelS M H0 F1 H1 σ ρ1 F' H' σ' ρ' ∧ ∀ (E : Ends), True → PostS M H0 W F1 H1 σ ρ1 (eachS (fun x ρ => match tgt ρ t x with
      | some ρ => exs T b ρ
      | none => .bad) ds ρ1) (unlD HX D) → PostS M H0 W F' H' σ' ρ' (eachS (fun x ρ => match tgt ρ t x with
      | some ρ => exs T b ρ
      | none => .bad) (ds.drop i) ρ') (unlD HX D), ⟨ds.length, by simp, Nat.zero_le _, F1, ρ1, RelS.refl R1, fun _ _ z => z⟩, ?_⟩
    -- the whole, locked
    have pl : PostS M H0 W F1 H1 σ ρ1 (eachS (fun x ρ => match tgt ρ t x with
      | some ρ => exs T b ρ
      | none => .bad) ds ρ1) (unlD HX D) := by
      generalize eachS (fun x ρ => match tgt ρ t x with
        | some ρ => exs T b ρ
        | none => .bad) ds ρ1 = r at p1
      cases r with
      | bad => exact p1
      | nx ρ2 => exact fun σ' F' H' z => let ⟨F3, H3, u, R3, S3, _⟩ := k.back R1 z.1 z.2.1; ⟨H3, u, p1 σ' F3 H3 ⟨R3, S3, z.2.2⟩⟩
      | br ρ2 => exact fun σ' F' H' z => let ⟨F3, H3, u, R3, S3, _⟩ := k.back R1 z.1 z.2.1; ⟨H3, u, p1 σ' F3 H3 ⟨R3, S3, z.2.2⟩⟩
      | ct ρ2 => exact fun σ' F' H' z => let ⟨F3, H3, u, R3, S3, _⟩ := k.back R1 z.1 z.2.1; ⟨H3, u, p1 σ' F3 H3 ⟨R3, S3, z.2.2⟩⟩
      | rt x ρ2 =>
        intro σ' v F' H' z vo vn
        obtain ⟨F3, H3, u, R3, S3, le3, nn3, same3⟩ := k.back R1 z.1 z.2.1
        refine ⟨H3, u, p1 σ' v F3 H3 ⟨R3, S3, z.2.2⟩ ?_ vn⟩
        cases x with
        | f d => exact Rep.mono le3 _ _ vo
        | n d =>
          obtain ⟨a, o, e1, e2, e3, e4, e5⟩ := vo
          exact ⟨a, o, e1, nn3 a e2, (same3 a e2).trans e3, e4.mono le3, e5⟩
        | v i => exact vo
      | exc e ρ2 =>
        intro c d σ' F' H' z x
        obtain ⟨F3, H3, u, R3, S3, le3, nn3, same3⟩ := k.back R1 z.1 z.2.1
        refine hW _ _ _ _ _ u (p1 c d σ' F3 H3 ⟨R3, S3, z.2.2⟩ (x.unl u le3))
    rintro i m σ' H' ⟨rfl, hi, F', ρ', S, w⟩
    have w := w D True.intro pl
    have kp : Keep F1 H1 H' := S.2.1.keep R1
    by_cases hlt : i < ds.length
    · refine .inr ⟨I.go i H' hlt kp, fun σ2 H2 => (ds.length - (i + 1)) = ds.length - (i + 1) ∧ i + 1 ≤ ds.length ∧ ∃ F2 ρ2, RelS M H0 F1 H1 σ ρ1 F2 H2 σ2 ρ2 ∧ ∀ (E : Ends), True → PostS M H0 W F1 H1 σ ρ1 (eachS (fun x ρ => match tgt ρ t x with
        | some ρ => exs T b ρ
        | none => .bad) ds ρ1) (unlD HX D) → PostS M H0 W F2 H2 σ2 ρ2 (eachS (fun x ρ => match tgt ρ t x with
        | some ρ => exs T b ρ
        | none => .bad) (ds.drop (i + 1)) ρ2) (unlD HX D), fun σ2 H2 z => ⟨ds.length - (i + 1), by omega, z⟩, fun x H2 y => ?_⟩
      obtain ⟨d, F2, hd, R2, S2, r2⟩ := I.turn S.2.1.le S.1 kp hlt y
      have ed : ds.drop i = d :: ds.drop (i + 1) := by
        rw [List.drop_eq_getElem_cons hlt]
        rw [List.getElem?_eq_getElem hlt] at hd
        cases hd; rfl
      rw [ed, eachS_cons] at w
      have S' : RelS M H0 F' H' σ' ρ' F2 H2 σ' ρ' := ⟨R2, S2, PWk.refl _ _⟩
      refine ⟨F2, ρ', d, R2, r2, ?_⟩
      cases h2 : tgt ρ' t d with
      | none => rw [h2] at w; exact w
      | some ρ2 =>
        rw [h2] at w
        intro σ2 R3 O3 P3 _
        have S3 : RelS M H0 F' H' σ' ρ' F2 H2 σ2 ρ2 := ⟨R3, S2.shrink O3, P3⟩
        refine ⟨F2, ρ2, R3, ?_⟩
        dsimp only at w
        have w2 := w
        cases h3 : exs T b ρ2 with
        | bad => rw [h3] at w2; exact w2
        | nx ρ3 =>
          rw [h3] at w2
          exact fun σ3 F3 H3 z => ⟨rfl, hlt, F3, ρ3, (S.trans (S3.trans z)), fun _ _ _ => PostS.shift w2 (S3.trans z)⟩
        | ct ρ3 =>
          rw [h3] at w2
          exact fun σ3 F3 H3 z => ⟨rfl, hlt, F3, ρ3, (S.trans (S3.trans z)), fun _ _ _ => PostS.shift w2 (S3.trans z)⟩
        | br ρ3 => rw [h3] at w2; exact fun σ3 F3 H3 z => w2 σ3 F3 H3 (S3.trans z)
        | rt v ρ3 => rw [h3] at w2; exact fun σ3 v F3 H3 z => w2 σ3 v F3 H3 (S3.trans z)
        | exc e ρ3 => rw [h3] at w2; exact fun c d σ3 F3 H3 z => w2 c d σ3 F3 H3 (S3.trans z)
    · have e : i = ds.length := by omega
      subst e
      refine .inl ⟨I.stop H' kp, ?_⟩
      rw [List.drop_length] at w
      exact w σ' F' H' (RelS.refl S.1)
end
end PV

set_option Elab.async false
set_option linter.all false
set_option maxRecDepth 100000
set_option maxHeartbeats 1000000
/-! PvJ: comprehensions. -/
namespace PV
open PySem L2
section
variable {M : Nm} {H0 : Hp} {W : WX} {T : Tb}
/-! ### a thing that is being made -/
theorem Rel.pend {F H : Hp} {σ : L2.St} {ρ : Env} {D : Addr} {o : HO} (R : Rel M H0 F H σ ρ) (fd : F D = none) (nd : ¬ OA ρ σ D) : Rel M H0 F (upd H D o) σ ρ := by
  refine ⟨R.sub.mut fd, R.len, R.fz, fun i d z => ?_, R.dist, R.new, fun a z => ?_⟩
  · obtain ⟨a, u, h1, h2, h3, h4⟩ := R.ow i d z
    have na : a ≠ D := by
      rintro rfl
      exact nd ⟨i, by rcases z with z | z <;> (rw [z]; exact True.intro), h1⟩
    exact ⟨a, u, h1, h2, by rw [upd_ne na]; exact h3, h4⟩
  · have na : a ≠ D := by rintro rfl; rw [upd_same] at z; cases z
    rw [upd_ne na] at z; exact R.dom a z
def AD (D : Addr) (ρ : Env) (σ : L2.St) : Addr → Prop := fun a => OA ρ σ a ∨ a = D
theorem Stp.liftD {F H F' H' : Hp} {ρ ρ' : Env} {σ σ' : L2.St} {D : Addr} (S : Stp F H (OA ρ σ) F' H' (OA ρ' σ')) : Stp F H (AD D ρ σ) F' H' (AD D ρ' σ') :=
  ⟨S.le, fun b o h n => S.fr b o h fun z => n (.inl z), S.dm, fun b h h' => (S.nw b h h').imp id .inl, fun b h => h.elim (fun z => (S.ow b z).imp .inl id) fun z => .inl (.inr z)⟩
theorem Stp.pend {F H : Hp} {ρ : Env} {σ : L2.St} {D : Addr} {o : HO} (hd : H D ≠ none) : Stp F H (AD D ρ σ) F (upd H D o) (AD D ρ σ) := by
  refine ⟨Le.refl F, fun b u h n => ?_, fun b h => ?_, fun b h h' => absurd h h', fun b h => .inl h⟩
  · rw [upd_ne fun z => n (.inr z)]; exact h
  · have nb : b ≠ D := by rintro rfl; rw [upd_same] at h; cases h
    rw [upd_ne nb] at h; exact h
theorem not_oa {F H : Hp} {σ : L2.St} {ρ : Env} {a : Addr} (R : Rel M H0 F H σ ρ) (h : H a = none) : ¬ OA ρ σ a := by
  rintro ⟨i, q, z⟩
  cases w : slotAt ρ i with
  | no => rw [w] at q; exact q
  | fz _ => rw [w] at q; exact q
  | ow d => obtain ⟨b, u, g1, g2, g3, _⟩ := R.ow i d (.inl w); rw [z] at g1; cases g1; rw [h] at g3; cases g3
  | pw d => obtain ⟨b, u, g1, g2, g3, _⟩ := R.ow i d (.inr w); rw [z] at g1; cases g1; rw [h] at g3; cases g3
/-! ### slots forgotten -/
theorem wipe_get (σ : L2.St) : ∀ (vs : List Nat) (i : Nat), (wipe σ vs)[i]? = if i ∈ vs ∧ i < σ.length then some none else σ[i]?
  | [], i => by simp [wipe]
  | v :: vs, i => by
    unfold wipe
    rw [List.getElem?_set, wipe_length, wipe_get σ vs i]
    by_cases h : v = i
    · subst h
      by_cases q : v < σ.length
      · simp [q]
      · simp [q]
    · rw [if_neg h]
      have : (i ∈ v :: vs) = (i ∈ vs) := propext ⟨fun m => (List.mem_cons.1 m).elim (fun z => absurd z.symm h) id, fun m => List.mem_cons_of_mem _ m⟩
      simp only [this]
theorem wipeE_len (ρ : Env) : ∀ vs : List Nat, (wipeE ρ vs).length = ρ.length
  | [] => rfl
  | v :: vs => by unfold wipeE; rw [List.length_set, wipeE_len]
theorem wipeE_at (ρ : Env) : ∀ (vs : List Nat) (i : Nat), slotAt (wipeE ρ vs) i = if i ∈ vs then .no else slotAt ρ i
  | [], i => by simp [wipeE]
  | v :: vs, i => by
    unfold wipeE
    rw [slotAt_set, wipeE_len, wipeE_at ρ vs i]
    by_cases h : i = v
    · subst h
      by_cases q : i < ρ.length
      · simp [q]
      · have : slotAt ρ i = .no := by unfold slotAt; rw [List.getD_eq_getElem?_getD, List.getElem?_eq_none (by omega)]; rfl
        simp [q, this]
    · rw [if_neg fun z => h z.1]
      simp [h]
theorem Rel.wipe {F H : Hp} {σ : L2.St} {ρ : Env} (R : Rel M H0 F H σ ρ) (vs : List Nat) : Rel M H0 F H (wipe σ vs) (wipeE ρ vs) ∧ ∀ a, OA (wipeE ρ vs) (wipe σ vs) a → OA ρ σ a := by
  have up : ∀ {i : Nat} {s : Slot}, s ≠ .no → slotAt (wipeE ρ vs) i = s → slotAt ρ i = s ∧ (L2.wipe σ vs)[i]? = σ[i]? := fun {i s} n z => by
    rw [wipeE_at] at z
    by_cases h : i ∈ vs
    · rw [if_pos h] at z; exact absurd z.symm n
    · rw [if_neg h] at z; exact ⟨z, by rw [wipe_get, if_neg fun y => h y.1]⟩
  have upO : ∀ {i : Nat}, IsOwn (slotAt (wipeE ρ vs) i) → IsOwn (slotAt ρ i) ∧ (L2.wipe σ vs)[i]? = σ[i]? := fun {i} z => by
    obtain ⟨h1, h2⟩ := up (s := slotAt (wipeE ρ vs) i) (fun y => by rw [y] at z; exact z) rfl
    exact ⟨by rw [h1]; exact z, h2⟩
  refine ⟨⟨R.sub, by rw [wipe_length, wipeE_len]; exact R.len, fun i d z => ?_, fun i d z => ?_, fun i j a z w y y' => ?_, fun i d a z y => ?_, R.dom⟩, fun a ⟨i, z, y⟩ => ?_⟩
  · obtain ⟨h1, h2⟩ := up (fun y => by cases y) z
    rw [h2]; exact R.fz i d h1
  · have : slotAt ρ i = .ow d ∨ slotAt ρ i = .pw d := z.imp (fun y => (up (fun y => by cases y) y).1) fun y => (up (fun y => by cases y) y).1
    have h2 : (L2.wipe σ vs)[i]? = σ[i]? := z.elim (fun y => (up (fun y => by cases y) y).2) fun y => (up (fun y => by cases y) y).2
    rw [h2]; exact R.ow i d this
  · obtain ⟨h1, h2⟩ := upO z
    obtain ⟨g1, g2⟩ := upO w
    rw [h2] at y; rw [g2] at y'
    exact R.dist i j a h1 g1 y y'
  · obtain ⟨h1, h2⟩ := up (fun y => by cases y) z
    rw [h2] at y; exact R.new i d a h1 y
  · obtain ⟨h1, h2⟩ := upO z
    rw [h2] at y; exact ⟨i, h1, y⟩
theorem wipe_only {σ σ2 : L2.St} {vs js : List Nat} (h : Only js (wipe σ vs) σ2) (hj : ∀ j ∈ js, j ∈ vs) : wipe σ2 vs = wipe σ vs := by
  have hl : σ2.length = σ.length := by rw [h.1, wipe_length]
  apply List.ext_getElem?
  intro i
  rw [wipe_get, wipe_get, hl]
  by_cases q : i ∈ vs ∧ i < σ.length
  · rw [if_pos q, if_pos q]
  · rw [if_neg q, if_neg q]
    by_cases w : i ∈ vs
    · have : σ.length ≤ i := Nat.le_of_not_lt fun y => q ⟨w, y⟩
      rw [List.getElem?_eq_none (by omega), List.getElem?_eq_none this]
    · rw [h.2 i fun y => w (hj i y), wipe_get, if_neg fun y => w y.1]
theorem setS_at {ρ ρ' : Env} {i : Nat} {s : Slot} (h : setS ρ i s = some ρ') : ρ'.length = ρ.length ∧ ∀ j, j ≠ i → slotAt ρ' j = slotAt ρ j := by
  obtain ⟨rfl, _, _⟩ := setS_some h
  exact ⟨List.length_set, fun j hj => by rw [slotAt_set, if_neg fun z => hj z.1]⟩
theorem setMany_at : ∀ {is : List Nat} {ds : List D} {ρ ρ' : Env}, setMany ρ is ds = some ρ' → ρ'.length = ρ.length ∧ ∀ j, j ∉ is → slotAt ρ' j = slotAt ρ j
  | [], [], ρ, ρ', h => by cases h; exact ⟨rfl, fun _ _ => rfl⟩
  | [], _ :: _, ρ, ρ', h => by cases h
  | _ :: _, [], ρ, ρ', h => by cases h
  | i :: is, d :: ds, ρ, ρ', h => by
    simp only [setMany] at h
    cases h1 : setS ρ i (.fz d) with
    | none => rw [h1] at h; cases h
    | some ρ1 =>
      rw [h1] at h
      obtain ⟨a, b⟩ := setS_at h1
      obtain ⟨c, e⟩ := setMany_at h
      exact ⟨c.trans a, fun j hj => by
        rw [List.mem_cons, not_or] at hj
        rw [e j hj.2, b j hj.1]⟩
theorem setQ_at : ∀ {is : List (List Nat)} {ds : List D} {ρ ρ' : Env}, setQ ρ is ds = some ρ' → ρ'.length = ρ.length ∧ ∀ j, j ∉ is.flatten → slotAt ρ' j = slotAt ρ j
  | [], [], ρ, ρ', h => by cases h; exact ⟨rfl, fun _ _ => rfl⟩
  | [], _ :: _, ρ, ρ', h => by cases h
  | js :: is, [], ρ, ρ', h => by
    match js, h with
    | [], h => cases h
    | [_], h => cases h
    | _ :: _ :: _, h => cases h
  | js :: is, d :: ds, ρ, ρ', h => by
    by_cases hj : js.length = 1
    · obtain ⟨i, rfl⟩ : ∃ i, js = [i] := by
        match js, hj with
        | [i], _ => exact ⟨i, rfl⟩
      have e : setQ ρ ([i] :: is) (d :: ds) = (setS ρ i (.fz d)).bind fun ρ1 => setQ ρ1 is ds := rfl
      rw [e] at h
      cases h1 : setS ρ i (.fz d) with
      | none => rw [h1] at h; cases h
      | some ρ1 =>
        rw [h1] at h
        obtain ⟨a, b⟩ := setS_at h1
        obtain ⟨c, e⟩ := setQ_at h
        exact ⟨c.trans a, fun j hj => by
          simp only [List.flatten_cons, List.mem_append, not_or, List.mem_singleton] at hj
          rw [e j hj.2, b j hj.1]⟩
    · rw [setQ_two hj] at h
      cases d with
      | tup xs =>
        dsimp only at h
        cases h1 : setMany ρ js xs with
        | none => rw [h1] at h; cases h
        | some ρ1 =>
          rw [h1] at h
          obtain ⟨a, b⟩ := setMany_at h1
          obtain ⟨c, e⟩ := setQ_at h
          exact ⟨c.trans a, fun j hj => by
            simp only [List.flatten_cons, List.mem_append, not_or] at hj
            rw [e j hj.2, b j hj.1]⟩
      | _ => cases h
theorem tgt_at {t : CT} {d : D} {ρ ρ' : Env} (h : tgt ρ t d = some ρ') : ρ'.length = ρ.length ∧ ∀ j, j ∉ t.slots → slotAt ρ' j = slotAt ρ j := by
  cases t with
  | nm i =>
    obtain ⟨a, b⟩ := setS_at (show setS ρ i (.fz d) = some ρ' from h)
    exact ⟨a, fun j hj => b j (by simpa [CT.slots] using hj)⟩
  | tp is => cases d <;> first | exact setMany_at h | cases h
  | tq is => cases d <;> first | exact setQ_at h | cases h
def Wiped (vs : List Nat) (ρ : Env) : Prop := ∀ i ∈ vs, slotAt ρ i = .no
theorem wiped_wipe (ρ : Env) (vs : List Nat) : Wiped vs (wipeE ρ vs) := fun i h => by rw [wipeE_at, if_pos h]
/-- one turn's slots: the target, the parts, forgotten again -/
theorem es_turn {vs : List Nat} {t : CT} {d : D} {ρ ρa ρ5 : Env} (w : Wiped vs ρ) (h : tgt ρ t d = some ρa) (hj : ∀ j ∈ t.slots, j ∈ vs) (e : ES ρa ρ5) : ES ρ (wipeE ρ5 vs) := by
  obtain ⟨h1, h2⟩ := tgt_at h
  have out : ∀ {i : Nat} {s : Slot}, s ≠ .no → slotAt ρ i = s → i ∉ vs ∧ slotAt ρa i = s := fun {i s} n z => by
    have hi : i ∉ vs := fun y => n (by rw [← z, w i y])
    exact ⟨hi, by rw [h2 i fun y => hi (hj i y)]; exact z⟩
  refine ⟨by rw [wipeE_len, ← e.len, h1], fun i d z => ?_, fun i d z => ?_, fun i d z => ?_, fun i z => ?_⟩
  · obtain ⟨a, b⟩ := out (fun y => by cases y) z
    rw [wipeE_at, if_neg a]; exact e.fz i d b
  · obtain ⟨a, b⟩ := out (fun y => by cases y) z
    rw [wipeE_at, if_neg a]; exact e.ow i d b
  · obtain ⟨a, b⟩ := out (fun y => by cases y) z
    rw [wipeE_at, if_neg a]; exact e.pw i d b
  · rw [wipeE_at]
    by_cases a : i ∈ vs
    · rw [if_pos a]
    · rw [if_neg a]; exact e.no i (by rw [h2 i fun y => a (hj i y)]; exact z)
theorem unwipe_len (ρ0 ρ : Env) : ∀ vs : List Nat, (unwipe ρ0 ρ vs).length = ρ.length
  | [] => rfl
  | v :: vs => by unfold unwipe; rw [List.length_set, unwipe_len]
theorem unwipe_at {ρ0 ρ : Env} (hl : ρ0.length = ρ.length) : ∀ (vs : List Nat) (i : Nat), slotAt (unwipe ρ0 ρ vs) i = if i ∈ vs then slotAt ρ0 i else slotAt ρ i
  | [], i => by simp [unwipe]
  | v :: vs, i => by
    unfold unwipe
    rw [slotAt_set, unwipe_len, unwipe_at hl vs i]
    by_cases h : i = v
    · subst h
      by_cases q : i < ρ.length
      · simp [q]
      · have n1 : slotAt ρ0 i = .no := by unfold slotAt; rw [List.getD_eq_getElem?_getD, List.getElem?_eq_none (by omega)]; rfl
        have n2 : slotAt ρ i = .no := by unfold slotAt; rw [List.getD_eq_getElem?_getD, List.getElem?_eq_none (by omega)]; rfl
        simp [q, n1, n2]
    · rw [if_neg fun z => h z.1]
      simp [h]
/-- behind the block -/
theorem Rel.unwipe {F1 H1 F H : Hp} {σ : L2.St} {ρ1 ρ2 : Env} {vs : List Nat} {D : Addr} (R1 : Rel M H0 F1 H1 σ ρ1) (hD : H1 D = none) (R2 : Rel M H0 F H (L2.wipe σ vs) ρ2) (w : Wiped vs ρ2) (e : ES (wipeE ρ1 vs) ρ2) (S : Stp F1 H1 (OA (wipeE ρ1 vs) (L2.wipe σ vs)) F H (AD D ρ2 (L2.wipe σ vs))) :
    Rel M H0 F H σ (unwipe ρ1 ρ2 vs) ∧ ES ρ1 (unwipe ρ1 ρ2 vs) ∧ Stp F1 H1 (OA ρ1 σ) F H (OA (unwipe ρ1 ρ2 vs) σ) := by
  have hl : ρ1.length = ρ2.length := by rw [← e.len, wipeE_len]
  have at' := unwipe_at (ρ0 := ρ1) (ρ := ρ2) hl vs
  have out : ∀ {i : Nat}, i ∉ vs → (L2.wipe σ vs)[i]? = σ[i]? := fun {i} h => by rw [wipe_get, if_neg fun y => h y.1]
  have es : ES ρ1 (PV.unwipe ρ1 ρ2 vs) := by
    refine ⟨by rw [unwipe_len]; exact hl, fun i d z => ?_, fun i d z => ?_, fun i d z => ?_, fun i z => ?_⟩ <;> rw [at'] <;> by_cases h : i ∈ vs
    · rw [if_pos h]; exact z
    · rw [if_neg h]; exact e.fz i d (by rw [wipeE_at, if_neg h]; exact z)
    · rw [if_pos h]; exact ⟨d, .inl z⟩
    · rw [if_neg h]; exact e.ow i d (by rw [wipeE_at, if_neg h]; exact z)
    · rw [if_pos h]; exact ⟨d, z⟩
    · rw [if_neg h]; exact e.pw i d (by rw [wipeE_at, if_neg h]; exact z)
    · rw [if_pos h]; exact z
    · rw [if_neg h]; exact e.no i (by rw [wipeE_at, if_neg h]; exact z)
  -- an own object that the block did not see
  have away : ∀ {i : Nat} {a : Addr}, i ∈ vs → IsOwn (slotAt ρ1 i) → σ[i]? = some (some (.ref a)) → ¬ OA (wipeE ρ1 vs) (L2.wipe σ vs) a := fun {i a} h o z => by
    rintro ⟨j, q, y⟩
    rw [wipeE_at] at q
    by_cases hj : j ∈ vs
    · rw [if_pos hj] at q; exact q
    · rw [if_neg hj] at q
      rw [out hj] at y
      exact hj (R1.dist i j a o q z y ▸ h)
  have own : ∀ {i : Nat}, IsOwn (slotAt (PV.unwipe ρ1 ρ2 vs) i) → (i ∈ vs ∧ IsOwn (slotAt ρ1 i)) ∨ (i ∉ vs ∧ IsOwn (slotAt ρ2 i) ∧ IsOwn (slotAt ρ1 i)) := fun {i} z => by
    rw [at'] at z
    by_cases h : i ∈ vs
    · rw [if_pos h] at z; exact .inl ⟨h, z⟩
    · rw [if_neg h] at z
      have := e.own z
      rw [wipeE_at, if_neg h] at this
      exact .inr ⟨h, z, this⟩
  have oa : ∀ a, OA (wipeE ρ1 vs) (L2.wipe σ vs) a → OA ρ1 σ a := (R1.wipe vs).2
  refine ⟨⟨R2.sub, by rw [unwipe_len, ← hl]; exact R1.len, fun i d z => ?_, fun i d z => ?_, fun i j a z w' y y' => ?_, fun i d a z y => ?_, R2.dom⟩, es, ⟨S.le, fun b o z n => S.fr b o z fun y => n (oa b y), S.dm, fun b z z' => (S.nw b z z').imp id (oa b), fun b ⟨i, z, y⟩ => ?_⟩⟩
  · rw [at'] at z
    by_cases h : i ∈ vs
    · rw [if_pos h] at z
      obtain ⟨v, h1, h2⟩ := R1.fz i d z
      exact ⟨v, h1, Rep.mono S.le _ _ h2⟩
    · rw [if_neg h] at z
      rw [← out h]; exact R2.fz i d z
  · by_cases h : i ∈ vs
    · rw [at', if_pos h] at z
      obtain ⟨a, o, h1, h2, h3, h4⟩ := R1.ow i d z
      have na := away h (by rcases z with z | z <;> (rw [z]; exact True.intro)) h1
      refine ⟨a, o, h1, ?_, S.fr a o h3 na, h4.mono S.le⟩
      cases q : F a with
      | none => rfl
      | some u =>
        rcases S.nw a h2 (by rw [q]; intro y; cases y) with y | y
        · rw [h3] at y; cases y
        · exact absurd y na
    · rw [at', if_neg h] at z
      rw [← out h]; exact R2.ow i d z
  · rcases own z with ⟨h1, h2⟩ | ⟨h1, h2, h3⟩
    · rcases own w' with ⟨g1, g2⟩ | ⟨g1, g2, g3⟩
      · exact R1.dist i j a h2 g2 y y'
      · exact R1.dist i j a h2 g3 y y'
    · rcases own w' with ⟨g1, g2⟩ | ⟨g1, g2, g3⟩
      · exact R1.dist i j a h3 g2 y y'
      · exact R1.dist i j a h3 g3 y y'
  · by_cases h : i ∈ vs
    · rw [at', if_pos h] at z; exact R1.new i d a z y
    · rw [at', if_neg h] at z
      rw [← out h] at y; exact R2.new i d a z y
  · rcases own z with ⟨h1, h2⟩ | ⟨h1, h2, h3⟩
    · exact .inl ⟨i, h2, y⟩
    · exact .inl ⟨i, h3, y⟩
/-! ### the turns -/
theorem gather_ok {α : Type} {f : D → Env → Out (List α)} {x : D} {r : List D} {ρ ρ2 : Env} {ds : List α} (h : gather f (x :: r) ρ = .ok ds ρ2) : ∃ o ρ1 ds', f x ρ = .ok o ρ1 ∧ gather f r ρ1 = .ok ds' ρ2 ∧ ds = o ++ ds' := by
  simp only [gather] at h
  cases h1 : f x ρ with
  | bad => rw [h1] at h; cases h
  | exc e ρ1 => rw [h1] at h; cases h
  | ok o ρ1 =>
    rw [h1] at h
    cases h2 : gather f r ρ1 with
    | bad => simp only [Out.bind, h2] at h; cases h
    | exc e ρ1 => simp only [Out.bind, h2] at h; cases h
    | ok ds' ρ3 =>
      simp only [Out.bind, h2] at h
      cases h
      exact ⟨o, ρ1, ds', rfl, h2, rfl⟩
theorem truth_ok {α : Type} {r : Out Val} {f : Bool → Env → Out α} {a : α} {ρ2 : Env} (h : (r.bind fun v ρ => truth v ρ f) = .ok a ρ2) : ∃ k ρ1, okB r = .ok k ρ1 ∧ f k ρ1 = .ok a ρ2 := by
  rw [truth_bind] at h
  cases h1 : okB r with
  | ok k ρ1 => rw [h1] at h; exact ⟨k, ρ1, rfl, h⟩
  | exc e ρ1 => rw [h1] at h; cases h
  | bad => rw [h1] at h; cases h
theorem bind_ok {α β : Type} {r : Out α} {f : α → Env → Out β} {b : β} {ρ2 : Env} (h : r.bind f = .ok b ρ2) : ∃ a ρ1, r = .ok a ρ1 ∧ f a ρ1 = .ok b ρ2 := by
  cases r with
  | ok a ρ1 => exact ⟨a, ρ1, rfl, h⟩
  | exc e ρ1 => cases h
  | bad => cases h
/-- no exception leaves a block -/
abbrev WN : WX := fun _ _ _ _ => False
/-- an expression that comes to a value, in a block -/
theorem post_ok {α β : Type} {F H : Hp} {σ : L2.St} {ρ ρ1 : Env} {VR : Hp → Hp → Env → α → β → Prop} {r : Out α} {x : α} {Q : β → Hp → Prop} (h : r = .ok x ρ1) (k : ∀ b F' H', Rel M H0 F' H' σ ρ1 → Stp F H (OA ρ σ) F' H' (OA ρ1 σ) → ES ρ ρ1 → VR F' H' ρ1 x b → Q b H') :
    Post M H0 W F H σ ρ VR r Q := by
  rw [h]; exact k
/-- one turn of a comprehension's element: what the block asks, from what the turn comes to -/
def fLc (T : Tb) (e c : CE) (t : CT) (own : List Nat) : D → Env → Out (List D) := fun x ρ => match tgt ρ t x with
  | none => .bad
  | some ρ => (ev T c ρ).bind fun b ρ => truth b ρ fun k ρ => if k then (ev T e ρ).bind fun v ρ => (okD v ρ).bind fun d ρ => .ok [d] (wipeE ρ own) else .ok [] (wipeE ρ own)
/-- the state between two turns -/
structure Mid (M : Nm) (H0 F1 H1 : Hp) (σ : L2.St) (own : List Nat) (ρw : Env) (D : Addr) (F H : Hp) (ρ : Env) : Prop where
  rel : Rel M H0 F H (wipe σ own) ρ
  stp : Stp F1 H1 (AD D ρw (wipe σ own)) F H (AD D ρ (wipe σ own))
  es : ES ρw ρ
  wiped : Wiped own ρ
  fd : F D = none
  nd : ¬ OA ρ (wipe σ own) D
/-- D and its own place behind a step -/
theorem pend_keep {F H F' H' : Hp} {σ σ' : L2.St} {ρ ρ' : Env} {D : Addr} {o : HO} (fd : F D = none) (hd : H D = some o) (nd : ¬ OA ρ σ D) (S : Stp F H (OA ρ σ) F' H' (OA ρ' σ')) : F' D = none ∧ H' D = some o ∧ ¬ OA ρ' σ' D := by
  refine ⟨?_, S.fr D o hd nd, fun z => ?_⟩
  · cases q : F' D with
    | none => rfl
    | some u =>
      rcases S.nw D fd (by rw [q]; intro y; cases y) with y | y
      · rw [hd] at y; cases y
      · exact absurd y nd
  · rcases S.ow D z with y | y
    · exact nd y
    · rw [hd] at y; cases y
theorem turn_ok {e c : CE} {t : CT} {own : List Nat} (hj : ∀ j ∈ t.slots, j ∈ own) {F1 H1 F H F' H' : Hp} {σ : L2.St} {ρw ρ ρ2 : Env} {D : Addr} {acc : List V} {x : V} {d : PV.D} {o : List PV.D} {Nx : Hp → Prop}
    (m : Mid M H0 F1 H1 σ own ρw D F H ρ) (hD : H D = some (.lst acc)) (hz : acc.length < sizeLine) (R : Rel M H0 F' H' (wipe σ own) ρ) (S : Stp F H (OA ρ (wipe σ own)) F' H' (OA ρ (wipe σ own))) (r : Rep M F' d x) (h : fLc T e c t own d ρ = .ok o ρ2)
    (k : ∀ F2 H2 ys, Mid M H0 F1 H1 σ own ρw D F2 H2 ρ2 → Le F F2 → Reps M F2 o ys → H2 D = some (.lst (acc ++ ys)) → Nx H2) :
    tG M H0 t x (wipe σ own) H' fun σ2 H2 => wipe σ2 own = wipe σ own ∧ tT M H0 WN T c σ2 H2 fun b H3 =>
      if b = true then tE M H0 WN T e σ2 H3 fun y H4 => ∃ acc, H4 D = some (.lst acc) ∧ acc.length < sizeLine ∧ Nx (upd H4 D (.lst (acc ++ [y]))) else Nx H3 := by
  refine ⟨F', ρ, d, R, r, ?_⟩
  unfold fLc at h
  cases h1 : tgt ρ t d with
  | none => rw [h1] at h; cases h
  | some ρa =>
    rw [h1] at h
    dsimp only at h
    intro σ2 R2 O2 P2 N2
    have ew := wipe_only N2 hj
    refine ⟨ew, F', ρa, R2, ?_⟩
    obtain ⟨q, ρb, h2, h3⟩ := truth_ok h
    refine post_ok h2 fun b F3 H3 R3 S3 E3 V3 => ?_
    subst V3
    have St3 : Stp F H (OA ρ (wipe σ own)) F3 H3 (OA ρb σ2) := (S.shrink O2).trans S3
    have fin : ∀ {F4 H4 : Hp} {ρc : Env}, Rel M H0 F4 H4 σ2 ρc → Stp F H (OA ρ (wipe σ own)) F4 H4 (OA ρc σ2) → ES ρa ρc → Mid M H0 F1 H1 σ own ρw D F4 H4 (wipeE ρc own) ∧ H4 D = some (.lst acc) := fun {F4 H4 ρc} R4 S4 E4 => by
      obtain ⟨g1, g2, g3⟩ := pend_keep m.fd hD m.nd S4
      obtain ⟨R5, O5⟩ := R4.wipe own
      rw [ew] at R5 O5
      exact ⟨⟨R5, m.stp.trans (S4.shrink O5).liftD, m.es.trans (es_turn m.wiped h1 hj E4), wiped_wipe _ _, g1, fun z => g3 (O5 D z)⟩, g2⟩
    cases q with
    | false =>
      rw [if_neg (by decide)] at h3 ⊢
      cases h3
      obtain ⟨m2, g2⟩ := fin R3 St3 E3
      exact k F3 H3 [] m2 St3.le Reps.nil (by rw [List.append_nil]; exact g2)
    | true =>
      rw [if_pos rfl] at h3 ⊢
      obtain ⟨v, ρc, h4, h5⟩ := bind_ok h3
      obtain ⟨dd, ρd, h6, h7⟩ := bind_ok h5
      cases h7
      refine ⟨F3, ρb, R3, post_ok h4 fun y F4 H4 R4 S4 E4 V4 => ?_⟩
      obtain ⟨F5, R5, S5, E5, r5, _⟩ := okD_ok (F := F3) (H := H3) R4 S4 V4.1 V4.2 h6
      obtain ⟨m2, g2⟩ := fin R5 (St3.trans S5) (E3.trans (E4.trans E5))
      refine ⟨acc, g2, hz, k F5 _ [y] ⟨m2.rel.pend m2.fd m2.nd, m2.stp.trans (Stp.pend (by rw [g2]; intro z; cases z)), m2.es, m2.wiped, m2.fd, m2.nd⟩ (St3.trans S5).le (Reps.cons r5 Reps.nil) upd_same⟩
theorem Reps.reps_append {F : Hp} {pre o : List PV.D} {acc ys : List V} (a : Reps M F pre acc) (b : Reps M F o ys) : Reps M F (pre ++ o) (acc ++ ys) := a.append b
theorem i_lc {HX : Hp} {e c : CE} {t : CT} {it : CI} {own : List Nat} (hj : ∀ j ∈ t.slots, j ∈ own) (hW : ∀ cls d σ H H', Unl HX H H' → W cls d σ H' → W cls d σ H) {σ : L2.St} {H : Hp} {Q : VK} (h : tE M H0 W T (.lc e t it c own) σ H Q) :
    tUnlE HX (tLc (tI M H0 W T HX it) (tG M H0 t) (tT M H0 WN T c) (tE M H0 WN T e) own) σ H Q := by
  obtain ⟨F, ρ, R, p⟩ := h
  simp only [ev] at p
  refine ⟨F, ρ, R, ?_⟩
  cases h1 : evI T it ρ with
  | bad => rw [h1] at p; exact p
  | exc ex ρ1 => rw [h1] at p; exact p
  | ok ds ρ1 =>
    rw [h1] at p
    intro J F0 H0' F1 H1 R0 S0 E0 k I D hD
    have R1 := k.rel R0
    have p' : Post M H0 W F H σ ρ (VR1 M H σ) ((calm (gather (fLc T e c t own) ds (wipeE ρ1 own))).bind fun ds ρ2 => if ds.length ≤ LIM then .ok (.n (.lst ds)) (unwipe ρ1 ρ2 own) else .bad) Q := p
    cases h2 : gather (fLc T e c t own) ds (wipeE ρ1 own) with
    | bad => rw [h2] at p'; exact p'.elim
    | exc ex ρ2 => rw [h2] at p'; exact p'.elim
    | ok out ρ2 =>
      rw [h2] at p'
      simp only [calm, Out.bind] at p'
      by_cases hz : out.length ≤ LIM
      case neg => rw [if_neg hz] at p'; exact p'.elim
      rw [if_pos hz] at p'
      have hL := LIM_line
      have f1D : F1 D = none := R1.sub.d D hD
      have n1D : ¬ OA ρ1 σ D := not_oa R1 hD
      obtain ⟨Rw, Ow⟩ := R1.wipe own
      have m0 : Mid M H0 F1 (upd H1 D (.lst [])) σ own (wipeE ρ1 own) D F1 (upd H1 D (.lst [])) (wipeE ρ1 own) :=
        ⟨Rw.pend f1D (fun z => n1D (Ow D z)), Stp.refl _ _ _, ES.refl _, wiped_wipe _ _, f1D, fun z => n1D (Ow D z)⟩
      -- what the walk leaned on stands
      have kp : ∀ {F' H' : Hp} {ρ' : Env}, Mid M H0 F1 (upd H1 D (.lst [])) σ own (wipeE ρ1 own) D F' H' ρ' → Keep F1 H1 H' := fun {F' H' ρ'} m b o hb he => by
        have nb : b ≠ D := by rintro rfl; exact hb f1D
        refine m.stp.fr b o (by rw [upd_ne nb]; exact he) ?_
        rintro (⟨i, q, z⟩ | z)
        · cases w : slotAt (wipeE ρ1 own) i with
          | no => rw [w] at q; exact q
          | fz _ => rw [w] at q; exact q
          | ow d => obtain ⟨a, u, g1, g2, _⟩ := Rw.ow i d (.inl w); rw [z] at g1; cases g1; exact hb g2
          | pw d => obtain ⟨a, u, g1, g2, _⟩ := Rw.ow i d (.inr w); rw [z] at g1; cases g1; exact hb g2
        · exact nb z
      refine ⟨fun i m H' => m = ds.length - i ∧ i ≤ ds.length ∧ ∃ F' ρ' pre post acc, gather (fLc T e c t own) (ds.drop i) ρ' = .ok post ρ2 ∧ out = pre ++ post ∧ Mid M H0 F1 (upd H1 D (.lst [])) σ own (wipeE ρ1 own) D F' H' ρ' ∧ Reps M F' pre acc ∧ H' D = some (.lst acc),
        ⟨ds.length, by simp, Nat.zero_le _, F1, wipeE ρ1 own, [], out, [], by simpa using h2, rfl, m0, Reps.nil, upd_same⟩, ?_⟩
      rintro i m H' ⟨rfl, hi, F', ρ', pre, post, acc, g, ho, md, ra, hd⟩
      by_cases hlt : i < ds.length
      · have ed : ∃ d, ds[i]? = some d ∧ ds.drop i = d :: ds.drop (i + 1) := ⟨ds[i], List.getElem?_eq_getElem hlt, List.drop_eq_getElem_cons hlt⟩
        obtain ⟨d0, hd0, ed⟩ := ed
        rw [ed] at g
        obtain ⟨o, ρ3, post', g1, g2, rfl⟩ := gather_ok g
        refine .inr ⟨I.go i H' hlt (kp md), fun H2 => (ds.length - (i + 1)) = ds.length - (i + 1) ∧ i + 1 ≤ ds.length ∧ ∃ F' ρ' pre post acc, gather (fLc T e c t own) (ds.drop (i + 1)) ρ' = .ok post ρ2 ∧ out = pre ++ post ∧ Mid M H0 F1 (upd H1 D (.lst [])) σ own (wipeE ρ1 own) D F' H2 ρ' ∧ Reps M F' pre acc ∧ H2 D = some (.lst acc),
          fun H2 z => ⟨ds.length - (i + 1), by omega, z⟩, fun x H2 y => ?_⟩
        obtain ⟨d, F2, hdd, R2, S2, r2⟩ := I.turn md.stp.le md.rel (kp md) hlt y
        rw [hd0] at hdd; cases hdd
        have hacc : acc.length < sizeLine := by
          have q1 := ra.length
          have q2 : out.length = pre.length + (o ++ post').length := by rw [ho, List.length_append]
          have : sizeLine = 16777216 := sizeLine_eq
          have : LIM = 16000000 := rfl
          omega
        refine turn_ok hj md hd hacc R2 S2 r2 g1 fun F3 H3 ys m3 le3 r3 h3 => ⟨rfl, hlt, F3, ρ3, pre ++ o, post', acc ++ ys, g2, by rw [ho, List.append_assoc], m3, (Reps.mono le3 _ _ ra).append r3, h3⟩
      · have e : i = ds.length := by omega
        subst e
        rw [List.drop_length] at g
        simp only [gather] at g
        cases g
        refine .inl ⟨I.stop H' (kp md), ?_⟩
        rw [List.append_nil] at ho
        subst ho
        -- the block's end
        have St : Stp F1 H1 (OA (wipeE ρ1 own) (L2.wipe σ own)) F' H' (AD D ρ2 (L2.wipe σ own)) := by
          refine ⟨md.stp.le, fun b o hb n => ?_, fun b hb => ?_, fun b hb hb' => ?_, fun b hb => ?_⟩
          · have nb : b ≠ D := by rintro rfl; rw [hD] at hb; cases hb
            exact md.stp.fr b o (by rw [upd_ne nb]; exact hb) fun z => z.elim n nb
          · have := md.stp.dm b hb
            by_cases q : b = D
            · rw [q]; exact hD
            · rw [upd_ne q] at this; exact this
          · rcases md.stp.nw b hb hb' with z | z
            · by_cases q : b = D
              · subst q; rw [upd_same] at z; cases z
              · rw [upd_ne q] at z; exact .inl z
            · rcases z with z | z
              · exact .inr z
              · subst z; exact absurd md.fd hb'
          · rcases md.stp.ow b hb with z | z
            · rcases z with z | z
              · exact .inl z
              · subst z; exact .inr hD
            · by_cases q : b = D
              · subst q; exact .inr hD
              · rw [upd_ne q] at z; exact .inr z
        obtain ⟨R5, E5, S5⟩ := R1.unwipe hD md.rel md.wiped md.es St
        obtain ⟨F6, H6, u6, R6, S6, le6, nn6, same6⟩ := k.back R1 R5 S5
        refine ⟨H6, u6, p' (.ref D) F6 H6 R6 (S0.trans S6) (E0.trans E5) ⟨⟨D, .lst acc, rfl, nn6 D md.fd, (same6 D md.fd).trans hd, ra.mono le6 _ _, fun z => ?_⟩, fun d' a z z' => ?_⟩⟩
        · exact n1D (E5.oa z)
        · cases z'
          have hD0 : H0' D = none := by
            rcases k with ⟨_, rfl⟩ | ⟨b, od, kvs, _, q2, _, _, rfl⟩
            · exact hD
            · by_cases q : D = b
              · subst q; rw [upd_same] at hD; cases hD
              · rw [upd_ne q] at hD; exact hD
          exact S0.dm D hD0
end
end PV

set_option Elab.async false
set_option linter.all false
set_option maxRecDepth 100000
set_option maxHeartbeats 1000000
/-! PvK: == and != of data: lists, tuples, dicts, both answers. -/
namespace PV
open PySem PySem.SeqAt
open AutoSeq1 (wpAny_loadPart')
open MeetsSeq MeetsSeq2 MeetsSeq3 SeqRoads2
section
variable {prog : Program} {w : World}
theorem ne_loopP (l b : Addr) (items items2 : Array Value) (n n2 : Nat) (dd dd2 : Option Addr) (sl sl2 : Array (Option Value)) (hsz : items.size = items2.size) (e : Nat → Bool) (k : Nat) :
    ∀ i : Nat, items.size - i = k → MeetsIn prog w (Builtin.«list.__eq__.loop» ⟨[.ref l, .ref b, rawInt i, rawInt 3], []⟩)
      (fun A R s => s.heap.get? l = some { cls := .type "list", dict := dd, data := .seq items n, slots := sl } ∧ s.heap.get? b = some { cls := .type "list", dict := dd2, data := .seq items2 n2, slots := sl2 } ∧
        (∀ j (h1 : j < items.size) (h2 : j < items2.size), EqP prog w A.in1 s items[j] items2[j] (e j)) ∧
        R (.ok (.ret (.bool (!((List.range items.size).drop i).all e)))) s) := by
  induction k with
  | zero =>
    intro i hk A R s ⟨hl, hb, he, h⟩
    obtain ⟨hp, g, d, tk, os⟩ := s
    wp_walk using wpAny_loadPart' hl, wpAny_loadPart' hb
    have a1 : items[((i : Nat) : Int).toNat]? = none := by simp; omega
    have a2 : items2[((i : Nat) : Int).toNat]? = none := by simp; omega
    have a3 : (List.range items.size).drop i = [] := by simp; omega
    rw [a3] at h
    rw [a1, a2]
    wp_walk using wpAny_loadPart' hl, wpAny_loadPart' hb
    show R (.ok (.ret (.bool (items.size != items2.size)))) _
    rw [hsz]
    simpa using h
  | succ k ih =>
    intro i hk A R s ⟨hl, hb, he, h⟩
    obtain ⟨hp, g, d, tk, os⟩ := s
    wp_walk using wpAny_loadPart' hl, wpAny_loadPart' hb
    have q1 : i < items.size := by omega
    have q2 : i < items2.size := by omega
    have a1 : items[((i : Nat) : Int).toNat]? = some items[i] := by simp [q1]
    have a2 : items2[((i : Nat) : Int).toNat]? = some items2[i] := by simp [q2]
    have a3 : (List.range items.size).drop i = i :: (List.range items.size).drop (i + 1) := by simp [List.drop_eq_getElem_cons, q1]
    have a4 : ((i : Int) + 1) = ((i + 1 : Nat) : Int) := by push_cast; rfl
    rw [a3, List.all_cons] at h
    rw [a1, a2]
    refine wpAny_bind (he i q1 q2 _ _ ?_)
    cases z : e i with
    | true =>
      rw [z] at h
      wp_walk
      rw [a4]
      exact ⟨plainId_quiet plain_eq_loop _, codeAny_builtin entry_eq_loop (by
        rw [Around.under_plainId plain_eq_loop _]
        exact ih (i + 1) (by omega) A R _ ⟨hl, hb, he, by simpa using h⟩)⟩
    | false =>
      rw [z] at h
      wp_walk using wpAny_loadPart' hl, wpAny_loadPart' hb
      rw [a1, a2]
      wp_walk
      simpa using h
theorem list_neP (l b : Addr) (items items2 : Array Value) (n n2 : Nat) (dd dd2 : Option Addr) (sl sl2 : Array (Option Value)) (hsz : items.size = items2.size) (e : Nat → Bool) :
    MeetsIn prog w (Builtin.«list.__ne__» ⟨[.ref l, .ref b], []⟩)
      (fun A R s => s.heap.get? l = some { cls := .type "list", dict := dd, data := .seq items n, slots := sl } ∧ s.heap.get? b = some { cls := .type "list", dict := dd2, data := .seq items2 n2, slots := sl2 } ∧
        (∀ j (h1 : j < items.size) (h2 : j < items2.size), EqP prog w A.in1 s items[j] items2[j] (e j)) ∧
        R (.ok (.ret (.bool (!(List.range items.size).all e)))) s) := by
  intro A R s ⟨hl, hb, he, h⟩
  obtain ⟨hp, g, d, tk, os⟩ := s
  have f3 := AutoSeq1.sub_list_list
  have hne : ¬ (items.size != items2.size) = true := by simp [hsz]
  wp_walk using wpAny_loadPart' hl, wpAny_loadPart' hb
  exact ⟨plainId_quiet plain_eq_loop _, codeAny_builtin entry_eq_loop (by
    rw [Around.under_plainId plain_eq_loop _]
    exact ne_loopP l b items items2 n n2 dd dd2 sl sl2 hsz e _ 0 rfl A R _ ⟨hl, hb, he, by simpa using h⟩)⟩
theorem rcNeP_lists {A : Around} {s : Shared} {l b : Addr} {items items2 : Array Value} {e : Nat → Bool} (hl : s.heap.IsList l items) (hb : s.heap.IsList b items2) (hsz : items.size = items2.size) (hu : A.units < cLine)
    (he : ∀ j (h1 : j < items.size) (h2 : j < items2.size), EqP prog w A.in1 s items[j] items2[j] (e j)) (E Q : Value → Shared → Prop) (h : Q (.bool (!(List.range items.size).all e)) s) : wpAny (model prog w) A (richCompare .NotEq (.ref l) (.ref b)) Q E s := by
  obtain ⟨⟨cls, dd, data, sl⟩, ho, hc, n, hd⟩ := id hl
  obtain ⟨⟨cls2, dd2, data2, sl2⟩, ho2, hc2, n2, hd2⟩ := id hb
  simp only at hc hd hc2 hd2
  subst hc hd hc2 hd2
  have ta : s.TypeIs (.ref l) "list" := ⟨_, ho, rfl⟩
  have tb : s.TypeIs (.ref b) "list" := ⟨_, ho2, rfl⟩
  exact wpAny_richCompare_same_room (op := .NotEq) ta tb F.slot_list_ne (call_meetsIn F.slot_list_ne ta F.entry_list_ne (F.args_list_ne_2 _ _) (list_neP l b items items2 n n2 dd dd2 sl sl2 hsz e)
    ⟨ho, ho2, he, show Value.bool (!(List.range items.size).all e) ≠ Value.notImplemented ∧ Q (.bool (!(List.range items.size).all e)) s from ⟨(fun x => nomatch x), h⟩⟩) hu
theorem rcNeP_dicts {K : Type} [DecidableEq K] {knd : KeyKind prog w K} {A : Around} {s : Shared} {a b : Addr} {ka kb : List (K × Value)} {r : Bool} (ha : (a == sysModules) = false) (hb : (b == sysModules) = false)
    (da : s.heap.DictOf knd a ka) (db : s.heap.DictOf knd b kb) (hu : A.units < cLine) (hits : ka.length = kb.length → PySem.W.KeqHitsP prog w A.in1 s kb ka r) (E Q : Value → Shared → Prop) (h : Q (.bool (!(ka.length == kb.length && r))) s) :
    wpAny (model prog w) A (richCompare .NotEq (.ref a) (.ref b)) Q E s := by
  refine wpAny_richCompare_same_room (op := .NotEq) da.typeIs db.typeIs PySem.F.slot_dict_ne (wpAny_call_entry PySem.F.slot_dict_ne da.typeIs PySem.F.entry_dict_ne ?_ (PySem.F.args_dict_ne_2 _ _)) hu
  show wpAny _ _ (Builtin.Dict.dictSlotArgs "__ne__" ⟨[.ref a, .ref b], []⟩ >>= _) _ _ s
  refine wpAny_bind ?_
  unfold Builtin.Dict.dictSlotArgs
  refine wpAny_bind (wpAny_notOrdered_dict da.typeIs ?_)
  show wpAny _ _ (pure (Value.ref a, Value.ref b)) _ _ s
  refine wpAny_pure ?_
  refine wpAny_bind (wpAny_isInstance (T := "dict") db.typeIs PySem.F.sub_dict_dict ?_)
  simp only [Bool.not_true, Bool.false_eq_true, if_false]
  refine wpAny_bind (wpAny_pure (wpAny_bind (wpAny_pure ?_)))
  refine wpAny_bind (PySem.W.samePairsP ha hb da db hits ?_)
  refine wpAny_pure ⟨_, rfl, ?_, ?_⟩
  · exact fun x => nomatch x
  · simpa using h
end
end PV
namespace PV
open PySem PySem.SeqAt L2
/-! ### what is compared -/
theorem RT.flat {M : Nm} {F H : Hp} {d : D} {v : V} (f : d.flat = true) (h : RT M F H d v) : (d = .non ∧ v = .non) ∨ (∃ b, d = .bl b ∧ v = .bl b) ∨ (∃ i, d = .int i ∧ v = .int i) ∨ ∃ x, d = .str x ∧ v = .str x := by
  cases d with
  | non => exact .inl ⟨rfl, h.non⟩
  | bl b => exact .inr (.inl ⟨b, rfl, h.bl⟩)
  | int i => exact .inr (.inr (.inl ⟨i, rfl, h.int⟩))
  | str x => exact .inr (.inr (.inr ⟨x, rfl, h.str⟩))
  | _ => exact absurd f Bool.false_ne_true
section
variable {A : Around} {s : Shared} {M : Nm} {F H : Hp} {a b : D} {x y : V} {v u : Value}
theorem flat_eqAt (fa : a.flat = true) (fb : b.flat = true) (ra : RT M F H a x) (rb : RT M F H b y) (rx : RelV x v) (ry : RelV y u) : EqAt A s v u (D.eqf a b) := by
  have k := fun (f : flatV x = true) (g : flatV y = true) => eqAt_V (A := A) (s := s) rx ry f g
  rcases ra.flat fa with ⟨rfl, rfl⟩ | ⟨i, rfl, rfl⟩ | ⟨i, rfl, rfl⟩ | ⟨i, rfl, rfl⟩ <;> rcases rb.flat fb with ⟨rfl, rfl⟩ | ⟨j, rfl, rfl⟩ | ⟨j, rfl, rfl⟩ | ⟨j, rfl, rfl⟩ <;> exact k rfl rfl
theorem flat_rcAt (fa : a.flat = true) (fb : b.flat = true) (ra : RT M F H a x) (rb : RT M F H b y) (rx : RelV x v) (ry : RelV y u) : RcAt A s v u (D.eqf a b) ∧ RcNeAt A s v u (!D.eqf a b) := by
  rcases ra.flat fa with ⟨rfl, rfl⟩ | ⟨i, rfl, rfl⟩ | ⟨i, rfl, rfl⟩ | ⟨i, rfl, rfl⟩ <;> rcases rb.flat fb with ⟨rfl, rfl⟩ | ⟨j, rfl, rfl⟩ | ⟨j, rfl, rfl⟩ | ⟨j, rfl, rfl⟩
  · cases rx; cases ry; exact ⟨.none_none, .none_none⟩
  · cases rx; cases ry; exact ⟨.none_bool _, .none_bool _⟩
  · obtain ⟨t, rfl⟩ := ry; cases rx; exact ⟨.none_int _ _, .none_int _ _⟩
  · obtain ⟨t, rfl⟩ := ry; cases rx; exact ⟨.none_str _ _, .none_str _ _⟩
  · cases rx; cases ry; exact ⟨.bool_none _, .bool_none _⟩
  · cases rx; cases ry; exact ⟨.bool_bool _ _, .bool_bool _ _⟩
  · obtain ⟨t, rfl⟩ := ry; cases rx; exact ⟨.bool_int _ _ _, .bool_int _ _ _⟩
  · obtain ⟨t, rfl⟩ := ry; cases rx; exact ⟨.bool_str _ _ _, .bool_str _ _ _⟩
  · obtain ⟨t, rfl⟩ := rx; cases ry; exact ⟨.int_none _ _, .int_none _ _⟩
  · obtain ⟨t, rfl⟩ := rx; cases ry; exact ⟨.int_bool _ _ _, .int_bool _ _ _⟩
  · obtain ⟨t, rfl⟩ := rx; obtain ⟨t', rfl⟩ := ry; exact ⟨.int_int _ _ _ _, .int_int _ _ _ _⟩
  · obtain ⟨t, rfl⟩ := rx; obtain ⟨t', rfl⟩ := ry; exact ⟨.int_str _ _ _ _, .int_str _ _ _ _⟩
  · obtain ⟨t, rfl⟩ := rx; cases ry; exact ⟨.str_none _ _, .str_none _ _⟩
  · obtain ⟨t, rfl⟩ := rx; cases ry; exact ⟨.str_bool _ _ _, .str_bool _ _ _⟩
  · obtain ⟨t, rfl⟩ := rx; obtain ⟨t', rfl⟩ := ry; exact ⟨.str_int _ _ _ _, .str_int _ _ _ _⟩
  · obtain ⟨t, rfl⟩ := rx; obtain ⟨t', rfl⟩ := ry; exact ⟨.str_str _ _ _ _, .str_str _ _ _ _⟩
theorem flat_same (fa : a.flat = true) (fb : b.flat = true) (ra : RT M F H a x) (rb : RT M F H b x) : D.eqf a b = true := by
  rcases ra.flat fa with ⟨rfl, rfl⟩ | ⟨i, rfl, rfl⟩ | ⟨i, rfl, rfl⟩ | ⟨i, rfl, rfl⟩ <;> rcases rb.flat fb with ⟨rfl, e⟩ | ⟨j, rfl, e⟩ | ⟨j, rfl, e⟩ | ⟨j, rfl, e⟩ <;> cases e <;> simp [D.eqf]
end
/-- the j-th answer -/
def ansAt (f : D → D → Option Bool) (xs ys : List D) (j : Nat) : Bool := match xs[j]?, ys[j]? with
  | some x, some y => (f x y).getD false
  | _, _ => false
theorem allO_zip {f : D → D → Option Bool} : ∀ {xs ys : List D} {e : Bool}, allO (List.zipWith f xs ys) = some e →
    (∀ (j : Nat) x y, xs[j]? = some x → ys[j]? = some y → f x y = some (ansAt f xs ys j)) ∧ (List.range (min xs.length ys.length)).all (ansAt f xs ys) = e
  | [], ys, e, h => by
    simp [allO] at h
    exact ⟨fun j x y h1 => by simp at h1, by simp [h]⟩
  | _ :: _, [], e, h => by
    simp [allO] at h
    exact ⟨fun j x y h1 h2 => by simp at h2, by simp [h]⟩
  | x :: xs, y :: ys, e, h => by
    rw [List.zipWith_cons_cons] at h
    cases q : f x y with
    | none => rw [q] at h; simp [allO] at h
    | some c =>
      rw [q] at h
      simp only [allO] at h
      cases r : allO (List.zipWith f xs ys) with
      | none => rw [r] at h; simp at h
      | some e' =>
        rw [r] at h
        simp at h
        obtain ⟨h1, h2⟩ := allO_zip r
        refine ⟨fun j x' y' g1 g2 => ?_, ?_⟩
        · cases j with
          | zero => simp at g1 g2; subst g1; subst g2; simp [ansAt, q]
          | succ j => simp at g1 g2; rw [h1 j x' y' g1 g2]; simp [ansAt]
        · rw [List.length_cons, List.length_cons, Nat.succ_min_succ, List.range_succ_eq_map, List.all_cons, List.all_map]
          rw [show (ansAt f (x :: xs) (y :: ys) ∘ Nat.succ) = ansAt f xs ys from by funext j; simp [ansAt], h2, ← h]
          simp [ansAt, q]
theorem Rd.unique {H : Hp} {a : Addr} {o u : HO} (h : Rd H a o) (g : Rd H a u) (n : ∀ ob w, o ≠ .frz ob w) (m : ∀ ob w, u ≠ .frz ob w) : o = u := by
  rcases h with h | ⟨x, h⟩ <;> rcases g with g | ⟨y, g⟩ <;> rw [h] at g
  · exact Option.some.inj g
  · exact absurd (Option.some.inj g) (n _ _)
  · exact absurd (Option.some.inj g).symm (m _ _)
  · injection g with g; injection g with _ g
theorem eqAt_refs {A : Around} {s : Shared} {l b : Addr} {e : Bool} (h : RcAt A s (.ref l) (.ref b) e) (q : l = b → e = true) : EqAt A s (.ref l) (.ref b) e := by
  by_cases z : l = b
  · rw [q z, z]; exact .same _
  · exact .of_refs z h
theorem eqP_refs' {prog : Program} {w : World} {A : Around} {s : Shared} {l b : Addr} {e : Bool} (h : ∀ (E Q : Value → Shared → Prop), Q (.bool e) s → wpAny (model prog w) A (richCompare .Eq (.ref l) (.ref b)) Q E s) (q : l = b → e = true) : EqP prog w A s (.ref l) (.ref b) e := by
  by_cases z : l = b
  · rw [q z, z]; exact (EqAt.same _).eqP
  · exact eqP_refs z h
/-- all answers about the same values are True -/
theorem zip_same {f : D → D → Option Bool} {M : Nm} {F : Hp} (k : ∀ a b v e, Rep M F a v → Rep M F b v → f a b = some e → e = true) : ∀ {xs ys : List D} {vs : List V} {e : Bool}, Reps M F xs vs → Reps M F ys vs → allO (List.zipWith f xs ys) = some e → e = true
  | [], ys, vs, e, h1, h2, h => by simp [allO] at h; exact h
  | x :: xs, [], vs, e, h1, h2, h => by simp [allO] at h; exact h
  | x :: xs, y :: ys, vs, e, h1, h2, h => by
    obtain ⟨v, ws, rfl, r1, t1⟩ := h1
    obtain ⟨v', ws', e', r2, t2⟩ := h2
    cases e'
    rw [List.zipWith_cons_cons] at h
    cases q : f x y with
    | none => rw [q] at h; simp [allO] at h
    | some c =>
      rw [q] at h
      simp only [allO] at h
      cases r : allO (List.zipWith f xs ys) with
      | none => rw [r] at h; simp at h
      | some e' =>
        rw [r] at h
        simp at h
        rw [← h, k x y v c r1 r2 q, zip_same k t1 t2 r]; rfl
section
variable {X : Cx} {pins : List (Addr × Obj)} {σ : L2.St} {F H : Hp} {s : Shared} {M : Nm}
theorem eq2_same (le : Le F H) : ∀ (n : Nat) (a b : D) (x : V) (e : Bool), RT M F H a x → RT M F H b x → D.eq2 n a b = some e → e = true := by
  intro n
  induction n with
  | zero =>
    intro a b x e ra rb h
    unfold D.eq2 flatE at h
    split at h
    · rename_i f
      rw [Bool.and_eq_true] at f
      cases h; exact flat_same f.1 f.2 ra rb
    · cases h
  | succ n ih =>
    intro a b x e ra rb h
    unfold D.eq2 at h
    split at h
    · obtain ⟨l, vs, rfl, h1, h2⟩ := ra.lstR le
      obtain ⟨l', vs', e', h3, h4⟩ := rb.lstR le
      cases e'
      cases Rd.unique h1 h3 (fun _ _ z => by cases z) fun _ _ z => by cases z
      split at h
      · exact zip_same (fun a b v e r1 r2 q => ih a b v e (.inl r1) (.inl r2) q) h2 h4 h
      · rename_i z; exact absurd (h2.length.trans h4.length.symm) z
    · obtain ⟨l, vs, rfl, h1, h2⟩ := ra.tup le
      obtain ⟨l', vs', e', h3, h4⟩ := rb.tup le
      cases e'
      rw [h1] at h3; cases h3
      split at h
      · exact zip_same (fun a b v e r1 r2 q => ih a b v e (.inl r1) (.inl r2) q) h2 h4 h
      · rename_i z; exact absurd (h2.length.trans h4.length.symm) z
    · unfold flatE at h
      split at h
      · rename_i f
        rw [Bool.and_eq_true] at f
        cases h; exact flat_same f.1 f.2 ra rb
      · cases h
/-- the items of two lists -/
theorem items_at {P : Value → Value → Bool → Prop} {f : D → D → Option Bool} {xs ys : List D} {vs ws : List V} {us zs : List Value} {e : Bool} (h1 : Reps M F xs vs) (h2 : Reps M F ys ws) (r1 : Vals vs us) (r2 : Vals ws zs)
    (h : allO (List.zipWith f xs ys) = some e) (k : ∀ a b x y v u c, Rep M F a x → Rep M F b y → RelV x v → RelV y u → f a b = some c → P v u c) :
    ∀ j (j1 : j < us.toArray.size) (j2 : j < zs.toArray.size), P us.toArray[j] zs.toArray[j] (ansAt f xs ys j) := by
  intro j j1 j2
  have l1 : j < vs.length := by rw [r1.length]; simpa using j1
  have l2 : j < ws.length := by rw [r2.length]; simpa using j2
  obtain ⟨a, ha, ra⟩ := h1.get (List.getElem?_eq_getElem l1)
  obtain ⟨b, hb, rb⟩ := h2.get (List.getElem?_eq_getElem l2)
  obtain ⟨v, hv, rv⟩ := r1.get (List.getElem?_eq_getElem l1)
  obtain ⟨u, hu, ru⟩ := r2.get (List.getElem?_eq_getElem l2)
  have e1 : us.toArray[j] = v := by
    rw [List.getElem?_eq_getElem (by simpa using j1)] at hv
    simpa using hv
  have e2 : zs.toArray[j] = u := by
    rw [List.getElem?_eq_getElem (by simpa using j2)] at hu
    simpa using hu
  rw [e1, e2]
  exact k a b _ _ v u _ ra rb rv ru ((allO_zip h).1 j a b ha hb)
theorem eq2_rc (I : Inv X pins σ H s) (hk : X.K = M.K) (le : Le F H) : ∀ (n : Nat) (A : Around), A.units + n < cLine → ∀ (a b : D) (x y : V) (v u : Value) (e : Bool), D.eq2 n a b = some e → RT M F H a x → RT M F H b y → RelV x v → RelV y u →
    RcAt A s v u e ∧ RcNeAt A s v u (!e) ∧ EqAt A s v u e := by
  intro n
  induction n with
  | zero =>
    intro A hu a b x y v u e h ra rb rx ry
    unfold D.eq2 flatE at h
    split at h
    · rename_i f
      rw [Bool.and_eq_true] at f
      cases h
      exact ⟨(flat_rcAt f.1 f.2 ra rb rx ry).1, (flat_rcAt f.1 f.2 ra rb rx ry).2, flat_eqAt f.1 f.2 ra rb rx ry⟩
    · cases h
  | succ n ih =>
    intro A hu a b x y v u e h ra rb rx ry
    have h0 := h
    unfold D.eq2 at h
    have hu1 : A.in1.units + n < cLine := by show A.units + 1 + n < cLine; omega
    have hu0 : A.units < cLine := by omega
    split at h
    · obtain ⟨l, vs, rfl, h1, h2⟩ := ra.lst le
      obtain ⟨l', ws, rfl, h3, h4⟩ := rb.lst le
      cases rx; cases ry
      rw [← hk] at h1 h3
      obtain ⟨us, r1, p1, _⟩ := I.list h1
      obtain ⟨zs, r2, p2, _⟩ := I.list h3
      have q1 : us.toArray.size = _ := List.size_toArray.trans (r1.length.symm.trans h2.length.symm)
      have q2 : zs.toArray.size = _ := List.size_toArray.trans (r2.length.symm.trans h4.length.symm)
      have same : l = l' → e = true := fun z => eq2_same le (n + 1) _ _ _ e ra (z ▸ rb) h0
      split at h
      · rename_i hl
        have k := items_at h2 h4 r1 r2 h fun a b x y v u c g1 g2 g3 g4 g5 => (ih A.in1 hu1 a b x y v u c g5 (.inl g1) (.inl g2) g3 g4).2.2
        have hsz : us.toArray.size = zs.toArray.size := by rw [q1, q2, hl]
        have c1 := RcAt.lists p1.isList p2.isList hsz hu0 k
        have c2 := RcNeAt.lists p1.isList p2.isList hsz hu0 k
        have z := (allO_zip h).2
        rw [← hl, Nat.min_self] at z
        rw [q1, z] at c1 c2
        exact ⟨c1, c2, eqAt_refs c1 same⟩
      · rename_i hl
        cases h
        have hsz : (us.toArray.size != zs.toArray.size) = true := by rw [q1, q2]; simpa using hl
        have c1 := RcAt.lists_lengths (A := A) p1.isList p2.isList hsz hu0
        exact ⟨c1, RcNeAt.lists_lengths p1.isList p2.isList hsz hu0, eqAt_refs c1 same⟩
    · rename_i xs ys
      obtain ⟨l, vs, rfl, h1, h2⟩ := ra.tup le
      obtain ⟨l', ws, rfl, h3, h4⟩ := rb.tup le
      cases rx; cases ry
      obtain ⟨us, r1, p1, _⟩ := I.tuple (.inl (.inl h1))
      obtain ⟨zs, r2, p2, _⟩ := I.tuple (.inl (.inl h3))
      have q1 : us.toArray.size = _ := List.size_toArray.trans (r1.length.symm.trans h2.length.symm)
      have q2 : zs.toArray.size = _ := List.size_toArray.trans (r2.length.symm.trans h4.length.symm)
      have same : l = l' → e = true := fun z => eq2_same le (n + 1) _ _ _ e ra (z ▸ rb) h0
      split at h
      · rename_i hl
        have k := items_at h2 h4 r1 r2 h fun a b x y v u c g1 g2 g3 g4 g5 => (ih A.in1 hu1 a b x y v u c g5 (.inl g1) (.inl g2) g3 g4).2.2
        have hsz : us.toArray.size = zs.toArray.size := by rw [q1, q2, hl]
        have c1 := RcAt.tuples p1 p2 hu0 k
        have c2 := RcNeAt.tuples p1 p2 hu0 k
        have z := (allO_zip h).2
        rw [← hl, Nat.min_self] at z
        rw [← hsz, Nat.min_self, q1, z, beq_self_eq_true, Bool.and_true] at c1 c2
        exact ⟨c1, c2, eqAt_refs c1 same⟩
      · rename_i hl
        cases r : allO (List.zipWith (D.eq2 n) xs ys) with
        | none => rw [r] at h; cases h
        | some e' =>
          rw [r] at h
          cases h
          have k := items_at h2 h4 r1 r2 r fun a b x y v u c g1 g2 g3 g4 g5 => (ih A.in1 hu1 a b x y v u c g5 (.inl g1) (.inl g2) g3 g4).2.2
          have hsz : (us.toArray.size == zs.toArray.size) = false := by rw [q1, q2]; simpa using hl
          have c1 := RcAt.tuples p1 p2 hu0 k
          have c2 := RcNeAt.tuples p1 p2 hu0 k
          rw [hsz, Bool.and_false] at c1 c2
          exact ⟨c1, c2, eqAt_refs c1 same⟩
    · unfold flatE at h
      split at h
      · rename_i f
        rw [Bool.and_eq_true] at f
        cases h
        exact ⟨(flat_rcAt f.1 f.2 ra rb rx ry).1, (flat_rcAt f.1 f.2 ra rb rx ry).2, flat_eqAt f.1 f.2 ra rb rx ry⟩
      · cases h

/-! ### dicts -/
theorem RepK.keys {M : Nm} {F : Hp} : ∀ {ks : List (Key × D)} {ws : List (Key × V)}, RepK M F ks ws → ks.map (·.1) = ws.map (·.1)
  | [], ws, h => by cases h; rfl
  | (k, d) :: ks, ws, h => by
    obtain ⟨v, ws', rfl, r, t⟩ := h
    rw [List.map_cons, List.map_cons, RepK.keys t]
theorem RepK.length {M : Nm} {F : Hp} {ks : List (Key × D)} {ws : List (Key × V)} (h : RepK M F ks ws) : ks.length = ws.length := by
  have := congrArg List.length h.keys
  simpa using this
theorem look_cons {κ : Type} [DecidableEq κ] {k j : κ} {d : D} {r : List (κ × D)} : look ((k, d) :: r) j = if k = j then some d else look r j := by
  unfold look
  rw [List.find?_cons]
  by_cases q : k = j <;> simp [q]
theorem valV_cons {κ : Type} [DecidableEq κ] {k j : κ} {d : V} {r : List (κ × V)} : valV ((k, d) :: r) j = if k = j then some d else valV r j := by
  unfold valV
  rw [List.find?_cons]
  by_cases q : k = j <;> simp [q]
theorem RepK.look {M : Nm} {F : Hp} (j : Key) : ∀ {ks : List (Key × D)} {ws : List (Key × V)}, RepK M F ks ws → (PV.look ks j = none ∧ valV ws j = none) ∨ ∃ d v, PV.look ks j = some d ∧ valV ws j = some v ∧ Rep M F d v
  | [], ws, h => by cases h; exact .inl ⟨rfl, rfl⟩
  | (k, d) :: ks, ws, h => by
    obtain ⟨v, ws', rfl, r, t⟩ := h
    rw [look_cons, valV_cons]
    by_cases q : k = j
    · rw [if_pos q, if_pos q]; exact .inr ⟨d, v, rfl, rfl, r⟩
    · rw [if_neg q, if_neg q]; exact RepK.look j t
theorem valV_mem {ws : List (Key × V)} (nd : (ws.map (·.1)).Nodup) {k : Key} {v : V} (h : (k, v) ∈ ws) : valV ws k = some v := by
  induction ws with
  | nil => cases h
  | cons p r ih =>
    obtain ⟨k', v'⟩ := p
    rw [List.map_cons, List.nodup_cons] at nd
    rw [valV_cons]
    rcases List.mem_cons.1 h with e | m
    · cases e; rw [if_pos rfl]
    · have hm : k ∈ r.map (·.1) := List.mem_map_of_mem (f := (·.1)) m
      rw [if_neg fun z => nd.1 (by rw [z]; exact hm)]
      exact ih nd.2 m
theorem kv_keys : ∀ {ks : List (Key × V)} {vs : List (Key × Value)}, KV ks vs → ks.map (·.1) = vs.map (·.1)
  | _, _, .nil => rfl
  | _, _, .cons h t => by rw [List.map_cons, List.map_cons, kv_keys t, h.1]
/-- the keys of a dict differ -/
theorem dK_nodup (I : Inv X pins σ H s) {a : Addr} {ws : List (Key × V)} (h : Rd H a (.dK ws)) : (ws.map (·.1)).Nodup := by
  obtain ⟨_, _, vs, kv, ⟨o, es, ep, _, _, _, _, _, nd⟩⟩ := h.ok I.hok
  have : ws.map (·.1) = vs.map (·.1) := kv_keys kv
  rw [this]; exact nd
theorem hits_same {f : D → D → Option Bool} {ys : List (Key × D)} {ws : List (Key × V)} (k : ∀ a b v e, Rep M F a v → Rep M F b v → f a b = some e → e = true) (nd : (ws.map (·.1)).Nodup) (h2 : RepK M F ys ws) :
    ∀ {xs : List (Key × D)} {vs : List (Key × V)} {e : Bool}, RepK M F xs vs → (∀ p ∈ vs, p ∈ ws) → hitsO f ys xs = some e → e = true
  | [], vs, e, h1, m, h => by simp [hitsO] at h; exact h
  | (q, x) :: xs, vs, e, h1, m, h => by
    obtain ⟨v, vs', rfl, r, t⟩ := h1
    have hv : valV ws q = some v := valV_mem nd (m _ List.mem_cons_self)
    simp only [hitsO] at h
    rcases h2.look q with ⟨_, z⟩ | ⟨d, v', z1, z2, z3⟩
    · rw [hv] at z; cases z
    · rw [hv] at z2; cases z2
      rw [z1] at h
      simp only at h
      cases g : f x d with
      | none => rw [g] at h; cases h
      | some c =>
        rw [g] at h
        simp only at h
        cases g2 : hitsO f ys xs with
        | none => rw [g2] at h; cases h
        | some e' =>
          rw [g2] at h
          simp at h
          rw [← h, k x d v c r z3 g, hits_same k nd h2 t (fun p hp => m p (List.mem_cons_of_mem _ hp)) g2]; rfl
theorem eq3_same (I : Inv X pins σ H s) (le : Le F H) : ∀ (n : Nat) (a b : D) (x : V) (e : Bool), RT M F H a x → RT M F H b x → D.eq3 n a b = some e → e = true := by
  intro n
  induction n with
  | zero =>
    intro a b x e ra rb h
    exact eq2_same le 0 a b x e ra rb h
  | succ n ih =>
    intro a b x e ra rb h
    unfold D.eq3 at h
    split at h
    · obtain ⟨l, vs, rfl, h1, h2⟩ := ra.lstR le
      obtain ⟨l', vs', e', h3, h4⟩ := rb.lstR le
      cases e'
      cases Rd.unique h1 h3 (fun _ _ z => by cases z) fun _ _ z => by cases z
      split at h
      · exact zip_same (fun a b v e r1 r2 q => ih a b v e (.inl r1) (.inl r2) q) h2 h4 h
      · rename_i z; exact absurd (h2.length.trans h4.length.symm) z
    · obtain ⟨l, vs, rfl, h1, h2⟩ := ra.dct le
      obtain ⟨l', vs', e', h3, h4⟩ := rb.dct le
      cases e'
      cases Rd.unique h1 h3 (fun _ _ z => by cases z) fun _ _ z => by cases z
      split at h
      · exact hits_same (fun a b v e r1 r2 q => ih a b v e (.inl r1) (.inl r2) q) (dK_nodup I h1) h4 h2 (fun _ m => m) h
      · rename_i z; exact absurd (h2.length.trans h4.length.symm) z
    · exact eq2_same le n a b x e ra rb h
theorem hits_at {A : Around} {f : D → D → Option Bool} {ys : List (Key × D)} {ws : List (Key × V)} {zs : List (Key × Value)} (h2 : RepK M F ys ws) (r2 : KV ws zs)
    (k : ∀ a b x y v u c, Rep M F a x → Rep M F b y → RelV x v → RelV y u → f a b = some c → EqP X.prog X.w A s v u c) :
    ∀ {xs : List (Key × D)} {vs : List (Key × V)} {us : List (Key × Value)} {e : Bool}, RepK M F xs vs → KV vs us → hitsO f ys xs = some e → PySem.W.KeqHitsP X.prog X.w A s zs us e
  | [], vs, us, e, h1, r1, h => by
    cases h1; cases r1
    simp [hitsO] at h
    rw [h]; exact .nil
  | (q, x) :: xs, vs, us, e, h1, r1, h => by
    obtain ⟨v, vs', rfl, r, t⟩ := h1
    cases r1 with
    | @cons _ b _ us' g1 g2 =>
      obtain ⟨q', u⟩ := b
      obtain ⟨e1, e2⟩ := g1
      simp only at e1 e2
      subst e1
      have rr : RelO (valV ws q) (valueAt zs q) := r2.val q
      simp only [hitsO] at h
      rcases h2.look q with ⟨z1, z2⟩ | ⟨d, y, z1, z2, z3⟩
      · rw [z1] at h
        cases h
        rw [z2] at rr
        refine .miss ?_
        cases g : valueAt zs q with
        | none => rfl
        | some _ => rw [g] at rr; exact rr.elim
      · rw [z1] at h
        simp only at h
        rw [z2] at rr
        obtain ⟨y', hy, ry⟩ := rr.some_of
        cases g : f x d with
        | none => rw [g] at h; cases h
        | some c =>
          rw [g] at h
          simp only at h
          cases g3 : hitsO f ys xs with
          | none => rw [g3] at h; cases h
          | some e' =>
            rw [g3] at h
            simp at h
            rw [← h]
            exact .hit hy (k x d v y u y' c r z3 e2 ry g) (hits_at h2 r2 k t g2 g3)
/-- == and != of data -/
theorem eq3_rc (I : Inv X pins σ H s) (hk : X.K = M.K) (le : Le F H) : ∀ (n : Nat) (A : Around), A.units + n < cLine → ∀ (a b : D) (x y : V) (v u : Value) (e : Bool), D.eq3 n a b = some e → RT M F H a x → RT M F H b y → RelV x v → RelV y u →
    (∀ (E Q : Value → Shared → Prop), Q (.bool e) s → wpAny (model X.prog X.w) A (richCompare .Eq v u) Q E s) ∧ (∀ (E Q : Value → Shared → Prop), Q (.bool (!e)) s → wpAny (model X.prog X.w) A (richCompare .NotEq v u) Q E s) ∧
      EqP X.prog X.w A s v u e := by
  have two : ∀ (n : Nat) (A : Around), A.units + n < cLine → ∀ (a b : D) (x y : V) (v u : Value) (e : Bool), D.eq2 n a b = some e → RT M F H a x → RT M F H b y → RelV x v → RelV y u →
    (∀ (E Q : Value → Shared → Prop), Q (.bool e) s → wpAny (model X.prog X.w) A (richCompare .Eq v u) Q E s) ∧ (∀ (E Q : Value → Shared → Prop), Q (.bool (!e)) s → wpAny (model X.prog X.w) A (richCompare .NotEq v u) Q E s) ∧
      EqP X.prog X.w A s v u e := fun n A hu a b x y v u e h ra rb rx ry => by
    obtain ⟨c1, c2, c3⟩ := eq2_rc I hk le n A hu a b x y v u e h ra rb rx ry
    exact ⟨fun E Q q => c1 _ _ E Q q, fun E Q q => c2 _ _ E Q q, c3.eqP⟩
  intro n
  induction n with
  | zero =>
    intro A hu a b x y v u e h ra rb rx ry
    exact two 0 A hu a b x y v u e h ra rb rx ry
  | succ n ih =>
    intro A hu a b x y v u e h ra rb rx ry
    have h0 := h
    unfold D.eq3 at h
    have hu1 : A.in1.units + n < cLine := by show A.units + 1 + n < cLine; omega
    have hu0 : A.units < cLine := by omega
    split at h
    · obtain ⟨l, vs, rfl, h1, h2⟩ := ra.lst le
      obtain ⟨l', ws, rfl, h3, h4⟩ := rb.lst le
      cases rx; cases ry
      rw [← hk] at h1 h3
      obtain ⟨us, r1, p1, _⟩ := I.list h1
      obtain ⟨zs, r2, p2, _⟩ := I.list h3
      have q1 : us.toArray.size = _ := List.size_toArray.trans (r1.length.symm.trans h2.length.symm)
      have q2 : zs.toArray.size = _ := List.size_toArray.trans (r2.length.symm.trans h4.length.symm)
      have same : l = l' → e = true := fun z => eq3_same I le (n + 1) _ _ _ e ra (z ▸ rb) h0
      split at h
      · rename_i hl
        have k := items_at (P := fun v u c => EqP X.prog X.w A.in1 s v u c) h2 h4 r1 r2 h fun a b x y v u c g1 g2 g3 g4 g5 => (ih A.in1 hu1 a b x y v u c g5 (.inl g1) (.inl g2) g3 g4).2.2
        have hsz : us.toArray.size = zs.toArray.size := by rw [q1, q2, hl]
        have c1 := rcP_lists p1.isList p2.isList hsz hu0 k
        have c2 := rcNeP_lists p1.isList p2.isList hsz hu0 k
        have z := (allO_zip h).2
        rw [← hl, Nat.min_self] at z
        rw [q1, z] at c1 c2
        exact ⟨c1, c2, eqP_refs' c1 same⟩
      · rename_i hl
        cases h
        have hsz : (us.toArray.size != zs.toArray.size) = true := by rw [q1, q2]; simpa using hl
        have c1 := RcAt.lists_lengths (A := A) p1.isList p2.isList hsz hu0
        have c2 := RcNeAt.lists_lengths (A := A) p1.isList p2.isList hsz hu0
        exact ⟨fun E Q q => c1 _ _ E Q q, fun E Q q => c2 _ _ E Q q, (eqAt_refs c1 same).eqP⟩
    · obtain ⟨l, vs, rfl, h1, h2⟩ := ra.dct le
      obtain ⟨l', ws, rfl, h3, h4⟩ := rb.dct le
      cases rx; cases ry
      obtain ⟨_, ya, us, r1, da⟩ := h1.ok I.hok
      obtain ⟨_, yb, zs, r2, db⟩ := h3.ok I.hok
      have same : l = l' → e = true := fun z => eq3_same I le (n + 1) _ _ _ e ra (z ▸ rb) h0
      have q1 : us.length = _ := r1.length.symm.trans h2.length.symm
      have q2 : zs.length = _ := r2.length.symm.trans h4.length.symm
      split at h
      · rename_i hl
        have hits := hits_at (X := X) (s := s) (A := A.in1) h4 r2 (fun a b x y v u c g1 g2 g3 g4 g5 => (ih A.in1 hu1 a b x y v u c g5 (.inl g1) (.inl g2) g3 g4).2.2) h2 r1 h
        have c1 := PySem.W.rcP_dicts (knd := mixKind X.prog X.w) ya yb da db hu0 (fun _ => hits)
        have c2 := rcNeP_dicts (knd := mixKind X.prog X.w) ya yb da db hu0 (fun _ => hits)
        have z : (us.length == zs.length && e) = e := by rw [q1, q2, hl]; simp
        rw [z] at c1 c2
        exact ⟨c1, c2, eqP_refs' c1 same⟩
      · rename_i hl
        cases h
        have ne : ¬ us.length = zs.length := by rw [q1, q2]; exact hl
        have c1 := PySem.W.rcP_dicts (knd := mixKind X.prog X.w) (r := false) ya yb da db hu0 (fun z => absurd z ne)
        have c2 := rcNeP_dicts (knd := mixKind X.prog X.w) (r := false) ya yb da db hu0 (fun z => absurd z ne)
        rw [Bool.and_false] at c1 c2
        exact ⟨c1, c2, eqP_refs' c1 same⟩
    · exact two n A (by omega) a b x y v u e h ra rb rx ry
/-- a == b, a != b -/
theorem r_eq (hk : X.K = M.K) (hu : X.A.units + 64 < cLine) : OpR X (compareOp .Eq) (rO2 M (oEq false)) := by
  rintro pins s σ H x y v u Q I rx ry ⟨F, d, e, r, le, h1, h2, h3, h4⟩
  unfold oEq at h3
  cases q : D.eq3 40 d e with
  | none => rw [q] at h3; cases h3
  | some b =>
    rw [q] at h3
    cases h3
    exact (eq3_rc I hk le 40 X.A (by omega) d e x y v u b q h1 h2 rx ry).1 _ _ ⟨.bl b, H, I, rfl, h4 _ F H ⟨by simp [Rep], .inl ⟨rfl, rfl⟩⟩⟩
theorem r_ne (hk : X.K = M.K) (hu : X.A.units + 64 < cLine) : OpR X (compareOp .NotEq) (rO2 M (oEq true)) := by
  rintro pins s σ H x y v u Q I rx ry ⟨F, d, e, r, le, h1, h2, h3, h4⟩
  unfold oEq at h3
  cases q : D.eq3 40 d e with
  | none => rw [q] at h3; cases h3
  | some b =>
    rw [q] at h3
    cases h3
    exact (eq3_rc I hk le 40 X.A (by omega) d e x y v u b q h1 h2 rx ry).2.1 _ _ ⟨.bl (!b), H, I, rfl, h4 _ F H ⟨by simp [Rep], .inl ⟨rfl, rfl⟩⟩⟩
end
end PV

set_option Elab.async false
set_option linter.all false
set_option maxRecDepth 100000
set_option maxHeartbeats 1000000
/-! PvL: the operations on data over the hand layer's operators and built-ins. -/
namespace PV
open PySem L2
theorem lim_ok {n : Nat} (h : n ≤ LIM) : n ≤ sizeLine := Nat.le_trans h (by decide)
theorem lim_lt {n : Nat} (h : n < LIM) : n < sizeLine := Nat.lt_of_lt_of_le h (by decide)
section
variable {X : Cx} {pins : List (Addr × Obj)} {σ : L2.St} {F H : Hp} {s : Shared} {M : Nm} {Q : VK}
theorem q_f {d : D} {v : V} (q : ∀ v F' H', OpPost M F H (.f d) v F' H' → Q v H') (r : Rep M F d v) : Q v H := q v F H ⟨r, .inl ⟨rfl, rfl⟩⟩
theorem q_n {d : D} {p : Addr} {o : HO} (q : ∀ v F' H', OpPost M F H (.n d) v F' H' → Q v H') (hp : H p = none) (r : RepTop M F d o) : Q (.ref p) (upd H p o) := q _ F _ ⟨p, o, rfl, hp, rfl, rfl, r⟩
theorem q_t {ds : List D} {vs : List V} {p : Addr} (le : Le F H) (q : ∀ v F' H', OpPost M F H (.f (.tup ds)) v F' H' → Q v H') (hp : H p = none) (r : Reps M F ds vs) : Q (.ref p) (upd H p (.tup vs)) :=
  q _ (upd F p (.tup vs)) _ ⟨⟨p, vs, rfl, upd_same, Reps.mono (Le.new (le.d p hp)) _ _ r⟩, .inr ⟨p, _, hp, rfl, rfl⟩⟩
/-- a list is read -/
theorem lst_get (I : Inv X pins σ H s) {l : Addr} {xs : List V} (h : Rd H l (.lst xs)) : xs.length ≤ sizeLine ∧ ∃ (its : List Value) (n : Nat), Vals xs its ∧ xs.length = its.length ∧ s.heap.get? l = some { cls := .type "list", data := .seq its.toArray n } := by
  obtain ⟨z, its, n, r, e⟩ := h.ok I.hok
  exact ⟨z, its, n, r, r.length, e⟩
theorem r_add (hk : X.K = M.K) : OpR X (binaryOp .Add) (rO2 M oAdd) := by
  rintro pins s σ H x y v u Q I rx ry ⟨F, d, e, r, le, h1, h2, h3, h4⟩
  unfold oAdd fD nD at h3
  split at h3
  · cases h3
    cases h1.int; cases h2.int
    exact op_add pins s σ H _ _ v u Q I rx ry ⟨_, _, rfl, rfl, q_f h4 rfl⟩
  · split at h3
    · rename_i z
      cases h3
      cases h1.str; cases h2.str
      exact op_add_str pins s σ H _ _ v u Q I rx ry ⟨_, _, rfl, rfl, lim_ok z, q_f h4 rfl⟩
    · cases h3
  · split at h3
    · rename_i z
      cases h3
      obtain ⟨l, xs, rfl, g1, g2⟩ := h1.lstR le
      obtain ⟨b, zs, rfl, g3, g4⟩ := h2.lstR le
      cases rx; cases ry
      obtain ⟨_, its, n, r1, l1, e1⟩ := lst_get I g1
      obtain ⟨_, its2, n2, r2, l2, e2⟩ := lst_get I g3
      have hz : its.length + its2.length ≤ sizeLine := by rw [← l1, ← l2, ← g2.length, ← g4.length]; exact lim_ok z
      refine PySem.P.add_list e1 e2 ?_ (by rw [List.size_toArray, List.size_toArray]; omega)
      rw [show its.toArray ++ its2.toArray = (its ++ its2).toArray by simp]
      exact ⟨.ref _, _, I.lnew (t' := s.toks) (r1.append r2) (by rw [List.length_append]; omega), rfl, q_n h4 I.fresh (g2.append g4)⟩
    · cases h3
  · split at h3
    · rename_i z
      cases h3
      obtain ⟨l, xs, rfl, g1, g2⟩ := h1.tup le
      obtain ⟨b, zs, rfl, g3, g4⟩ := h2.tup le
      refine op_catA pins s σ H _ _ v u Q I rx ry ⟨l, b, xs, zs, rfl, rfl, .inl (.inl g1), .inl (.inl g3), by rw [← g2.length, ← g4.length]; exact lim_ok z, fun w => ?_, fun _ w => ?_, fun _ _ p hp => q_t le h4 hp (g2.append g4)⟩
      · subst w
        have w : _ = [] := List.length_eq_zero_iff.1 g2.length
        rw [w, List.nil_append] at h4
        rcases h2 with h2 | ⟨b2, o2, e2, e3, e4⟩
        · exact q_f h4 h2
        · cases o2 <;> first | exact e4.elim | skip
      · subst w
        have w : _ = [] := List.length_eq_zero_iff.1 g4.length
        rw [w, List.append_nil] at h4
        rcases h1 with h1 | ⟨b2, o2, e2, e3, e4⟩
        · exact q_f h4 h1
        · cases o2 <;> first | exact e4.elim | skip
    · cases h3
  · cases h3
theorem r_sub : OpR X (binaryOp .Sub) (rO2 M oSub) := by
  rintro pins s σ H x y v u Q I rx ry ⟨F, d, e, r, le, h1, h2, h3, h4⟩
  unfold oSub fD at h3
  split at h3
  · cases h3
    cases h1.int; cases h2.int
    exact op_sub pins s σ H _ _ v u Q I rx ry ⟨_, _, rfl, rfl, q_f h4 rfl⟩
  · cases h3
theorem mul_w {i j : Int} (z : mulOk i j = true) : CMulW i j := by
  unfold mulOk at z
  exact (of_decide_eq_true z : i.natAbs.log2 + j.natAbs.log2 < 1000000)
theorem rep_list (I : Inv X pins σ H s) {l : Addr} {k : Int} {t : Tok} {xs : List V} (g : Rd H l (.lst xs)) (h1 : -(2 ^ 63) ≤ k) (h2 : k < 2 ^ 63) (hz : xs.length * k.toNat ≤ sizeLine)
    (q : ∀ p, H p = none → Q (.ref p) (upd H p (.lst (List.replicate k.toNat xs).flatten))) : wpAny (model X.prog X.w) X.A (binaryOp .Mult (.ref l) (.int k t)) (EP X pins σ Q) X.xe s := by
  obtain ⟨z, its, n, r, hl, e⟩ := lst_get I g
  have hlen : its.toArray.size * k.toNat ≤ sizeLine := by rw [List.size_toArray, ← hl]; exact hz
  have hcap : ¬ its.toArray.size * k.toNat > (2 ^ 63 - 1) / 8 := by
    have : (sizeLine : Nat) ≤ (2 ^ 63 - 1) / 8 := by decide
    omega
  have hfit : ¬ (!PySem.Builtin.List.listFitsIndex k) = true := by
    rw [fitsIndex_both h1 h2]
    exact Bool.false_ne_true
  have hlong : ¬ PySem.Builtin.List.listTooLong (its.toArray.size * k.toNat) = true := by
    rw [notLongL hlen]
    exact Bool.false_ne_true
  have hnew : List.foldl (fun x1 x2 => x1 ++ x2) #[] (List.replicate (if its.toArray.isEmpty = true then 0 else k.toNat) its.toArray) = (List.replicate k.toNat its).flatten.toArray := by
    have f0 : ∀ m : Nat, List.foldl (fun x1 x2 => x1 ++ x2) #[] (List.replicate m its.toArray) = (List.replicate m its).flatten.toArray := fun m => by
      have := foldl_rep its m []
      rw [List.nil_append] at this
      exact this
    rw [f0]
    cases its with
    | nil => simp
    | cons a r' => rw [if_neg (by simp)]
  refine wpAny_binaryOp_repeat_ref (T := "list") (U := "int") (by decide) ⟨_, e, rfl⟩ (fun s' => typeIs_int s' k t) noFill_list_mul F.fills_int_mul F.slot_int_rmul repeat_list F.slot_int_index.lookup
    (call_meets F.slot_int_rmul (typeIs_int s k t) F.entry_int_rmul (F.args_int_rmul_2 _ _) (int___rmul___int_list k t l its.toArray n)
      ⟨e, rfl, ⟨_, e, rfl⟩, call_meets F.slot_list_mul ⟨_, e, rfl⟩ F.entry_list_mul (F.args_list_mul_2 _ _) (AutoListH.list___mul___list_int_3 l its.toArray n k t hfit hcap hlong) ⟨e, ?_⟩⟩)
  rw [hnew]
  exact ⟨.ref _, _, I.lnew (t' := s.toks) (r.rep k.toNat) (by rw [PyProof.Rows.lm_len_rep_flat, Nat.mul_comm]; exact hz), rfl, q _ I.fresh⟩
theorem r_mul : OpR X (binaryOp .Mult) (rO2 M oMul) := by
  rintro pins s σ H x y v u Q I rx ry ⟨F, d, e, r, le, h1, h2, h3, h4⟩
  unfold oMul fD nD at h3
  split at h3
  · split at h3
    · rename_i z
      cases h3
      cases h1.int; cases h2.int
      exact op_mulW pins s σ H _ _ v u Q I rx ry ⟨_, _, rfl, rfl, mul_w z, q_f h4 rfl⟩
    · cases h3
  · split at h3
    · rename_i z
      cases h3
      obtain ⟨l, xs, rfl, g1, g2⟩ := h1.lstR le
      cases h2.int
      obtain ⟨z1, z2⟩ := z
      unfold small at z2
      have z2 := of_decide_eq_true z2
      cases rx
      obtain ⟨t, rfl⟩ := ry
      exact rep_list I g1 (by omega) (by omega) (by rw [← g2.length]; exact lim_ok z1) fun p hp => q_n h4 hp (g2.rep _)
    · cases h3
  · cases h3
theorem r_fdv : OpR X (binaryOp .FloorDiv) (rO2 M oFdv) := by
  rintro pins s σ H x y v u Q I rx ry ⟨F, d, e, r, le, h1, h2, h3, h4⟩
  unfold oFdv fD at h3
  split at h3
  · split at h3
    · rename_i z
      cases h3
      cases h1.int; cases h2.int
      exact op_fdivW pins s σ H _ _ v u Q I rx ry ⟨_, _, rfl, rfl, z, q_f h4 rfl⟩
    · cases h3
  · cases h3
theorem r_mod : OpR X (binaryOp .Mod) (rO2 M oMod) := by
  rintro pins s σ H x y v u Q I rx ry ⟨F, d, e, r, le, h1, h2, h3, h4⟩
  unfold oMod fD at h3
  split at h3
  · split at h3
    · rename_i z
      cases h3
      cases h1.int; cases h2.int
      exact op_mod pins s σ H _ _ v u Q I rx ry ⟨_, _, rfl, rfl, z, q_f h4 rfl⟩
    · cases h3
  · cases h3
theorem bits_le (x : Int) : PySem.Builtin.Int.intBits x ≤ x.natAbs.log2 + 1 := by
  unfold PySem.Builtin.Int.intBits
  split <;> omega
theorem r_pow : OpR X (binaryOp .Pow) (rO2 M oPow) := by
  rintro pins s σ H x y v u Q I rx ry ⟨F, d, e, r, le, h1, h2, h3, h4⟩
  unfold oPow fD at h3
  split at h3
  · split at h3
    · rename_i a b z
      cases h3
      cases h1.int; cases h2.int
      obtain ⟨t, rfl⟩ := rx
      obtain ⟨t', rfl⟩ := ry
      refine PyProof.Rows.pow_int z.1 ?_ ⟨.int _, H, I.tok _, ⟨_, rfl⟩, q_f h4 rfl⟩
      have h5 : ((PySem.Builtin.Int.intBits a : Nat) : Int) ≤ ((a.natAbs.log2 + 1 : Nat) : Int) := Int.ofNat_le.2 (bits_le a)
      have h6 := Int.mul_le_mul_of_nonneg_right h5 z.1
      have h7 := z.2
      omega
    · cases h3
  · cases h3
theorem r_shl : OpR X (binaryOp .LShift) (rO2 M oShl) := by
  rintro pins s σ H x y v u Q I rx ry ⟨F, d, e, r, le, h1, h2, h3, h4⟩
  unfold oShl fD at h3
  split at h3
  · split at h3
    · rename_i z
      cases h3
      cases h1.int; cases h2.int
      exact op_shl pins s σ H _ _ v u Q I rx ry ⟨_, _, rfl, rfl, z, q_f h4 rfl⟩
    · cases h3
  · cases h3
theorem r_cmp {f : Value → Value → Sem Value} {p : Int → Int → Bool} (k : OpR X f (rI0 fun i j => .bl (p i j))) : OpR X f (rO2 M (oCmp p)) := by
  rintro pins s σ H x y v u Q I rx ry ⟨F, d, e, r, le, h1, h2, h3, h4⟩
  unfold oCmp fD at h3
  split at h3
  · cases h3
    cases h1.int; cases h2.int
    exact k pins s σ H _ _ v u Q I rx ry ⟨_, _, rfl, rfl, q_f h4 rfl⟩
  · cases h3
theorem r_lt : OpR X (compareOp .Lt) (rO2 M (oCmp fun i j => decide (i < j))) := r_cmp op_lt
theorem r_le : OpR X (compareOp .LtE) (rO2 M (oCmp fun i j => decide (i ≤ j))) := r_cmp op_le
theorem r_gt : OpR X (compareOp .Gt) (rO2 M (oCmp fun i j => decide (j < i))) := r_cmp op_gt
theorem r_ge : OpR X (compareOp .GtE) (rO2 M (oCmp fun i j => decide (j ≤ i))) := r_cmp op_ge

theorem RT.nonIff {d : D} {x : V} (le : Le F H) (h : RT M F H d x) : decide (x = .non) = isNone d := by
  cases d with
  | non => rw [h.non]; rfl
  | bl b => rw [h.bl]; rfl
  | int b => rw [h.int]; rfl
  | str b => rw [h.str]; rfl
  | lst ds => obtain ⟨a, vs, rfl, _⟩ := h.lstR le; rfl
  | tup ds => obtain ⟨a, vs, rfl, _⟩ := h.tup le; rfl
  | dct ds => obtain ⟨a, vs, rfl, _⟩ := h.dct le; rfl
  | dcT ds => obtain ⟨a, vs, rfl, _⟩ := h.dcT le; rfl
  | obj C fs => obtain ⟨a, dx, vs, rfl, _⟩ := h.obj le; rfl
theorem r_is : OpR X (compareOp .Is) fun x y H Q => y = .non ∧ rO1 M (oIs isNone) x H Q := by
  rintro pins s σ H x y v u Q I rx ry ⟨rfl, F, d, r, le, h1, h3, h4⟩
  unfold oIs fD at h3
  cases h3
  refine op_isN pins s σ H x _ v u Q I rx ry ⟨rfl, ?_⟩
  rw [h1.nonIff le]
  exact q_f h4 rfl
theorem r_isn : OpR X (compareOp .IsNot) fun x y H Q => y = .non ∧ rO1 M (oIs fun d => !isNone d) x H Q := by
  rintro pins s σ H x y v u Q I rx ry ⟨rfl, F, d, r, le, h1, h3, h4⟩
  unfold oIs fD at h3
  cases h3
  refine op_notN pins s σ H x _ v u Q I rx ry ⟨rfl, ?_⟩
  rw [h1.nonIff le]
  exact q_f h4 rfl
theorem rep_flat {d : D} {v : V} (f : d.flat = true) (h : RT M F H d v) : flatV v = true := by
  rcases h.flat f with ⟨_, rfl⟩ | ⟨_, _, rfl⟩ | ⟨_, _, rfl⟩ | ⟨_, _, rfl⟩ <;> rfl
theorem eqf_eqV {a b : D} {x y : V} (fa : a.flat = true) (fb : b.flat = true) (ra : RT M F H a x) (rb : RT M F H b y) : eqV x y = D.eqf a b := by
  rcases ra.flat fa with ⟨rfl, rfl⟩ | ⟨i, rfl, rfl⟩ | ⟨i, rfl, rfl⟩ | ⟨i, rfl, rfl⟩ <;> rcases rb.flat fb with ⟨rfl, rfl⟩ | ⟨j, rfl, rfl⟩ | ⟨j, rfl, rfl⟩ | ⟨j, rfl, rfl⟩ <;> rfl
theorem reps_flat : ∀ {ds : List D} {vs : List V}, Reps M F ds vs → ds.all D.flat = true → vs.all flatV = true
  | [], _, h, _ => by cases h; rfl
  | d :: ds, _, ⟨v, ws, e, r, t⟩, f => by
    subst e
    rw [List.all_cons, Bool.and_eq_true] at f ⊢
    exact ⟨rep_flat (H := F) f.1 (.inl r), reps_flat t f.2⟩
theorem reps_any {a : D} {x : V} (fa : a.flat = true) (ra : RT M F H a x) : ∀ {ds : List D} {vs : List V}, Reps M F ds vs → ds.all D.flat = true → inV x vs = ds.any fun d => D.eqf d a
  | [], _, h, _ => by cases h; rfl
  | d :: ds, _, ⟨v, ws, e, r, t⟩, f => by
    subst e
    rw [List.all_cons, Bool.and_eq_true] at f
    unfold inV
    rw [List.any_cons, List.any_cons, eqf_eqV f.1 fa (.inl r) ra]
    have := reps_any fa ra t f.2
    unfold inV at this
    rw [this]
theorem RT.key {d : D} {k : Key} {x : V} (h : RT M F H d x) (e : keyOf d = some k) : x = kV k := by
  cases d with
  | int i => rw [h.int]; cases e; rfl
  | str i => rw [h.str]; cases e; rfl
  | _ => cases e
theorem dct_get (le : Le F H) {kvs : List (Key × D)} {k : Key} {x : V} (h : RT M F H (.dct kvs) x) : ∃ a o, x = .ref a ∧ DGet H a (kV k) o ∧ ((look kvs k = none ∧ o = none) ∨ ∃ d v, look kvs k = some d ∧ o = some v ∧ Rep M F d v) := by
  obtain ⟨a, ws, rfl, g1, g2⟩ := h.dct le
  exact ⟨a, _, rfl, .inl ⟨ws, k, g1, rfl, rfl⟩, g2.look k⟩
theorem sign_of {y : Str} (z : isSign y = true) : ∃ c, y = ⟨#[c]⟩ := by
  obtain ⟨⟨l⟩⟩ := y
  unfold isSign at z
  have z : l.length = 1 := by simpa [Str.length] using z
  obtain ⟨c, rfl⟩ := List.length_eq_one_iff.1 z
  exact ⟨c, rfl⟩
theorem r_inn (neg : Bool) (hk : X.K = M.K) (hu : X.A.units + 1 < cLine) : OpR X (compareOp (if neg then .NotIn else .In)) (rO2 M (oIn neg)) := by
  rintro pins s σ H x y v u Q I rx ry ⟨F, d, e, r, le, h1, h2, h3, h4⟩
  have seq : ∀ {a : D} {ds : List D} {x : V} {l : Addr} {vs : List V}, a.flat = true → ds.all D.flat = true → RT M F H a x → Reps M F ds vs → RelV x v → RelV (.ref l) u → (SqL X.K H l vs ∨ SqT X.K H l vs) → (∀ v F' H', OpPost M F H (.f (.bl (neg ^^ ds.any fun d => D.eqf d a))) v F' H' → Q v H') →
      wpAny (model X.prog X.w) X.A (compareOp (if neg then .NotIn else .In) v u) (EP X pins σ Q) X.xe s := fun fa fs ra rs rx ry hq h4 => by
    have := reps_any fa ra rs fs
    cases neg with
    | false => exact op_in_seq pins s σ H _ _ v u Q I rx ry ⟨_, _, rfl, hq, rep_flat fa ra, reps_flat rs fs, by rw [this]; exact q_f h4 (by simp [Rep])⟩
    | true => exact op_notIn_seq pins s σ H _ _ v u Q I rx ry ⟨_, _, rfl, hq, rep_flat fa ra, reps_flat rs fs, by rw [this]; exact q_f h4 (by simp [Rep])⟩
  unfold oIn fD at h3
  split at h3
  · split at h3
    · rename_i z
      cases h3
      rw [Bool.and_eq_true] at z
      obtain ⟨l, vs, rfl, g1, g2⟩ := h2.lst le
      exact seq z.1 z.2 h1 g2 rx ry (.inl (hk ▸ g1)) h4
    · cases h3
  · split at h3
    · rename_i z
      cases h3
      rw [Bool.and_eq_true] at z
      obtain ⟨l, vs, rfl, g1, g2⟩ := h2.tup le
      exact seq z.1 z.2 h1 g2 rx ry (.inr (.inl (.inl g1))) h4
    · cases h3
  · rename_i kvs
    cases hk' : keyOf d with
    | none => rw [hk'] at h3; cases h3
    | some k =>
      rw [hk'] at h3
      cases h3
      cases h1.key hk'
      obtain ⟨a, o, rfl, g, hl⟩ := dct_get (k := k) le h2
      cases ry
      have : o.isSome = (look kvs k).isSome := by rcases hl with ⟨e1, e2⟩ | ⟨d, v, e1, e2, _⟩ <;> simp [e1, e2]
      cases neg with
      | false => exact d_in hu I g rx fun s' I' => ⟨.bl _, H, I', rfl, by rw [this]; exact q_f h4 (by simp [Rep])⟩
      | true => exact d_notIn hu I g rx fun s' I' => ⟨.bl _, H, I', rfl, by rw [this]; exact q_f h4 (by simp [Rep])⟩
  · split at h3
    · rename_i z
      cases h3
      cases h1.str; cases h2.str
      obtain ⟨c, rfl⟩ := sign_of z
      cases neg with
      | false => exact op_in_sign pins s σ H _ _ v u Q I rx ry ⟨c, _, rfl, rfl, q_f h4 (by simp [Rep])⟩
      | true => exact op_notIn_sign pins s σ H _ _ v u Q I rx ry ⟨c, _, rfl, rfl, q_f h4 (by simp [Rep])⟩
    · cases h3
  · cases h3

/-! ### places -/
theorem ixOf_ixN {n : Nat} {i : Int} : ixOf n i = ixN n i := rfl
theorem at_get {ds : List D} {vs : List V} {i : Int} {d : D} (h : Reps M F ds vs) (e : at? ds i = some d) : ∃ v, atI vs i = some v ∧ Rep M F d v := by
  unfold at? at e
  unfold atI
  rw [← h.length]
  cases g : ixOf ds.length i with
  | none => rw [g] at e; cases e
  | some j =>
    rw [g] at e
    rw [show ixN ds.length i = some j from g]
    exact h.at e
theorem reps_keys : ∀ {ds : List D} {vs : List V} {ks : List Key}, Reps M F ds vs → keysOf ds = some ks → vs = ks.map kV
  | [], _, ks, h, e => by cases h; cases e; rfl
  | d :: ds, _, ks, ⟨v, ws, e', r, t⟩, e => by
    subst e'
    unfold keysOf at e
    cases g : keyOf d with
    | none => rw [g] at e; cases e
    | some k =>
      cases g2 : keysOf ds with
      | none => rw [g, g2] at e; cases e
      | some r' =>
        rw [g, g2] at e
        cases e
        rw [RT.key (H := F) (.inl r) g, reps_keys t g2]; rfl
theorem RepKT.look (j : List Key) : ∀ {ks : List (List Key × D)} {ws : List (List Key × V)}, RepKT M F ks ws → (PV.look ks j = none ∧ valV ws j = none) ∨ ∃ d v, PV.look ks j = some d ∧ valV ws j = some v ∧ Rep M F d v
  | [], ws, h => by cases h; exact .inl ⟨rfl, rfl⟩
  | (k, d) :: ks, ws, h => by
    obtain ⟨v, ws', rfl, r, t⟩ := h
    rw [look_cons, valV_cons]
    by_cases q : k = j
    · rw [if_pos q, if_pos q]; exact .inr ⟨d, v, rfl, rfl, r⟩
    · rw [if_neg q, if_neg q]; exact RepKT.look j t
theorem r_idx (hk : X.K = M.K) (hu : X.A.units + 1 < cLine) : IxR X (rO2 M oIdx) := by
  rintro value slice pins s σ H x y v u Q I rx ry ⟨F, d, e, r, le, h1, h2, h3, h4⟩ hs
  unfold oIdx at h3
  split at h3
  · cases g : at? ‹List D› ‹Int› with
    | none => rw [g] at h3; cases h3
    | some d =>
      rw [g] at h3; cases h3
      cases h2.int
      obtain ⟨l, vs, rfl, g1, g2⟩ := h1.lst le
      obtain ⟨w, a1, a2⟩ := at_get g2 g
      exact ix_list value slice pins s σ H _ _ v u Q I rx ry ⟨l, vs, _, w, rfl, rfl, hk ▸ g1, a1, q_f h4 a2⟩ hs
  · cases g : at? ‹List D› ‹Int› with
    | none => rw [g] at h3; cases h3
    | some d =>
      rw [g] at h3; cases h3
      cases h2.int
      obtain ⟨l, vs, rfl, g1, g2⟩ := h1.tup le
      obtain ⟨w, a1, a2⟩ := at_get g2 g
      exact ix_tup value slice pins s σ H _ _ v u Q I rx ry ⟨l, vs, _, w, rfl, rfl, .inl (.inl g1), a1, q_f h4 a2⟩ hs
  · split at h3
    · rename_i z i hz
      cases g : at? z.cps.toList i with
      | none => rw [g] at h3; cases h3
      | some c =>
        rw [g] at h3; cases h3
        cases h1.str; cases h2.int
        exact ix_str value slice pins s σ H _ _ v u Q I rx ry ⟨z, i, c, rfl, rfl, lim_ok hz, g, q_f h4 rfl⟩ hs
    · cases h3
  · rename_i kvs
    cases g : keyOf e with
    | none => rw [g] at h3; cases h3
    | some k =>
      rw [g] at h3
      simp only [Option.bind] at h3
      cases g2 : look kvs k with
      | none => rw [g2] at h3; cases h3
      | some d =>
        rw [g2] at h3; cases h3
        cases h2.key g
        obtain ⟨a, o, rfl, gg, hl⟩ := dct_get (k := k) le h1
        rcases hl with ⟨e1, _⟩ | ⟨d', w, e1, rfl, rw'⟩
        · rw [g2] at e1; cases e1
        · rw [g2] at e1; cases e1
          cases rx
          refine PyProof.Rows.tail_any (dict_typeIs I gg) slot_dict_getitem.lookup ?_ hs
          exact d_getItem hu I gg ry fun w' s' I' r' => ⟨w, H, I', r', q_f h4 rw'⟩
  · rename_i kvs ks
    cases g : keysOf ks with
    | none => rw [g] at h3; cases h3
    | some k =>
      rw [g] at h3
      simp only [Option.bind] at h3
      cases g2 : look kvs k with
      | none => rw [g2] at h3; cases h3
      | some d =>
        rw [g2] at h3; cases h3
        obtain ⟨b, vs, rfl, t1, t2⟩ := h2.tup le
        obtain ⟨a, ws, rfl, g3, g4⟩ := h1.dcT le
        have ev := reps_keys t2 g
        subst ev
        have gg : DGet H a (.ref b) (valV ws k) := .inr ⟨ws, k, b, g3, rfl, t1, rfl⟩
        rcases g4.look k with ⟨e1, _⟩ | ⟨d', w, e1, e2, rw'⟩
        · rw [g2] at e1; cases e1
        · rw [g2] at e1; cases e1
          rw [e2] at gg
          cases rx
          refine PyProof.Rows.tail_any (dict_typeIs I gg) slot_dict_getitem.lookup ?_ hs
          exact d_getItem hu I gg ry fun w' s' I' r' => ⟨w, H, I', r', q_f h4 rw'⟩
  · cases h3

/-! ### calls of built-ins -/
theorem u_neg : UnR X (unaryOp .USub) (rO1 M (oOne fun i => -i)) := by
  rintro pins s σ H x v Q I rx ⟨F, d, r, le, h1, h3, h4⟩
  unfold oOne fD at h3
  split at h3
  · cases h3
    cases h1.int
    exact un_neg pins s σ H _ v Q I rx ⟨_, rfl, q_f h4 rfl⟩
  · cases h3
/-- one argument, two arguments -/
theorem c_1 {f : Value} {o : Op} {g : D → R1} (e : ∀ ds r, opD o ds = some r → ∃ d, ds = [d] ∧ g d = some r)
    (k : ∀ pins s σ H x u Q F d r, Inv X pins σ H s → RelV x u → Le F H → RT M F H d x → g d = some r → (∀ v F' H', OpPost M F H r v F' H' → Q v H') → wpAny (model X.prog X.w) X.A (call f [u]) (EP X pins σ Q) X.xe s) : CallR X f (rON M (opD o)) := by
  rintro pins s σ H xs us Q I rx ⟨F, ds, r, le, h2, h3, h4⟩
  obtain ⟨d, rfl, h5⟩ := e ds r h3
  cases h2 with
  | cons r1 t =>
    cases t
    cases rx with
    | cons r2 t =>
      cases t
      exact k pins s σ H _ _ Q F d r I r2 le r1 h5 h4
theorem c_2 {f : Value} {o : Op} {g : D → D → R1} (e : ∀ ds r, opD o ds = some r → ∃ d d', ds = [d, d'] ∧ g d d' = some r)
    (k : ∀ pins s σ H x y u w Q F d d' r, Inv X pins σ H s → RelV x u → RelV y w → Le F H → RT M F H d x → RT M F H d' y → g d d' = some r → (∀ v F' H', OpPost M F H r v F' H' → Q v H') → wpAny (model X.prog X.w) X.A (call f [u, w]) (EP X pins σ Q) X.xe s) :
    CallR X f (rON M (opD o)) := by
  rintro pins s σ H xs us Q I rx ⟨F, ds, r, le, h2, h3, h4⟩
  obtain ⟨d, d', rfl, h5⟩ := e ds r h3
  cases h2 with
  | cons r1 t =>
    cases t with
    | cons r1' t =>
      cases t
      cases rx with
      | cons r2 t =>
        cases t with
        | cons r2' t =>
          cases t
          exact k pins s σ H _ _ _ _ Q F d d' r I r2 r2' le r1 r1' h5 h4
theorem o1 {o : Op} {g : D → R1} (h : ∀ d, opD o [d] = g d) (z : opD o [] = none) (z2 : ∀ a b r, opD o (a :: b :: r) = none) : ∀ ds r, opD o ds = some r → ∃ d, ds = [d] ∧ g d = some r := fun ds r e => by
  rcases ds with _ | ⟨d, _ | ⟨e', r'⟩⟩
  · rw [z] at e; cases e
  · exact ⟨d, rfl, (h d).symm.trans e⟩
  · rw [z2] at e; cases e
theorem o2 {o : Op} {g : D → D → R1} (h : ∀ a b, opD o [a, b] = g a b) (z : opD o [] = none) (z1 : ∀ a, opD o [a] = none) (z2 : ∀ a b c r, opD o (a :: b :: c :: r) = none) : ∀ ds r, opD o ds = some r → ∃ d d', ds = [d, d'] ∧ g d d' = some r := fun ds r e => by
  rcases ds with _ | ⟨d, _ | ⟨e', _ | ⟨f, r'⟩⟩⟩
  · rw [z] at e; cases e
  · rw [z1] at e; cases e
  · exact ⟨d, e', rfl, (h d e').symm.trans e⟩
  · rw [z2] at e; cases e
theorem vals1' {x : V} {u : Value} (r : RelV x u) : Vals [x] [u] := .cons r .nil
theorem vals2' {x y : V} {u w : Value} (r : RelV x u) (r' : RelV y w) : Vals [x, y] [u, w] := .cons r (.cons r' .nil)
theorem c_len (hk : X.K = M.K) : CallR X (.builtin "len") (rON M (opD .len)) := c_1 (o1 (g := oLen) (fun _ => rfl) rfl fun _ _ _ => rfl) fun pins s σ H x u Q F d r I rx le h1 h3 h4 => by
  unfold oLen fD at h3
  split at h3
  · cases h3
    obtain ⟨l, vs, rfl, g1, g2⟩ := h1.lst le
    exact call_len_seq pins s σ H _ _ Q I (vals1' rx) ⟨l, vs, rfl, .inl (hk ▸ g1), by rw [← g2.length]; exact q_f h4 rfl⟩
  · cases h3
    obtain ⟨l, vs, rfl, g1, g2⟩ := h1.tup le
    exact call_len_seq pins s σ H _ _ Q I (vals1' rx) ⟨l, vs, rfl, .inr (.inl (.inl g1)), by rw [← g2.length]; exact q_f h4 rfl⟩
  · cases h3
    obtain ⟨l, vs, rfl, g1, g2⟩ := h1.dct le
    cases rx
    exact d_len I g1 fun t s' I' => ⟨.int _, H, I', ⟨t, rfl⟩, by rw [← g2.length]; exact q_f h4 rfl⟩
  · split at h3
    · rename_i z hz
      cases h3
      cases h1.str
      exact call_len_str pins s σ H _ _ Q I (vals1' rx) ⟨z, rfl, lim_ok hz, q_f h4 rfl⟩
    · cases h3
  · cases h3
theorem c_int : CallR X (.type "int") (rON M (opD .int_)) := c_1 (o1 (g := oInt) (fun _ => rfl) rfl fun _ _ _ => rfl) fun pins s σ H x u Q F d r I rx le h1 h3 h4 => by
  unfold oInt fD at h3
  split at h3
  · cases h3; cases h1.int
    exact call_int1 pins s σ H _ _ Q I (vals1' rx) (.inl ⟨_, rfl, q_f h4 rfl⟩)
  · cases h3; cases h1.bl
    exact call_int1 pins s σ H _ _ Q I (vals1' rx) (.inr ⟨_, rfl, q_f h4 rfl⟩)
  · cases h3
theorem c_abs : CallR X (.builtin "abs") (rON M (opD .abs_)) := c_1 (o1 (g := oOne fun i => if i < 0 then -i else i) (fun _ => rfl) rfl fun _ _ _ => rfl) fun pins s σ H x u Q F d r I rx le h1 h3 h4 => by
  unfold oOne fD at h3
  split at h3
  · cases h3; cases h1.int
    exact call_abs pins s σ H _ _ Q I (vals1' rx) ⟨_, rfl, q_f h4 rfl⟩
  · cases h3
theorem c_max2 (hc : X.calm = true) : CallR X (.builtin "max") (rON M (opD .max2)) := c_2 (o2 (g := oTwo fun i j => if j > i then j else i) (fun _ _ => rfl) rfl (fun _ => rfl) fun _ _ _ _ => rfl) fun pins s σ H x y u w Q F d d' r I rx ry le h1 h2 h3 h4 => by
  unfold oTwo fD at h3
  split at h3
  · cases h3; cases h1.int; cases h2.int
    exact call_max2 hc pins s σ H _ _ Q I (vals2' rx ry) ⟨_, _, rfl, q_f h4 rfl⟩
  · cases h3
theorem c_min2 (hc : X.calm = true) : CallR X (.builtin "min") (rON M (opD .min2)) := c_2 (o2 (g := oTwo fun i j => if j < i then j else i) (fun _ _ => rfl) rfl (fun _ => rfl) fun _ _ _ _ => rfl) fun pins s σ H x y u w Q F d d' r I rx ry le h1 h2 h3 h4 => by
  unfold oTwo fD at h3
  split at h3
  · cases h3; cases h1.int; cases h2.int
    exact call_min2 hc pins s σ H _ _ Q I (vals2' rx ry) ⟨_, _, rfl, q_f h4 rfl⟩
  · cases h3
theorem c_dvm : CallR X (.builtin "divmod") (rON M (opD .dvm)) := c_2 (o2 (g := oDvm) (fun _ _ => rfl) rfl (fun _ => rfl) fun _ _ _ _ => rfl) fun pins s σ H x y u w Q F d d' r I rx ry le h1 h2 h3 h4 => by
  unfold oDvm fD at h3
  split at h3
  · split at h3
    · rename_i z
      cases h3; cases h1.int; cases h2.int
      exact call_divmod pins s σ H _ _ Q I (vals2' rx ry) ⟨_, _, rfl, z, fun p hp => q_t le h4 hp ⟨_, _, rfl, rfl, _, _, rfl, rfl, rfl⟩⟩
    · cases h3
  · cases h3
theorem ints_get (le : Le F H) {g : List Int → Option Int} {d : D} {x : V} {r : Val} (h1 : RT M F H d x) (h3 : oInts g d = some r) : ∃ l is i, x = .ref l ∧ SqL M.K H l (is.map V.int) ∧ g is = some i ∧ r = .f (.int i) := by
  unfold oInts fD at h3
  split at h3
  · rename_i xs
    cases q : intsOf xs with
    | none => rw [q] at h3; cases h3
    | some is =>
      rw [q] at h3
      simp only [Option.bind] at h3
      cases q2 : g is with
      | none => rw [q2] at h3; cases h3
      | some i =>
        rw [q2] at h3
        cases h3
        obtain ⟨l, vs, rfl, g1, g2⟩ := h1.lst le
        have := g2.ints q
        subst this
        exact ⟨l, is, i, rfl, g1, q2, rfl⟩
  · cases h3
theorem c_sum (hc : X.calm = true) (hk : X.K = M.K) : CallR X (.builtin "sum") (rON M (opD .sum)) := c_1 (o1 (g := oInts fun is => some is.sum) (fun _ => rfl) rfl fun _ _ _ => rfl) fun pins s σ H x u Q F d r I rx le h1 h3 h4 => by
  obtain ⟨l, is, i, rfl, g1, g2, rfl⟩ := ints_get le h1 h3
  cases g2
  exact cr_sum hc pins s σ H _ _ Q I (vals1' rx) ⟨l, is, rfl, hk ▸ g1, q_f h4 rfl⟩
theorem maxL_spec : ∀ (is : List Int) (m : Int), (maxL m is = m ∨ maxL m is ∈ is) ∧ m ≤ maxL m is ∧ ∀ y ∈ is, y ≤ maxL m is
  | [], m => ⟨.inl rfl, Int.le_refl _, fun y h => by cases h⟩
  | x :: r, m => by
    unfold maxL
    obtain ⟨a, b, c⟩ := maxL_spec r (if x > m then x else m)
    by_cases q : x > m
    · rw [if_pos q] at a b c ⊢
      exact ⟨.inr (a.elim (fun e => by rw [e]; exact List.mem_cons_self) fun e => List.mem_cons_of_mem _ e), by omega, fun y hy => (List.mem_cons.1 hy).elim (fun e => e ▸ b) (c y)⟩
    · rw [if_neg q] at a b c ⊢
      exact ⟨a.elim .inl fun e => .inr (List.mem_cons_of_mem _ e), b, fun y hy => (List.mem_cons.1 hy).elim (fun e => by omega) (c y)⟩
theorem minL_spec : ∀ (is : List Int) (m : Int), (minL m is = m ∨ minL m is ∈ is) ∧ minL m is ≤ m ∧ ∀ y ∈ is, minL m is ≤ y
  | [], m => ⟨.inl rfl, Int.le_refl _, fun y h => by cases h⟩
  | x :: r, m => by
    unfold minL
    obtain ⟨a, b, c⟩ := minL_spec r (if x < m then x else m)
    by_cases q : x < m
    · rw [if_pos q] at a b c ⊢
      exact ⟨.inr (a.elim (fun e => by rw [e]; exact List.mem_cons_self) fun e => List.mem_cons_of_mem _ e), by omega, fun y hy => (List.mem_cons.1 hy).elim (fun e => e ▸ b) (c y)⟩
    · rw [if_neg q] at a b c ⊢
      exact ⟨a.elim .inl fun e => .inr (List.mem_cons_of_mem _ e), b, fun y hy => (List.mem_cons.1 hy).elim (fun e => by omega) (c y)⟩
def max0 : List Int → Option Int := fun is => match is with | [] => none | i :: r => some (maxL i r)
def min0 : List Int → Option Int := fun is => match is with | [] => none | i :: r => some (minL i r)
theorem c_max1 (hc : X.calm = true) (hk : X.K = M.K) : CallR X (.builtin "max") (rON M (opD .max1)) := c_1 (o1 (g := oInts max0) (fun _ => rfl) rfl fun _ _ _ => rfl) fun pins s σ H x u Q F d r I rx le h1 h3 h4 => by
  obtain ⟨l, is, i, rfl, g1, g2, rfl⟩ := ints_get le h1 h3
  cases is with
  | nil => cases g2
  | cons j is =>
    cases g2
    refine cr_max hc pins s σ H _ _ Q I (vals1' rx) ⟨l, j :: is, rfl, hk ▸ g1, Nat.succ_pos _, fun m hm hy => ?_⟩
    obtain ⟨a, b, c⟩ := maxL_spec is j
    have e : m = maxL j is := by
      have h1 : maxL j is ≤ m := hy _ (a.elim (fun e => by rw [e]; exact List.mem_cons_self) fun e => List.mem_cons_of_mem _ e)
      have h2 : m ≤ maxL j is := (List.mem_cons.1 hm).elim (fun e => by rw [e]; exact b) (c m)
      omega
    rw [e]; exact q_f h4 rfl
theorem c_min1 (hc : X.calm = true) (hk : X.K = M.K) : CallR X (.builtin "min") (rON M (opD .min1)) := c_1 (o1 (g := oInts min0) (fun _ => rfl) rfl fun _ _ _ => rfl) fun pins s σ H x u Q F d r I rx le h1 h3 h4 => by
  obtain ⟨l, is, i, rfl, g1, g2, rfl⟩ := ints_get le h1 h3
  cases is with
  | nil => cases g2
  | cons j is =>
    cases g2
    refine cr_min hc pins s σ H _ _ Q I (vals1' rx) ⟨l, j :: is, rfl, hk ▸ g1, Nat.succ_pos _, fun m hm hy => ?_⟩
    obtain ⟨a, b, c⟩ := minL_spec is j
    have e : m = minL j is := by
      have h1 : m ≤ minL j is := hy _ (a.elim (fun e => by rw [e]; exact List.mem_cons_self) fun e => List.mem_cons_of_mem _ e)
      have h2 : minL j is ≤ m := (List.mem_cons.1 hm).elim (fun e => by rw [e]; exact b) (c m)
      omega
    rw [e]; exact q_f h4 rfl
theorem bools_get (le : Le F H) {g : List Bool → Bool} {d : D} {x : V} {r : Val} (h1 : RT M F H d x) (h3 : oBools g d = some r) : ∃ l is, x = .ref l ∧ SqL M.K H l (is.map V.bl) ∧ r = .f (.bl (g is)) := by
  unfold oBools fD at h3
  split at h3
  · rename_i xs
    cases q : boolsOf xs with
    | none => rw [q] at h3; cases h3
    | some is =>
      rw [q] at h3
      cases h3
      obtain ⟨l, vs, rfl, g1, g2⟩ := h1.lst le
      have := g2.bools q
      subst this
      exact ⟨l, is, rfl, g1, rfl⟩
  · cases h3
theorem c_all (hc : X.calm = true) (hk : X.K = M.K) : CallR X (.builtin "all") (rON M (opD .all_)) := c_1 (o1 (g := oBools fun bs => bs.all id) (fun _ => rfl) rfl fun _ _ _ => rfl) fun pins s σ H x u Q F d r I rx le h1 h3 h4 => by
  obtain ⟨l, is, rfl, g1, rfl⟩ := bools_get le h1 h3
  exact cr_all hc pins s σ H _ _ Q I (vals1' rx) ⟨l, is, rfl, hk ▸ g1, q_f h4 rfl⟩
theorem c_any (hc : X.calm = true) (hk : X.K = M.K) : CallR X (.builtin "any") (rON M (opD .any_)) := c_1 (o1 (g := oBools fun bs => bs.any id) (fun _ => rfl) rfl fun _ _ _ => rfl) fun pins s σ H x u Q F d r I rx le h1 h3 h4 => by
  obtain ⟨l, is, rfl, g1, rfl⟩ := bools_get le h1 h3
  exact cr_any hc pins s σ H _ _ Q I (vals1' rx) ⟨l, is, rfl, hk ▸ g1, q_f h4 rfl⟩
end
end PV

set_option Elab.async false
set_option linter.all false
set_option maxRecDepth 100000
set_option maxHeartbeats 1000000
/-! PvM: list, tuple, sorted, dict, isinstance; slices; stores into dicts. -/
namespace PV
open PySem L2
section
variable {X : Cx} {pins : List (Addr × Obj)} {σ : L2.St} {F H : Hp} {s : Shared} {M : Nm} {Q : VK}
theorem repk_keys : ∀ {ds : List (Key × D)} {ws : List (Key × V)}, RepK M F ds ws → Reps M F (ds.map fun p => keyD p.1) (ws.map fun p => kV p.1)
  | [], _, h => by cases h; rfl
  | (k, d) :: ds, _, ⟨v, ws, e, r, t⟩ => by
    subst e
    refine ⟨_, _, rfl, ?_, repk_keys t⟩
    cases k <;> rfl
theorem repk_vals : ∀ {ds : List (Key × D)} {ws : List (Key × V)}, RepK M F ds ws → Reps M F (ds.map (·.2)) (ws.map (·.2))
  | [], _, h => by cases h; rfl
  | (k, d) :: ds, _, ⟨v, ws, e, r, t⟩ => by
    subst e
    exact ⟨_, _, rfl, r, repk_vals t⟩
theorem c_list (hc : X.calm = true) (hk : X.K = M.K) : CallR X (.type "list") (rON M (opD .list_)) := c_1 (o1 (g := oList) (fun _ => rfl) rfl fun _ _ _ => rfl) fun pins s σ H x u Q F d r I rx le h1 h3 h4 => by
  unfold oList nD at h3
  split at h3
  · cases h3
    obtain ⟨l, vs, rfl, g1, g2⟩ := h1.lst le
    exact call_list_of pins s σ H _ _ Q I (vals1' rx) ⟨l, vs, rfl, .inl (hk ▸ g1), fun p hp => q_n h4 hp g2⟩
  · cases h3
    obtain ⟨l, vs, rfl, g1, g2⟩ := h1.tup le
    exact call_list_of pins s σ H _ _ Q I (vals1' rx) ⟨l, vs, rfl, .inr (.inl (.inl g1)), fun p hp => q_n h4 hp g2⟩
  · cases h3
    obtain ⟨l, vs, rfl, g1, g2⟩ := h1.dct le
    exact call_listD hc pins s σ H _ _ Q I (vals1' rx) ⟨l, vs, rfl, g1, fun p hp => q_n h4 hp (repk_keys g2)⟩
  · cases h3
theorem rep_of_rt {d : D} {x : V} (h : RT M F H d x) (n : ∀ o : HO, RepTop M F d o → False) : Rep M F d x := h.elim id fun ⟨a, o, _, _, r⟩ => (n o r).elim
theorem c_tuple (hk : X.K = M.K) : CallR X (.type "tuple") (rON M (opD .tuple_)) := c_1 (o1 (g := oTuple) (fun _ => rfl) rfl fun _ _ _ => rfl) fun pins s σ H x u Q F d r I rx le h1 h3 h4 => by
  unfold oTuple fD at h3
  split at h3
  · cases h3
    obtain ⟨l, vs, rfl, g1, g2⟩ := h1.lst le
    exact call_tuple_of pins s σ H _ _ Q I (vals1' rx) ⟨l, vs, rfl, .inl ⟨hk ▸ g1, fun p hp => q_t le h4 hp g2⟩⟩
  · cases h3
    have h0 := rep_of_rt h1 fun o r => by cases o <;> exact r
    obtain ⟨l, vs, rfl, g1, g2⟩ := h1.tup le
    exact call_tuple_of pins s σ H _ _ Q I (vals1' rx) ⟨l, vs, rfl, .inr ⟨.inl (.inl g1), q_f h4 h0⟩⟩
  · cases h3

/-! ### sorted -/
theorem insStr_perm (x : Str) : ∀ l, (insStr x l).Perm (x :: l)
  | [] => .refl _
  | y :: r => by
    unfold insStr
    split
    · exact .refl _
    · exact ((insStr_perm x r).cons y).trans (.swap _ _ _)
theorem sortStr_perm : ∀ l, (sortStr l).Perm l
  | [] => .refl _
  | x :: r => (insStr_perm x _).trans ((sortStr_perm r).cons x)
theorem insInt_perm (x : Int) : ∀ l, (insInt x l).Perm (x :: l)
  | [] => .refl _
  | y :: r => by
    unfold insInt
    split
    · exact .refl _
    · exact ((insInt_perm x r).cons y).trans (.swap _ _ _)
theorem sortInt_perm : ∀ l, (sortInt l).Perm l
  | [] => .refl _
  | x :: r => (insInt_perm x _).trans ((sortInt_perm r).cons x)
abbrev SLe (a b : Str) : Prop := a.cps.toList ≤ b.cps.toList
theorem leStr_iff {a b : Str} : leStr a b = true ↔ SLe a b := by
  unfold leStr
  rw [Bool.not_eq_true', decide_eq_false_iff_not]
  exact Iff.rfl
theorem SLe.trans {a b c : Str} (h : SLe a b) (g : SLe b c) : SLe a c := List.le_trans h g
theorem SLe.anti {a b : Str} (h : SLe a b) (g : SLe b a) : a = b := by
  obtain ⟨⟨a⟩⟩ := a
  obtain ⟨⟨b⟩⟩ := b
  have : a = b := List.le_antisymm h g
  rw [this]
theorem SLe.total (a b : Str) : SLe a b ∨ SLe b a := List.le_total _ _
theorem insStr_rises (x : Str) : ∀ l : List Str, l.Pairwise SLe → (insStr x l).Pairwise SLe
  | [], _ => by simp [insStr]
  | y :: r, h => by
    obtain ⟨h1, h2⟩ := List.pairwise_cons.mp h
    unfold insStr
    by_cases q : leStr x y = true
    · rw [if_pos q]
      have q := leStr_iff.1 q
      exact List.pairwise_cons.mpr ⟨fun z hz => (List.mem_cons.mp hz).elim (fun e => e ▸ q) fun m => q.trans (h1 z m), h⟩
    · rw [if_neg q]
      have q : SLe y x := (SLe.total x y).resolve_left fun z => q (leStr_iff.2 z)
      refine List.pairwise_cons.mpr ⟨fun z hz => ?_, insStr_rises x r h2⟩
      rcases List.mem_cons.mp ((insStr_perm x r).mem_iff.mp hz) with e | m
      · rw [e]; exact q
      · exact h1 z m
theorem sortStr_rises : ∀ l, (sortStr l).Pairwise SLe
  | [] => .nil
  | x :: r => insStr_rises x _ (sortStr_rises r)
theorem insInt_rises (x : Int) : ∀ l : List Int, l.Pairwise (· ≤ ·) → (insInt x l).Pairwise (· ≤ ·)
  | [], _ => by simp [insInt]
  | y :: r, h => by
    obtain ⟨h1, h2⟩ := List.pairwise_cons.mp h
    unfold insInt
    by_cases q : x ≤ y
    · rw [if_pos q]
      exact List.pairwise_cons.mpr ⟨fun z hz => (List.mem_cons.mp hz).elim (fun e => e ▸ q) fun m => Int.le_trans q (h1 z m), h⟩
    · rw [if_neg q]
      refine List.pairwise_cons.mpr ⟨fun z hz => ?_, insInt_rises x r h2⟩
      rcases List.mem_cons.mp ((insInt_perm x r).mem_iff.mp hz) with e | m
      · rw [e]; omega
      · exact h1 z m
theorem sortInt_rises : ∀ l, (sortInt l).Pairwise (· ≤ ·)
  | [] => .nil
  | x :: r => insInt_rises x _ (sortInt_rises r)
theorem rising_pw : ∀ (l : List Str) (p : Str), PyProof.Rows.risingS p l = true → (p :: l).Pairwise SLe
  | [], p, _ => List.pairwise_singleton _ _
  | x :: r, p, h => by
    unfold PyProof.Rows.risingS at h
    rw [Bool.and_eq_true, Bool.not_eq_true'] at h
    have ih := rising_pw r x h.2
    have q : SLe p x := by
      have := h.1
      rw [PyProof.Rows.ltCps_eq] at this
      exact of_decide_eq_false this
    refine List.pairwise_cons.mpr ⟨fun z hz => (List.mem_cons.mp hz).elim (fun e => e ▸ q) fun m => q.trans ((List.pairwise_cons.mp ih).1 z m), ih⟩
theorem sorted_pw : ∀ {l : List Str}, PyProof.Rows.sortedS l = true → l.Pairwise SLe
  | [], _ => .nil
  | x :: r, h => rising_pw r x h
theorem eq_sortStr {ys ks : List Str} (p : ys.Perm ks) (h : PyProof.Rows.sortedS ys = true) : ys = sortStr ks :=
  List.Perm.eq_of_pairwise (fun _ _ _ _ a b => SLe.anti a b) (sorted_pw h) (sortStr_rises ks) (p.trans (sortStr_perm ks).symm)
theorem eq_sortInt {ys ks : List Int} (p : ys.Perm ks) (h : ys.Pairwise (· ≤ ·)) : ys = sortInt ks :=
  List.Perm.eq_of_pairwise (fun _ _ _ _ a b => Int.le_antisymm a b) h (sortInt_rises ks) (p.trans (sortInt_perm ks).symm)
theorem sortD_cases {xs ys : List D} (h : sortD xs = some ys) : (∃ ks, strsOf xs = some ks ∧ ks.length < 64 ∧ ys = (sortStr ks).map .str) ∨ ∃ ks, intsOf xs = some ks ∧ ks.length < 64 ∧ ys = (sortInt ks).map .int := by
  unfold sortD at h
  cases q : strsOf xs with
  | some ks =>
    rw [q] at h
    simp only at h
    by_cases z : ks.length < 64
    · rw [if_pos z] at h; cases h; exact .inl ⟨ks, rfl, z, rfl⟩
    · rw [if_neg z] at h; cases h
  | none =>
    rw [q] at h
    simp only at h
    cases q2 : intsOf xs with
    | none => rw [q2] at h; cases h
    | some ks =>
      rw [q2] at h
      simp only [Option.bind] at h
      by_cases z : ks.length < 64
      · rw [if_pos z] at h; cases h; exact .inr ⟨ks, rfl, z, rfl⟩
      · rw [if_neg z] at h; cases h
theorem keys_str : ∀ {ds : List (Key × D)} {ks : List Str}, strsOf (ds.map fun p => keyD p.1) = some ks → ds.map (·.1) = ks.map Sum.inr
  | [], ks, h => by cases h; rfl
  | (.inl k, d) :: ds, ks, h => by cases h
  | (.inr k, d) :: ds, ks, h => by
    have h : (strsOf (ds.map fun p => keyD p.1)).map (k :: ·) = some ks := h
    cases q : strsOf (ds.map fun p => keyD p.1) with
    | none => rw [q] at h; cases h
    | some ks' =>
      rw [q] at h
      cases h
      rw [List.map_cons, List.map_cons, keys_str q]
theorem keys_int : ∀ {ds : List (Key × D)} {ks : List Int}, intsOf (ds.map fun p => keyD p.1) = some ks → ds.map (·.1) = ks.map Sum.inl
  | [], ks, h => by cases h; rfl
  | (.inr k, d) :: ds, ks, h => by cases h
  | (.inl k, d) :: ds, ks, h => by
    have h : (intsOf (ds.map fun p => keyD p.1)).map (k :: ·) = some ks := h
    cases q : intsOf (ds.map fun p => keyD p.1) with
    | none => rw [q] at h; cases h
    | some ks' =>
      rw [q] at h
      cases h
      rw [List.map_cons, List.map_cons, keys_int q]
theorem c_sorted (hc : X.calm = true) (hk : X.K = M.K) : CallR X (.builtin "sorted") (rON M (opD .sorted_)) := c_1 (o1 (g := oSorted) (fun _ => rfl) rfl fun _ _ _ => rfl) fun pins s σ H x u Q F d r I rx le h1 h3 h4 => by
  unfold oSorted nD at h3
  split at h3
  · rename_i kvs
    cases q : sortD (kvs.map fun p => keyD p.1) with
    | none => rw [q] at h3; cases h3
    | some ys =>
      rw [q] at h3
      cases h3
      obtain ⟨l, ws, rfl, g1, g2⟩ := h1.dct le
      rcases sortD_cases q with ⟨ks, e1, e2, rfl⟩ | ⟨ks, e1, e2, rfl⟩
      · exact call_sortedD hc pins s σ H _ _ Q I (vals1' rx) ⟨l, ws, ks, rfl, g1, g2.keys.symm.trans (keys_str e1), e2, fun ys p hp hs hn => by rw [eq_sortStr hp hs]; exact q_n h4 hn (reps_str _)⟩
      · exact call_sortedDI hc pins s σ H _ _ Q I (vals1' rx) ⟨l, ws, ks, rfl, g1, g2.keys.symm.trans (keys_int e1), e2, fun ys p hp hs hn => by rw [eq_sortInt hp hs]; exact q_n h4 hn (reps_int _)⟩
  · rename_i xs
    cases q : sortD xs with
    | none => rw [q] at h3; cases h3
    | some ys =>
      rw [q] at h3
      cases h3
      obtain ⟨l, vs, rfl, g1, g2⟩ := h1.lst le
      rcases sortD_cases q with ⟨ks, e1, e2, rfl⟩ | ⟨ks, e1, e2, rfl⟩
      · have e := g2.strs e1
        subst e
        exact cr_sortedS pins s σ H _ _ Q I (vals1' rx) ⟨l, ks, rfl, hk ▸ g1, e2, fun ys p hp hs hn => by rw [eq_sortStr hp hs]; exact q_n h4 hn (reps_str _)⟩
      · have e := g2.ints e1
        subst e
        exact cr_sorted pins s σ H _ _ Q I (vals1' rx) ⟨l, ks, rfl, hk ▸ g1, e2, fun ys p hp hs hn => by rw [eq_sortInt hp hs]; exact q_n h4 hn (reps_int _)⟩
  · cases h3

/-! ### dict(pairs), d[k] = v -/
theorem putK_cons {k j : Key} {y v : V} {r : List (Key × V)} (nd : (((j, y) :: r).map (·.1)).Nodup) : putK ((j, y) :: r) k v = if j = k then (j, v) :: r else (j, y) :: putK r k v := by
  rw [List.map_cons, List.nodup_cons] at nd
  unfold putK
  rw [List.any_cons]
  by_cases q : j = k
  · subst q
    have e : (r.map fun kv => if kv.1 = j then (kv.1, v) else kv) = r := by
      conv => rhs; rw [← List.map_id r]
      refine List.map_congr_left fun p hp => ?_
      have hm : p.1 ∈ r.map (·.1) := List.mem_map_of_mem (f := (·.1)) hp
      rw [if_neg fun z => nd.1 (by rw [← z]; exact hm)]; rfl
    simp [e]
  · simp only [decide_eq_false q, Bool.false_or, List.map_cons, if_neg q, List.cons_append]
    split <;> rfl
theorem nodup_putK {k : Key} {v : V} : ∀ {r : List (Key × V)}, (r.map (·.1)).Nodup → ((putK r k v).map (·.1)).Nodup ∧ ∀ j, j ∈ (putK r k v).map (·.1) → j = k ∨ j ∈ r.map (·.1)
  | [], _ => ⟨by simp [putK], fun j h => by simp [putK] at h; exact .inl h⟩
  | (j, y) :: r, nd => by
    rw [putK_cons nd]
    have nd' := nd
    rw [List.map_cons, List.nodup_cons] at nd
    by_cases q : j = k
    · rw [if_pos q]; exact ⟨nd', fun i h => .inr h⟩
    · rw [if_neg q]
      obtain ⟨a, b⟩ := nodup_putK (k := k) (v := v) nd.2
      rw [List.map_cons, List.nodup_cons]
      refine ⟨⟨fun z => (b j z).elim q nd.1, a⟩, fun i h => ?_⟩
      rcases List.mem_cons.1 h with e | m
      · exact .inr (e ▸ List.mem_cons_self)
      · exact (b i m).imp id fun m => List.mem_cons_of_mem _ m
theorem RepK.put {k : Key} {d : D} {v : V} (rd : Rep M F d v) : ∀ {ds : List (Key × D)} {ws : List (Key × V)}, (ws.map (·.1)).Nodup → RepK M F ds ws → RepK M F (putD k d ds) (putK ws k v)
  | [], _, _, h => by cases h; exact ⟨v, [], rfl, rd, rfl⟩
  | (j, x) :: ds, _, nd, ⟨y, ws, e, r, t⟩ => by
    subst e
    rw [putK_cons nd]
    unfold putD
    rw [List.map_cons, List.nodup_cons] at nd
    by_cases q : j = k
    · rw [if_pos q, if_pos q]; exact ⟨v, ws, rfl, rd, t⟩
    · rw [if_neg q, if_neg q]; exact ⟨y, _, rfl, r, RepK.put rd nd.2 t⟩
theorem merge_ok : ∀ {ps ds : List (Key × D)} {qs ws : List (Key × V)}, (ws.map (·.1)).Nodup → RepK M F ds ws → RepK M F ps qs → RepK M F (putAll ds ps) (mergeK ws qs)
  | [], ds, _, ws, nd, h, g => by cases g; exact h
  | (k, d) :: ps, ds, _, ws, nd, h, ⟨v, qs, e, r, t⟩ => by
    subst e
    unfold putAll
    show RepK M F _ (mergeK (putK ws k v) qs)
    exact merge_ok (nodup_putK nd).1 (h.put r nd) t
theorem pairsOf_some {d : D} {r : List D} {ps : List (Key × D)} (e : pairsOf (d :: r) = some ps) : ∃ k x k' ps', d = .tup [k, x] ∧ keyOf k = some k' ∧ pairsOf r = some ps' ∧ ps = (k', x) :: ps' := by
  unfold pairsOf at e
  split at e
  · rename_i h; cases h
  · rename_i h
    cases h
    split at e
    · rename_i g g2; cases e; exact ⟨_, _, _, _, rfl, g, g2, rfl⟩
    · cases e
  · cases e
theorem pairs_ok (le : Le F H) (K : PySem.W.Frag) : ∀ {xs : List D} {vs : List V} {ps : List (Key × D)}, Reps M F xs vs → pairsOf xs = some ps → ∃ as kvs, vs = as.map V.ref ∧ Paired (fun p kv => SqT K H p [kV kv.1, kv.2]) as kvs ∧ RepK M F ps kvs
  | [], _, ps, h, e => by cases h; cases e; exact ⟨[], [], rfl, .nil, rfl⟩
  | d :: r, _, ps, ⟨v, ws, e', r1, t⟩, e => by
    subst e'
    obtain ⟨k, x, k', ps', rfl, g, g2, rfl⟩ := pairsOf_some e
    obtain ⟨as, kvs, e1, e2, e3⟩ := pairs_ok le K t g2
    obtain ⟨a, us, rfl, ha, hu⟩ := r1
    obtain ⟨v1, us1, rfl, q1, hu⟩ := hu
    obtain ⟨v2, us2, rfl, q2, hu⟩ := hu
    cases hu
    have := RT.key (H := F) (.inl q1) g
    subst this
    exact ⟨a :: as, (k', v2) :: kvs, by rw [e1]; rfl, .cons (.inl (.inl (le.t _ _ ha))) e2, ⟨v2, kvs, rfl, q2, e3⟩⟩
theorem c_dict (hc : X.calm = true) (hk : X.K = M.K) : CallR X (.type "dict") (rON M (opD .dictP)) := c_1 (o1 (g := oDict) (fun _ => rfl) rfl fun _ _ _ => rfl) fun pins s σ H x u Q F d r I rx le h1 h3 h4 => by
  unfold oDict nD at h3
  split at h3
  · rename_i xs
    cases q : pairsOf xs with
    | none => rw [q] at h3; cases h3
    | some ps =>
      rw [q] at h3
      cases h3
      obtain ⟨l, vs, rfl, g1, g2⟩ := h1.lst le
      obtain ⟨as, kvs, rfl, e2, e3⟩ := pairs_ok le X.K g2 q
      exact call_dictP hc pins s σ H _ _ Q I (vals1' rx) ⟨l, as, kvs, rfl, hk ▸ g1, e2, fun p hp => q_n h4 hp (merge_ok .nil rfl e3)⟩
  · cases h3
    obtain ⟨l, ws, rfl, g1, g2⟩ := h1.dct le
    exact call_dictD pins s σ H _ _ Q I (vals1' rx) ⟨l, ws, rfl, g1, fun p hp => q_n h4 hp g2⟩
  · cases h3
end
end PV

set_option Elab.async false
set_option linter.all false
set_option maxRecDepth 100000
set_option maxHeartbeats 1000000
/-! PvN: iterables; slices; isinstance; stores. -/
namespace PV
open PySem L2
/-- an iterable's data stand in the heap -/
def iD (M : Nm) (HX : Hp) (K : D → Option (List D)) : V → Hp → (It → Hp → Prop) → Prop := fun x H R => ∃ F d ds, Le F H ∧ Rep M F d x ∧ K d = some ds ∧ ∀ J F1 H1, Lk HX F H F1 H1 → IterOk M F1 H1 J ds → R J H1
def kSeq : D → Option (List D)
  | .lst xs => some xs
  | .tup xs => some xs
  | .dct kvs => some (kvs.map fun p => keyD p.1)
  | .str z => some (z.cps.toList.map fun c => .str ⟨#[c]⟩)
  | _ => none
def kItm : D → Option (List D)
  | .dct kvs => some (kvs.map fun p => .tup [keyD p.1, p.2])
  | _ => none
def kVal : D → Option (List D)
  | .dct kvs => some (kvs.map (·.2))
  | _ => none
section
variable {M : Nm} {H0 : Hp} {W : WX} {T : Tb}
theorem it_of {HX F H : Hp} {σ : L2.St} {ρ : Env} {e : CE} {K : D → Option (List D)} {R : It → Hp → Prop} (R0 : Rel M H0 F H σ ρ)
    (p : PostI M H0 W HX F H σ ρ ((ev T e ρ).bind fun v ρ1 => (okD v ρ1).bind fun d ρ2 => lift (K d) ρ2) R) : tE M H0 W T e σ H fun x H1 => iD M HX K x H1 R := by
  refine ⟨F, ρ, R0, ?_⟩
  cases h : ev T e ρ with
  | bad => rw [h] at p; exact p.elim
  | exc e ρ1 => rw [h] at p; exact p
  | ok v ρ1 =>
    rw [h] at p
    intro x F1 H1 R1 S1 E1 V1
    simp only [Out.bind, okD] at p
    cases h2 : fr ρ1 v with
    | none => rw [h2] at p; exact p.elim
    | some q =>
      obtain ⟨d, ρ2⟩ := q
      rw [h2] at p
      simp only at p
      cases h3 : K d with
      | none => rw [h3] at p; exact p.elim
      | some ds =>
        rw [h3] at p
        obtain ⟨F2, Z⟩ := fr_ok R1 S1 V1.1 V1.2 h2
        exact ⟨F2, d, ds, Z.rel.sub, Z.rep, h3, fun J F3 H3 lk it => p J F2 H1 F3 H3 Z.rel Z.stp (E1.trans Z.es) lk it⟩
theorem i_sq {HX : Hp} {e : CE} {σ : L2.St} {H : Hp} {R : It → Hp → Prop} (h : tI M H0 W T HX (.seq e) σ H R) : tE M H0 W T e σ H fun x H1 => iD M HX kSeq x H1 R := by
  obtain ⟨F, ρ, R0, p⟩ := h
  simp only [evI] at p
  refine it_of R0 ?_
  cases h : ev T e ρ with
  | bad => rw [h] at p; exact p
  | exc e ρ1 => rw [h] at p; exact p
  | ok v ρ1 =>
    rw [h] at p
    simp only [Out.bind] at p ⊢
    cases h2 : okD v ρ1 with
    | bad => rw [h2] at p; exact p
    | exc e ρ1 => rw [h2] at p; exact p
    | ok d ρ2 => rw [h2] at p; cases d <;> exact p
theorem i_itm {HX : Hp} {e : CE} {σ : L2.St} {H : Hp} {R : It → Hp → Prop} (h : tI M H0 W T HX (.itm e) σ H R) : tE M H0 W T e σ H fun x H1 => iD M HX kItm x H1 R := by
  obtain ⟨F, ρ, R0, p⟩ := h
  simp only [evI] at p
  refine it_of R0 ?_
  cases h : ev T e ρ with
  | bad => rw [h] at p; exact p
  | exc e ρ1 => rw [h] at p; exact p
  | ok v ρ1 =>
    rw [h] at p
    simp only [Out.bind] at p ⊢
    cases h2 : okD v ρ1 with
    | bad => rw [h2] at p; exact p
    | exc e ρ1 => rw [h2] at p; exact p
    | ok d ρ2 => rw [h2] at p; cases d <;> exact p
theorem i_val {HX : Hp} {e : CE} {σ : L2.St} {H : Hp} {R : It → Hp → Prop} (h : tI M H0 W T HX (.val e) σ H R) : tE M H0 W T e σ H fun x H1 => iD M HX kVal x H1 R := by
  obtain ⟨F, ρ, R0, p⟩ := h
  simp only [evI] at p
  refine it_of R0 ?_
  cases h : ev T e ρ with
  | bad => rw [h] at p; exact p
  | exc e ρ1 => rw [h] at p; exact p
  | ok v ρ1 =>
    rw [h] at p
    simp only [Out.bind] at p ⊢
    cases h2 : okD v ρ1 with
    | bad => rw [h2] at p; exact p
    | exc e ρ1 => rw [h2] at p; exact p
    | ok d ρ2 => rw [h2] at p; cases d <;> exact p
end
section
variable {X : Cx} {pins : List (Addr × Obj)} {σ : L2.St} {F H : Hp} {s : Shared} {M : Nm}
theorem Keep.rd {F1 H1 H : Hp} {a : Addr} {u : HO} (k : Keep F1 H1 H) (f : F1 a ≠ none) (r : Rd H1 a u) : Rd H a u := r.imp (k a _ f) fun ⟨o, r⟩ => ⟨o, k a _ f r⟩
theorem rd_some {a : Addr} {u : HO} (r : Rd F a u) : F a ≠ none := by rcases r with h | ⟨_, h⟩ <;> (rw [h]; intro z; cases z)
theorem it_lst {K : PySem.W.Frag} {a : Addr} {vs : List V} {ds : List D} (le : Le F H) (r : Rd F a (.lst vs)) (h : Reps M F ds vs) : IterOk M F H (Itl K a) ds := by
  have rd : ∀ H', Keep F H H' → SqL K H' a vs := fun H' k => .inl (k.rd (rd_some r) (le.l _ _ r))
  refine ⟨fun i H' hi k => ?_, fun H' k => ⟨vs, rd H' k, by rw [h.length]; exact Nat.le_refl _⟩, fun i H' x H2 hi k y => ?_⟩
  · rw [h.length] at hi
    exact ⟨vs, _, rd H' k, List.getElem?_eq_getElem hi⟩
  · obtain ⟨rfl, y⟩ := y
    obtain ⟨d, hd, rp⟩ := h.get (y vs (rd _ k))
    exact ⟨d, hd, .inl ⟨rfl, rp⟩⟩
theorem it_tup {K : PySem.W.Frag} {a : Addr} {vs : List V} {ds : List D} (le : Le F H) (r : F a = some (.tup vs)) (h : Reps M F ds vs) : IterOk M F H (Itt K a) ds := by
  have rd : ∀ H', Keep F H H' → SqT K H' a vs := fun H' k => .inl (.inl (k a _ (by rw [r]; intro z; cases z) (le.t _ _ r)))
  refine ⟨fun i H' hi k => ?_, fun H' k => ⟨vs, rd H' k, by rw [h.length]; exact Nat.le_refl _⟩, fun i H' x H2 hi k y => ?_⟩
  · rw [h.length] at hi
    exact ⟨vs, _, rd H' k, List.getElem?_eq_getElem hi⟩
  · obtain ⟨rfl, y⟩ := y
    obtain ⟨d, hd, rp⟩ := h.get (y vs (rd _ k))
    exact ⟨d, hd, .inl ⟨rfl, rp⟩⟩
theorem it_str {z : Str} : IterOk M F H (Its z) (z.cps.toList.map fun c => .str ⟨#[c]⟩) := by
  refine ⟨fun i H' hi k => ?_, fun H' k => ?_, fun i H' x H2 hi k y => ?_⟩
  · show i < z.cps.size
    simpa using hi
  · show z.cps.size ≤ _
    simp
  · obtain ⟨rfl, c, hc, rfl⟩ := y
    exact ⟨.str ⟨#[c]⟩, by simp [hc], .inl ⟨rfl, rfl⟩⟩
theorem it_keys {a : Addr} {o : Obj} {ws : List (Key × V)} {kvs : List (Key × D)} (hf : F a ≠ none) (hd : H a = some (.frz o (.dK ws))) (h : RepK M F kvs ws) : IterOk M F H (Itk a o ws) (kvs.map fun p => keyD p.1) := by
  refine ⟨fun i H' hi k => ⟨k a _ hf hd, ?_⟩, fun H' k => ⟨k a _ hf hd, ?_⟩, fun i H' x H2 hi k y => ?_⟩
  · rw [List.length_map, h.length] at hi; exact hi
  · rw [List.length_map, h.length]; exact Nat.le_refl _
  · obtain ⟨rfl, q, v, hq, rfl⟩ := y
    obtain ⟨d, g1, g2⟩ := (repk_keys h).get (show (ws.map fun p => kV p.1)[i]? = some (kV q) by rw [List.getElem?_map, hq]; rfl)
    exact ⟨d, g1, .inl ⟨rfl, g2⟩⟩
theorem it_vals {a : Addr} {o : Obj} {ws : List (Key × V)} {kvs : List (Key × D)} (hf : F a ≠ none) (hd : H a = some (.frz o (.dK ws))) (h : RepK M F kvs ws) : IterOk M F H (Itd a o ws) (kvs.map (·.2)) := by
  refine ⟨fun i H' hi k => ⟨k a _ hf hd, ?_⟩, fun H' k => ⟨k a _ hf hd, ?_⟩, fun i H' x H2 hi k y => ?_⟩
  · rw [List.length_map, h.length] at hi; exact hi
  · rw [List.length_map, h.length]; exact Nat.le_refl _
  · obtain ⟨rfl, q, hq⟩ := y
    obtain ⟨d, g1, g2⟩ := (repk_vals h).get (show (ws.map (·.2))[i]? = some x by rw [List.getElem?_map, hq]; rfl)
    exact ⟨d, g1, .inl ⟨rfl, g2⟩⟩
theorem repk_get : ∀ {ds : List (Key × D)} {ws : List (Key × V)} {i : Nat} {k : Key} {v : V}, RepK M F ds ws → ws[i]? = some (k, v) → ∃ d, ds[i]? = some (k, d) ∧ Rep M F d v
  | [], _, i, _, _, h, e => by cases h; simp at e
  | (k, d) :: ds, _, 0, _, _, ⟨v, ws, e', r, t⟩, e => by subst e'; simp at e; obtain ⟨rfl, rfl⟩ := e; exact ⟨d, rfl, r⟩
  | (k, d) :: ds, _, i + 1, _, _, ⟨v, ws, e', r, t⟩, e => by subst e'; simp at e; simpa using repk_get t e
theorem it_items {a : Addr} {o : Obj} {ws : List (Key × V)} {kvs : List (Key × D)} (hf : F a ≠ none) (hd : H a = some (.frz o (.dK ws))) (h : RepK M F kvs ws) : IterOk M F H (Iti a o ws) (kvs.map fun p => .tup [keyD p.1, p.2]) := by
  refine ⟨fun i H' hi k => ⟨k a _ hf hd, ?_⟩, fun H' k => ⟨k a _ hf hd, ?_⟩, fun i H' x H2 hi k y => ?_⟩
  · rw [List.length_map, h.length] at hi; exact hi
  · rw [List.length_map, h.length]; exact Nat.le_refl _
  · obtain ⟨T, q, v, hq, rfl, hT, rfl⟩ := y
    obtain ⟨d, g1, g2⟩ := repk_get h hq
    refine ⟨.tup [keyD q, d], by rw [List.getElem?_map, g1]; rfl, .inr ⟨T, [kV q, v], [keyD q, d], rfl, hT, rfl, rfl, kV q, [v], rfl, ?_, v, [], rfl, g2, rfl⟩⟩
    cases q <;> rfl
/-- a dict is locked for a walk -/
theorem dict_lock (I : Inv X pins σ H s) (le : Le F H) {a : Addr} {ws : List (Key × V)} (r : Rd F a (.dK ws)) : ∃ o F1 H1, Inv X pins σ H1 s ∧ H1 a = some (.frz o (.dK ws)) ∧ F1 a ≠ none ∧ Lk X.H_0 F H F1 H1 ∧ Le F F1 := by
  rcases le.k _ _ r with h | ⟨o, h⟩
  · obtain ⟨o, I1⟩ := I.lock h trivial
    exact ⟨o, upd F a (.frz o (.dK ws)), upd H a (.frz o (.dK ws)), I1, upd_same, (by rw [upd_same]; exact fun z => by cases z), .inr ⟨a, o, ws, r, h, I.nofrz h trivial, rfl, rfl⟩, Le.lock r⟩
  · exact ⟨o, F, H, I, h, rd_some r, .inl ⟨rfl, rfl⟩, Le.refl _⟩
theorem p_it {tg e : Expr} {te : V → Hp → (It → Hp → Prop) → Prop} {t : TI} {c : TE} (he : PE X e c) (i : ∀ σ H R, t σ H R → c σ H fun x H1 => te x H1 R)
    (k : ∀ pins s σ H x v R, Inv X pins σ H s → RelV x v → te x H R → wpAny (model X.prog X.w) X.A (pyIter v) (PIE X pins σ tg R) X.xe s) : PI X tg e t :=
  ⟨fun pins s σ H R I h => thn (he.run pins s σ H _ I (i σ H R h)) fun v s1 ⟨x, H1, I1, r1, q1⟩ => k pins s1 σ H1 x v R I1 r1 q1⟩
theorem run_seq {tg : Expr} {pins : List (Addr × Obj)} {s : Shared} {σ : L2.St} {H : Hp} {x : V} {v : Value} {R : It → Hp → Prop} (I : Inv X pins σ H s) (rx : RelV x v) (h : iD M X.H_0 kSeq x H R) :
    wpAny (model X.prog X.w) X.A (pyIter v) (PIE X pins σ tg R) X.xe s := by
  obtain ⟨F, d, ds, le, rp, hk, q⟩ := h
  cases d with
  | lst xs =>
    cases hk
    obtain ⟨a, vs, rfl, r, rs⟩ := rp
    cases rx
    obtain ⟨its, rv, p, hz⟩ := I.list (.inl (le.l _ _ r))
    refine wpAny_pyIter_list p.isList ?_
    exact pi_one (tk := s.toks) I _ (turn_list a _) ⟨_, Heap.get?_push_size _ rfl, rfl, rfl⟩ (q (Itl X.K a) F H (.inl ⟨rfl, rfl⟩) (it_lst le r rs))
  | tup xs =>
    cases hk
    obtain ⟨a, vs, rfl, r, rs⟩ := rp
    cases rx
    obtain ⟨its, rv, p, hz⟩ := I.tuple (.inl (.inl (le.t _ _ r)))
    refine wpAny_pyIter_tuple (show s.heap.IsTuple a its.toArray from p) ?_
    exact pi_one (tk := s.toks) I _ (turn_tuple a _) ⟨_, Heap.get?_push_size _ rfl, rfl, rfl⟩ (q (Itt X.K a) F H (.inl ⟨rfl, rfl⟩) (it_tup le r rs))
  | dct kvs =>
    cases hk
    obtain ⟨a, ws, rfl, r, rs⟩ := rp
    cases rx
    obtain ⟨o, F1, H1, I1, hd, hf, lk, l1⟩ := dict_lock I le r
    obtain ⟨hs, hgd, hx, es, ep, vs, hdt, hsz, kv, hm⟩ := I1.frzK hd
    refine iter_keys hs hgd hx hdt (pi_one (tk := s.toks) I1 _ (turn_keys _ hdt) ⟨_, Heap.get?_push_size _ rfl, rfl, ?_⟩ (q (Itk a o ws) F1 H1 lk (it_keys hf hd (RepK.mono l1 _ _ rs))))
    rw [hsz] <;> rfl
  | str z =>
    cases hk
    cases (show x = .str z from rp)
    obtain ⟨t, rfl⟩ := rx
    have q' := q (Its z) F H (.inl ⟨rfl, rfl⟩) it_str
    cases ha : z.cps.all (· < 128)
    · exact wpAny_pyIter_wide ha (pi_one (tk := s.toks) I _ (turn_str _ z t "str_iterator" (.inr rfl)) ⟨_, Heap.get?_push_size _ rfl, rfl, rfl⟩ q')
    · exact wpAny_pyIter_ascii ha (pi_one (tk := s.toks) I _ (turn_str _ z t "str_ascii_iterator" (.inl rfl)) ⟨_, Heap.get?_push_size _ rfl, rfl, rfl⟩ q')
  | _ => cases hk

section
variable {W : WX} {H0 : Hp} {T : Tb} {tg e : Expr} {c : CE} {apos cpos : Pos}
theorem p_seq (he : PE X e (tE M H0 W T c)) : PI X tg e (tI M H0 W T X.H_0 (.seq c)) := p_it he (fun _ _ _ h => i_sq h) fun _ _ _ _ _ _ _ I rx h => run_seq I rx h
theorem p_val (he : PE X e (tE M H0 W T c)) (hbase : attributeBase e "values" X.env (eval e X.env) = eval e X.env := by rfl) (hline : (apos.endLine == cpos.line) = true := by rfl) :
    PI X tg (.Call (.Attribute e "values" apos) [] [] cpos) (tI M H0 W T X.H_0 (.val c)) := by
  refine ⟨fun pins s σ H R I h => ?_⟩
  refine wpAny_Call_method (T := "dict") (id := "dict.values") hbase rfl hline F.plainAttrs_dict F.slot_dict_values F.type_dict_values (thn (he.run pins s σ H _ I (i_val h)) fun u s1 ⟨x, H1, I1, rx, G, d, ds, le, rp, hk, q⟩ => ?_)
  cases d with
  | dct kvs =>
    cases hk
    obtain ⟨a, ws, rfl, r, rs⟩ := rp
    cases rx
    obtain ⟨o, F1, H1', I2, hd, hf, lk, l1⟩ := dict_lock I1 le r
    obtain ⟨hs, hgd, hx, es, ep, vs, hdt, hsz, kv, hm⟩ := I2.frzK hd
    have hl : ws.length = vs.length := Paired.length kv
    refine ⟨hm.dictOf.typeIs, hm.dictOf.mapOf.noDict, ?_⟩
    have I3 : Inv X pins σ H1' { s1 with heap := s1.heap.push { cls := .type "dict_values", data := .fields #[.ref a] } } := I2.kept (t' := s1.toks) fun b ob q => Heap.get?_push_of_some _ q
    have fin : wpAny (model X.prog X.w) X.A (pyIter (.ref s1.heap.objs.size)) (PIE X pins σ tg R) X.xe { s1 with heap := s1.heap.push { cls := .type "dict_values", data := .fields #[.ref a] } } := by
      refine wpAny_pyIter_values (d := a) (knd := mixKind X.prog X.w) ⟨_, Heap.get?_push_size _ rfl, rfl, rfl⟩ (hm.push _) (pi_one (tk := s1.toks) I3 _ (turn_vals _ hdt) ⟨_, Heap.get?_push_size _ rfl, rfl, ?_⟩ (q (Itd a o ws) F1 H1' lk (it_vals hf hd (RepK.mono l1 _ _ rs))))
      rw [hl] <;> rfl
    show wpAny _ _ (callWith cpos (.builtin "dict.values") [.ref a] [] []) _ X.xe s1
    exact method_meetsIn F.slot_dict_values F.entry_dict_values rfl (PySem.evalArgs_none ⟨rfl, hm.dictOf.typeIs, F.args_dict_values_1 _, _, meets_dict_values (mixKind X.prog X.w) a hs, ⟨vs, hm.dictOf⟩, fin⟩)
  | _ => cases hk
theorem p_itm {elts : List Expr} {kk : Nat} {tpos : Pos} (he : PE X e (tE M H0 W T c)) (hbase : attributeBase e "items" X.env (eval e X.env) = eval e X.env := by rfl) (hline : (apos.endLine == cpos.line) = true := by rfl) :
    PI X (.Tuple elts kk tpos) (.Call (.Attribute e "items" apos) [] [] cpos) (tI M H0 W T X.H_0 (.itm c)) := by
  refine ⟨fun pins s σ H R I h => ?_⟩
  refine wpAny_Call_method (T := "dict") (id := "dict.items") hbase rfl hline F.plainAttrs_dict F.slot_dict_items F.type_dict_items (thn (he.run pins s σ H _ I (i_itm h)) fun u s1 ⟨x, H1, I1, rx, G, d, ds, le, rp, hk, q⟩ => ?_)
  cases d with
  | dct kvs =>
    cases hk
    obtain ⟨a, ws, rfl, r, rs⟩ := rp
    cases rx
    obtain ⟨o, F1, H1', I2, hd, hf, lk, l1⟩ := dict_lock I1 le r
    obtain ⟨hs, hgd, hx, es, ep, vs, hdt, hsz, kv, hm⟩ := I2.frzK hd
    have hl : ws.length = vs.length := Paired.length kv
    refine ⟨hm.dictOf.typeIs, hm.dictOf.mapOf.noDict, ?_⟩
    have I3 : Inv X pins σ H1' { s1 with heap := s1.heap.push { cls := .type "dict_items", data := .fields #[.ref a] } } := I2.kept (t' := s1.toks) fun b ob q => Heap.get?_push_of_some _ q
    have fin : wpAny (model X.prog X.w) X.A (pyIter (.ref s1.heap.objs.size)) (PIE X pins σ (.Tuple elts kk tpos) R) X.xe { s1 with heap := s1.heap.push { cls := .type "dict_items", data := .fields #[.ref a] } } := by
      refine wpAny_pyIter_items (d := a) (knd := mixKind X.prog X.w) ⟨_, Heap.get?_push_size _ rfl, rfl, rfl⟩ (hm.push _) (pi_one (tk := s1.toks) I3 _ (turn_items _ hdt) ⟨.none, .none, ?_⟩ (q (Iti a o ws) F1 H1' lk (it_items hf hd (RepK.mono l1 _ _ rs))))
      rw [hl]
      exact Heap.get?_push_size _ rfl
    show wpAny _ _ (callWith cpos (.builtin "dict.items") [.ref a] [] []) _ X.xe s1
    exact method_meetsIn F.slot_dict_items F.entry_dict_items rfl (PySem.evalArgs_none ⟨rfl, hm.dictOf.typeIs, F.args_dict_items_1 _, _, meets_dict_items (mixKind X.prog X.w) a hs, ⟨vs, hm.dictOf⟩, fin⟩)
  | _ => cases hk
/-! ### range -/
theorem it_rng {lo : Int} {n : Nat} : IterOk M F H (Itr lo n) (mapRange lo n) := by
  have hl : (mapRange lo n).length = n := by simp [mapRange]
  refine ⟨fun i H' hi k => ?_, fun H' k => ?_, fun i H' x H2 hi k y => ?_⟩
  · rw [hl] at hi; exact hi
  · rw [hl]; exact Nat.le_refl _
  · obtain ⟨rfl, rfl⟩ := y
    rw [hl] at hi
    exact ⟨.int (lo + i), by simp [mapRange, hi], .inl ⟨rfl, rfl⟩⟩
theorem i_rng {HX : Hp} {c : CE} {σ : L2.St} {H : Hp} {R : It → Hp → Prop} (h : tI M H0 W T HX (.rng c) σ H R) : iRng1 (tCons (tE M H0 W T c) tNil) σ H R := by
  obtain ⟨F, ρ, R0, p⟩ := h
  simp only [evI] at p
  refine ⟨F, ρ, R0, ?_⟩
  cases h : ev T c ρ with
  | bad => rw [h] at p; exact p.elim
  | exc e ρ1 => rw [h] at p; exact p
  | ok v ρ1 =>
    rw [h] at p
    intro x F1 H1 R1 S1 E1 V1
    simp only [Out.bind] at p
    cases v with
    | f d =>
      cases d with
      | int n =>
        simp only at p
        split at p
        · rename_i hn
          have e : x = .int n := V1.1
          subst e
          have := small_63 hn
          exact ⟨n, rfl, this.1, this.2, p _ F1 H1 F1 H1 R1 S1 E1 (.inl ⟨rfl, rfl⟩) it_rng⟩
        · exact p.elim
      | _ => exact p.elim
    | _ => exact p.elim
theorem i_rng2 {HX : Hp} {a b : CE} {σ : L2.St} {H : Hp} {R : It → Hp → Prop} (h : tI M H0 W T HX (.rng2 a b) σ H R) : iRng2 (tCons (tE M H0 W T a) (tCons (tE M H0 W T b) tNil)) σ H R := by
  obtain ⟨F, ρ, R0, p⟩ := h
  simp only [evI] at p
  refine ⟨F, ρ, R0, ?_⟩
  cases h : ev T a ρ with
  | bad => rw [h] at p; exact p.elim
  | exc e ρ1 => rw [h] at p; exact p
  | ok v ρ1 =>
    rw [h] at p
    intro x F1 H1 R1 S1 E1 V1
    simp only [Out.bind] at p
    refine ⟨F1, ρ1, R1, ?_⟩
    cases h2 : ev T b ρ1 with
    | bad => rw [h2] at p; exact p.elim
    | exc e ρ2 => rw [h2] at p; exact fun c d F2 H2 R2 S2 E2 => p c d F2 H2 R2 (S1.trans S2) (E1.trans E2)
    | ok w ρ2 =>
      rw [h2] at p
      intro y F2 H2 R2 S2 E2 V2
      simp only at p
      cases v with
      | f d =>
        cases d with
        | int i =>
          cases w with
          | f d =>
            cases d with
            | int j =>
              simp only at p
              split at p
              · rename_i hn
                rw [Bool.and_eq_true] at hn
                have e1 : x = .int i := V1.1
                have e2 : y = .int j := V2.1
                subst e1; subst e2
                have q1 := small_63 hn.1
                have q2 := small_63 hn.2
                exact ⟨i, j, rfl, ⟨q1.1, q1.2, q2.1, q2.2⟩, p _ F2 H2 F2 H2 R2 (S1.trans S2) (E1.trans E2) (.inl ⟨rfl, rfl⟩) it_rng⟩
              · exact p.elim
            | _ => exact p.elim
          | _ => exact p.elim
        | _ => exact p.elim
      | _ => exact p.elim
theorem PI.imp {t t' : TI} (h : PI X tg e t) (i : ∀ σ H R, t' σ H R → t σ H R) : PI X tg e t' := ⟨fun pins s σ H R I q => h.run pins s σ H R I (i σ H R q)⟩
end
/-! ### slices -/
theorem bound_part {d : D} {o : Option Int} (h : bound d = some o) : (d = .non ∧ o = none) ∨ ∃ i, d = .int i ∧ o = some i := by
  unfold bound at h
  split at h
  · cases h; exact .inl ⟨rfl, rfl⟩
  · cases h; exact .inr ⟨_, rfl, rfl⟩
  · cases h
theorem cut_reps {ds : List D} {vs : List V} (h : Reps M F ds vs) (lo hi : Option Int) : Reps M F (cut ds lo hi) (cutV vs lo hi) := by
  unfold cut cutV
  have e : slIx = HT.sIx := rfl
  rw [e, h.length]
  exact (h.drop _).take _
/-- x[lo:hi] by values -/
def rSl (M : Nm) : V → Option Int → Option Int → Hp → VK → Prop := fun x lo hi H Q => ∃ F d r, Le F H ∧ RT M F H d x ∧ (match d with | .lst xs => nD (.lst (cut xs lo hi)) | .tup xs => fD (.tup (cut xs lo hi)) | _ => none) = some r ∧ ∀ v F' H', OpPost M F H r v F' H' → Q v H'
theorem r_sl (hk : X.K = M.K) : SlR X (rSl M) := by
  rintro pins s σ H x v vl vu lo hi sl Q I rx hs pl pu ⟨F, d, r, le, h1, h3, h4⟩
  cases d with
  | lst xs =>
    cases h3
    obtain ⟨l, vs, rfl, g1, g2⟩ := h1.lst le
    exact sl_list pins s σ H _ v vl vu lo hi sl Q I rx hs pl pu ⟨l, vs, rfl, hk ▸ g1, fun p hp => q_n h4 hp (cut_reps g2 lo hi)⟩
  | tup xs =>
    cases h3
    have h0 := rep_of_rt h1 fun o r => by cases o <;> exact r
    obtain ⟨l, vs, rfl, g1, g2⟩ := h1.tup le
    refine sl_tupA pins s σ H _ v vl vu lo hi sl Q I rx hs pl pu ⟨l, vs, rfl, .inl (.inl g1), fun w => ?_, fun _ p hp => q_t le h4 hp (cut_reps g2 lo hi)⟩
    have e : cut xs lo hi = xs := by
      unfold cut
      have e : slIx = HT.sIx := rfl
      rw [e, g2.length, w.1, w.2, ← g2.length]
      simp
    rw [e] at h4
    exact q_f h4 h0
  | _ => cases h3
end
end PV

set_option Elab.async false
set_option linter.all false
set_option maxRecDepth 100000
set_option maxHeartbeats 1000000
/-! PvO: dict comprehensions. -/
namespace PV
open PySem L2
section
variable {M : Nm} {H0 : Hp} {W : WX} {T : Tb}
theorem putAll_append {κ : Type} [DecidableEq κ] : ∀ (a b : List (κ × D)) (acc : List (κ × D)), putAll acc (a ++ b) = putAll (putAll acc a) b
  | [], b, acc => rfl
  | (k, d) :: a, b, acc => putAll_append a b (putD k d acc)
def fDc (T : Tb) (ke e c : CE) (t : CT) (own : List Nat) : D → Env → Out (List (Key × D)) := fun x ρ => match tgt ρ t x with
  | none => .bad
  | some ρ => (ev T c ρ).bind fun b ρ => truth b ρ fun q ρ => if q then (ev T ke ρ).bind fun kv ρ => (ev T e ρ).bind fun v ρ => match (rd ρ kv).bind keyOf with
    | some key => (okD v ρ).bind fun d ρ => .ok [(key, d)] (wipeE ρ own)
    | none => .bad
    else .ok [] (wipeE ρ own)
theorem putK_len {k : Key} {v : V} {ws : List (Key × V)} : (putK ws k v).length ≤ ws.length + 1 := length_putK ws k v
theorem turn_okD {ke e c : CE} {t : CT} {own : List Nat} (hj : ∀ j ∈ t.slots, j ∈ own) {F1 H1 F H F' H' : Hp} {σ : L2.St} {ρw ρ ρ2 : Env} {D : Addr} {acc : List (Key × V)} {pre : List (Key × PV.D)} {x : V} {d : PV.D} {o : List (Key × PV.D)} {Nx : Hp → Prop}
    (m : Mid M H0 F1 H1 σ own ρw D F H ρ) (hD : H D = some (.dK acc)) (hz : acc.length < sizeLine) (ra : RepK M F pre acc) (nd : (acc.map (·.1)).Nodup) (R : Rel M H0 F' H' (wipe σ own) ρ) (S : Stp F H (OA ρ (wipe σ own)) F' H' (OA ρ (wipe σ own))) (r : Rep M F' d x) (h : fDc T ke e c t own d ρ = .ok o ρ2)
    (k : ∀ F2 H2 ws, Mid M H0 F1 H1 σ own ρw D F2 H2 ρ2 → RepK M F2 (putAll pre o) ws → (ws.map (·.1)).Nodup → ws.length ≤ acc.length + o.length → H2 D = some (.dK ws) → Nx H2) :
    tG M H0 t x (wipe σ own) H' fun σ2 H2 => wipe σ2 own = wipe σ own ∧ tT M H0 WN T c σ2 H2 fun b H3 =>
      if b = true then tE M H0 WN T ke σ2 H3 fun y H4 => tE M H0 WN T e σ2 H4 fun z H5 => ∃ kvs k, y = kV k ∧ H5 D = some (.dK kvs) ∧ kvs.length < sizeLine ∧ Nx (upd H5 D (.dK (putK kvs k z))) else Nx H3 := by
  refine ⟨F', ρ, d, R, r, ?_⟩
  unfold fDc at h
  cases h1 : tgt ρ t d with
  | none => rw [h1] at h; cases h
  | some ρa =>
    rw [h1] at h
    dsimp only at h
    intro σ2 R2 O2 P2 N2
    have ew := wipe_only N2 hj
    refine ⟨ew, F', ρa, R2, ?_⟩
    obtain ⟨q, ρb, h2, h3⟩ := truth_ok h
    refine post_ok h2 fun b F3 H3 R3 S3 E3 V3 => ?_
    subst V3
    have St3 : Stp F H (OA ρ (wipe σ own)) F3 H3 (OA ρb σ2) := (S.shrink O2).trans S3
    have fin : ∀ {F4 H4 : Hp} {ρc : Env}, Rel M H0 F4 H4 σ2 ρc → Stp F H (OA ρ (wipe σ own)) F4 H4 (OA ρc σ2) → ES ρa ρc → Mid M H0 F1 H1 σ own ρw D F4 H4 (wipeE ρc own) ∧ H4 D = some (.dK acc) := fun {F4 H4 ρc} R4 S4 E4 => by
      obtain ⟨g1, g2, g3⟩ := pend_keep m.fd hD m.nd S4
      obtain ⟨R5, O5⟩ := R4.wipe own
      rw [ew] at R5 O5
      exact ⟨⟨R5, m.stp.trans (S4.shrink O5).liftD, m.es.trans (es_turn m.wiped h1 hj E4), wiped_wipe _ _, g1, fun z => g3 (O5 D z)⟩, g2⟩
    cases q with
    | false =>
      rw [if_neg (by decide)] at h3 ⊢
      cases h3
      obtain ⟨m2, g2⟩ := fin R3 St3 E3
      exact k F3 H3 acc m2 (RepK.mono St3.le _ _ ra) nd (Nat.le_add_right _ _) g2
    | true =>
      rw [if_pos rfl] at h3 ⊢
      obtain ⟨kv, ρc, h4, h5⟩ := bind_ok h3
      obtain ⟨v, ρd, h6, h7⟩ := bind_ok h5
      cases h8 : (rd ρd kv).bind keyOf with
      | none => rw [h8] at h7; cases h7
      | some key =>
        rw [h8] at h7
        obtain ⟨dd, ρe, h9, h10⟩ := bind_ok h7
        cases h10
        refine ⟨F3, ρb, R3, post_ok h4 fun y F4 H4 R4 S4 E4 V4 => ⟨F4, ρc, R4, post_ok h6 fun z F5 H5 R5 S5 E5 V5 => ?_⟩⟩
        have hy : y = kV key := by
          cases q : rd ρd kv with
          | none => rw [q] at h8; cases h8
          | some dk =>
            rw [q] at h8
            exact (VOk.rt R5 (V4.1.step S5 E5) q).key h8
        obtain ⟨F6, R6, S6, E6, r6, _⟩ := okD_ok (F := F4) (H := H4) R5 S5 V5.1 V5.2 h9
        obtain ⟨m2, g2⟩ := fin R6 (St3.trans (S4.trans S6)) (E3.trans (E4.trans (E5.trans E6)))
        refine ⟨acc, key, hy, g2, hz, k F6 _ (putK acc key z) ⟨m2.rel.pend m2.fd m2.nd, m2.stp.trans (Stp.pend (by rw [g2]; intro z; cases z)), m2.es, m2.wiped, m2.fd, m2.nd⟩ (RepK.put r6 nd (RepK.mono (St3.trans (S4.trans S6)).le _ _ ra)) (nodup_putK nd).1 putK_len upd_same⟩
theorem i_dc {HX : Hp} {ke e c : CE} {t : CT} {it : CI} {own : List Nat} (hj : ∀ j ∈ t.slots, j ∈ own) (hW : ∀ cls d σ H H', Unl HX H H' → W cls d σ H' → W cls d σ H) {σ : L2.St} {H : Hp} {Q : VK} (h : tE M H0 W T (.dc ke e t it c own) σ H Q) :
    tUnlE HX (tDc (tI M H0 W T HX it) (tG M H0 t) (tT M H0 WN T c) (tE M H0 WN T ke) (tE M H0 WN T e) own) σ H Q := by
  obtain ⟨F, ρ, R, p⟩ := h
  simp only [ev] at p
  refine ⟨F, ρ, R, ?_⟩
  cases h1 : evI T it ρ with
  | bad => rw [h1] at p; exact p
  | exc ex ρ1 => rw [h1] at p; exact p
  | ok ds ρ1 =>
    rw [h1] at p
    intro J F0 H0' F1 H1 R0 S0 E0 k I D hD
    have R1 := k.rel R0
    have p' : Post M H0 W F H σ ρ (VR1 M H σ) ((calm (gather (fDc T ke e c t own) ds (wipeE ρ1 own))).bind fun ds ρ2 => if ds.length ≤ LIM then .ok (.n (.dct (putAll [] ds))) (unwipe ρ1 ρ2 own) else .bad) Q := p
    cases h2 : gather (fDc T ke e c t own) ds (wipeE ρ1 own) with
    | bad => rw [h2] at p'; exact p'.elim
    | exc ex ρ2 => rw [h2] at p'; exact p'.elim
    | ok out ρ2 =>
      rw [h2] at p'
      simp only [calm, Out.bind] at p'
      by_cases hz : out.length ≤ LIM
      case neg => rw [if_neg hz] at p'; exact p'.elim
      rw [if_pos hz] at p'
      have hL := LIM_line
      have f1D : F1 D = none := R1.sub.d D hD
      have n1D : ¬ OA ρ1 σ D := not_oa R1 hD
      obtain ⟨Rw, Ow⟩ := R1.wipe own
      have m0 : Mid M H0 F1 (upd H1 D (.dK [])) σ own (wipeE ρ1 own) D F1 (upd H1 D (.dK [])) (wipeE ρ1 own) :=
        ⟨Rw.pend f1D (fun z => n1D (Ow D z)), Stp.refl _ _ _, ES.refl _, wiped_wipe _ _, f1D, fun z => n1D (Ow D z)⟩
      -- what the walk leaned on stands
      have kp : ∀ {F' H' : Hp} {ρ' : Env}, Mid M H0 F1 (upd H1 D (.dK [])) σ own (wipeE ρ1 own) D F' H' ρ' → Keep F1 H1 H' := fun {F' H' ρ'} m b o hb he => by
        have nb : b ≠ D := by rintro rfl; exact hb f1D
        refine m.stp.fr b o (by rw [upd_ne nb]; exact he) ?_
        rintro (⟨i, q, z⟩ | z)
        · cases w : slotAt (wipeE ρ1 own) i with
          | no => rw [w] at q; exact q
          | fz _ => rw [w] at q; exact q
          | ow d => obtain ⟨a, u, g1, g2, _⟩ := Rw.ow i d (.inl w); rw [z] at g1; cases g1; exact hb g2
          | pw d => obtain ⟨a, u, g1, g2, _⟩ := Rw.ow i d (.inr w); rw [z] at g1; cases g1; exact hb g2
        · exact nb z
      refine ⟨fun i m H' => m = ds.length - i ∧ i ≤ ds.length ∧ ∃ F' ρ' pre post acc, gather (fDc T ke e c t own) (ds.drop i) ρ' = .ok post ρ2 ∧ out = pre ++ post ∧ Mid M H0 F1 (upd H1 D (.dK [])) σ own (wipeE ρ1 own) D F' H' ρ' ∧ RepK M F' (putAll [] pre) acc ∧ (acc.map (·.1)).Nodup ∧ acc.length ≤ pre.length ∧ H' D = some (.dK acc),
        ⟨ds.length, by simp, Nat.zero_le _, F1, wipeE ρ1 own, [], out, [], by simpa using h2, rfl, m0, rfl, .nil, Nat.le_refl _, upd_same⟩, ?_⟩
      rintro i m H' ⟨rfl, hi, F', ρ', pre, post, acc, g, ho, md, ra, nd, na, hd⟩
      by_cases hlt : i < ds.length
      · have ed : ∃ d, ds[i]? = some d ∧ ds.drop i = d :: ds.drop (i + 1) := ⟨ds[i], List.getElem?_eq_getElem hlt, List.drop_eq_getElem_cons hlt⟩
        obtain ⟨d0, hd0, ed⟩ := ed
        rw [ed] at g
        obtain ⟨o, ρ3, post', g1, g2, rfl⟩ := gather_ok g
        refine .inr ⟨I.go i H' hlt (kp md), fun H2 => (ds.length - (i + 1)) = ds.length - (i + 1) ∧ i + 1 ≤ ds.length ∧ ∃ F' ρ' pre post acc, gather (fDc T ke e c t own) (ds.drop (i + 1)) ρ' = .ok post ρ2 ∧ out = pre ++ post ∧ Mid M H0 F1 (upd H1 D (.dK [])) σ own (wipeE ρ1 own) D F' H2 ρ' ∧ RepK M F' (putAll [] pre) acc ∧ (acc.map (·.1)).Nodup ∧ acc.length ≤ pre.length ∧ H2 D = some (.dK acc),
          fun H2 z => ⟨ds.length - (i + 1), by omega, z⟩, fun x H2 y => ?_⟩
        obtain ⟨d, F2, hdd, R2, S2, r2⟩ := I.turn md.stp.le md.rel (kp md) hlt y
        rw [hd0] at hdd; cases hdd
        have hacc : acc.length < sizeLine := by
          have q1 := na
          have q2 : out.length = pre.length + (o ++ post').length := by rw [ho, List.length_append]
          have : sizeLine = 16777216 := sizeLine_eq
          have : LIM = 16000000 := rfl
          omega
        refine turn_okD hj md hd hacc ra nd R2 S2 r2 g1 fun F3 H3 ws m3 r3 nd3 l3 h3 => ⟨rfl, hlt, F3, ρ3, pre ++ o, post', ws, g2, by rw [ho, List.append_assoc], m3, by rw [putAll_append]; exact r3, nd3, by rw [List.length_append]; omega, h3⟩
      · have e : i = ds.length := by omega
        subst e
        rw [List.drop_length] at g
        simp only [gather] at g
        cases g
        refine .inl ⟨I.stop H' (kp md), ?_⟩
        rw [List.append_nil] at ho
        subst ho
        -- the block's end
        have St : Stp F1 H1 (OA (wipeE ρ1 own) (L2.wipe σ own)) F' H' (AD D ρ2 (L2.wipe σ own)) := by
          refine ⟨md.stp.le, fun b o hb n => ?_, fun b hb => ?_, fun b hb hb' => ?_, fun b hb => ?_⟩
          · have nb : b ≠ D := by rintro rfl; rw [hD] at hb; cases hb
            exact md.stp.fr b o (by rw [upd_ne nb]; exact hb) fun z => z.elim n nb
          · have := md.stp.dm b hb
            by_cases q : b = D
            · rw [q]; exact hD
            · rw [upd_ne q] at this; exact this
          · rcases md.stp.nw b hb hb' with z | z
            · by_cases q : b = D
              · subst q; rw [upd_same] at z; cases z
              · rw [upd_ne q] at z; exact .inl z
            · rcases z with z | z
              · exact .inr z
              · subst z; exact absurd md.fd hb'
          · rcases md.stp.ow b hb with z | z
            · rcases z with z | z
              · exact .inl z
              · subst z; exact .inr hD
            · by_cases q : b = D
              · subst q; exact .inr hD
              · rw [upd_ne q] at z; exact .inr z
        obtain ⟨R5, E5, S5⟩ := R1.unwipe hD md.rel md.wiped md.es St
        obtain ⟨F6, H6, u6, R6, S6, le6, nn6, same6⟩ := k.back R1 R5 S5
        refine ⟨H6, u6, p' (.ref D) F6 H6 R6 (S0.trans S6) (E0.trans E5) ⟨⟨D, .dK acc, rfl, nn6 D md.fd, (same6 D md.fd).trans hd, RepK.mono le6 _ _ ra, fun z => ?_⟩, fun d' a z z' => ?_⟩⟩
        · exact n1D (E5.oa z)
        · cases z'
          have hD0 : H0' D = none := by
            rcases k with ⟨_, rfl⟩ | ⟨b, od, kvs, _, q2, _, _, rfl⟩
            · exact hD
            · by_cases q : D = b
              · subst q; rw [upd_same] at hD; cases hD
              · rw [upd_ne q] at hD; exact hD
          exact S0.dm D hD0
end
end PV

set_option Elab.async false
set_option linter.all false
set_option maxRecDepth 100000
set_option maxHeartbeats 1000000
/-! PvP: displays with stars; dict displays. -/
namespace PV
open PySem L2
section
variable {M : Nm} {H0 : Hp} {W : WX} {T : Tb}
abbrev VRd (M : Nm) : Hp → Hp → Env → List D → List V → Prop := fun F' _ _ ds vs => Reps M F' ds vs
def tAS (M : Nm) (H0 : Hp) (W : WX) (T : Tb) (cs : CEs) (st : List Bool) : TA := fun σ H Q => ∃ F ρ, Rel M H0 F H σ ρ ∧ Post M H0 W F H σ ρ (VRd M) (evsS T cs st ρ) Q
theorem s_nil {st : List Bool} {σ : L2.St} {H : Hp} {Q : List V → Hp → Prop} (h : tAS M H0 W T .nil st σ H Q) : tNil σ H Q := by
  obtain ⟨F, ρ, R, p⟩ := h
  exact p [] F H R (Stp.refl _ _ _) (ES.refl _) rfl
/-- the head of a display -/
theorem s_head {a : CE} {as : CEs} {st : List Bool} {F H : Hp} {σ : L2.St} {ρ : Env} {Q : List V → Hp → Prop} {Q1 : V → Hp → Prop} (p : Post M H0 W F H σ ρ (VRd M) (evsS T (.cons a as) st ρ) Q)
    (k : ∀ x d xs F2 ρ2 H1, Rel M H0 F2 H1 σ ρ2 → Rep M F2 d x → spread (st.headD false) d = some xs → (∀ vs, Reps M F2 xs vs → tAS M H0 W T as st.tail σ H1 fun ys H2 => Q (vs ++ ys) H2) → Q1 x H1) : Post M H0 W F H σ ρ (VR1 M H σ) (ev T a ρ) Q1 := by
  simp only [evsS] at p
  refine Post.bind p fun x ρ1 v F1 H1 R1 S1 E1 V1 p1 => ?_
  cases h : okD x ρ1 with
  | bad => rw [h] at p1; exact p1.elim
  | exc e ρ2 =>
    unfold okD at h
    cases h1 : fr ρ1 x with
    | none => rw [h1] at h; cases h
    | some q => rw [h1] at h; cases h
  | ok d ρ2 =>
    rw [h] at p1
    simp only [Out.bind] at p1
    obtain ⟨F2, R2, S2, E2, r2, _⟩ := okD_ok R1 S1 V1.1 V1.2 h
    cases h2 : spread (st.headD false) d with
    | none => rw [h2] at p1; exact p1.elim
    | some xs =>
      rw [h2] at p1
      refine k v d xs F2 ρ2 H1 R2 r2 h2 fun vs rs => ⟨F2, ρ2, R2, ?_⟩
      refine Post.bind (VQ := VRd M) (Post.shift (VR' := VRd M) p1 S2 (E1.trans E2) fun _ _ _ _ _ _ _ z => z) fun ds ρ3 ws F3 H3 R3 S3 E3 V3 p3 => ?_
      exact p3 (vs ++ ws) F3 H3 R3 S3 E3 ((Reps.mono S3.le _ _ rs).append V3)
theorem s_cons {a : CE} {as : CEs} {st : List Bool} {σ : L2.St} {H : Hp} {Q : List V → Hp → Prop} (h : tAS M H0 W T (.cons a as) (false :: st) σ H Q) : tCons (tE M H0 W T a) (tAS M H0 W T as st) σ H Q := by
  obtain ⟨F, ρ, R, p⟩ := h
  refine ⟨F, ρ, R, s_head p fun x d xs F2 ρ2 H1 R2 r2 e k => ?_⟩
  cases e
  exact k [x] (Reps.cons r2 Reps.nil)
theorem s_consN {a : CE} {as : CEs} {σ : L2.St} {H : Hp} {Q : List V → Hp → Prop} (h : tAS M H0 W T (.cons a as) [] σ H Q) : tCons (tE M H0 W T a) (tAS M H0 W T as []) σ H Q := by
  obtain ⟨F, ρ, R, p⟩ := h
  refine ⟨F, ρ, R, s_head p fun x d xs F2 ρ2 H1 R2 r2 e k => ?_⟩
  cases e
  exact k [x] (Reps.cons r2 Reps.nil)
theorem s_star {a : CE} {as : CEs} {st : List Bool} {σ : L2.St} {H : Hp} {Q : List V → Hp → Prop} (h : tAS M H0 W T (.cons a as) (true :: st) σ H Q) : StX.tStar M.K (tE M H0 W T a) (tAS M H0 W T as st) σ H Q := by
  obtain ⟨F, ρ, R, p⟩ := h
  refine ⟨F, ρ, R, s_head p fun x d xs F2 ρ2 H1 R2 r2 e k => ?_⟩
  cases d with
  | lst ys =>
    cases e
    obtain ⟨l, vs, rfl, h1, h2⟩ := r2
    exact ⟨l, vs, rfl, .inr (.inl (R2.sub.l _ _ h1)), k vs h2⟩
  | tup ys =>
    cases e
    obtain ⟨l, vs, rfl, h1, h2⟩ := r2
    exact ⟨l, vs, rfl, .inl (.inl (.inl (R2.sub.t _ _ h1))), k vs h2⟩
  | _ => cases e
theorem i_lstS {es : CEs} {st : List Bool} {σ : L2.St} {H : Hp} {Q : VK} (h : tE M H0 W T (.lstS es st) σ H Q) : tLst (tAS M H0 W T es st) σ H Q := by
  obtain ⟨F, ρ, R, p⟩ := h
  simp only [ev] at p
  refine ⟨F, ρ, R, Post.bind p fun ds ρ1 vs F1 H1 R1 S1 E1 V1 p1 => ?_⟩
  split at p1
  · rename_i hz
    refine ⟨by rw [← Reps.length V1]; exact lim_ok hz, fun q hq => ?_⟩
    have op : OpPost M F1 H1 (.n (.lst ds)) (.ref q) F1 (upd H1 q (.lst vs)) := ⟨q, _, rfl, hq, rfl, rfl, V1⟩
    obtain ⟨R2, S2, v2, n2⟩ := OpPost.rel R1 op
    exact p1 _ F1 _ R2 (S1.trans S2) E1 ⟨v2, VNew.back S1 n2⟩
  · exact p1.elim
end
end PV

set_option Elab.async false
set_option linter.all false
set_option maxRecDepth 100000
set_option maxHeartbeats 1000000
/-! PvQ: stores, isinstance, dict displays. -/
namespace PV
open PySem L2
section
variable {X : Cx} {pins : List (Addr × Obj)} {σ : L2.St} {F H : Hp} {s : Shared} {M : Nm} {Q : VK}
/-! ### o[k] = v -/
theorem r_set (hu : X.A.units + 1 < cLine) : PSet X (rSet M) := by
  rintro pins s σ H o i v ov iv u Q I ro ri rv ⟨F, a, ob, d, k, e, d', rfl, le, hH, rt, rk, re, hs, q⟩
  unfold setD at hs
  split at hs
  · rename_i xs j
    cases g : ixOf xs.length j with
    | none => rw [g] at hs; cases hs
    | some m =>
      rw [g] at hs
      cases hs
      cases ob with
      | lst vs =>
        have rs : Reps M F xs vs := rt
        cases rk.int
        refine set_list pins s σ H _ _ v ov iv u Q I ro ri rv ⟨a, vs, j, m, rfl, rfl, hH, ?_, q _ (rs.set m re)⟩
        rw [← rs.length]; exact g
      | _ => exact rt.elim
  · rename_i kvs
    cases g : keyOf k with
    | none => rw [g] at hs; cases hs
    | some key =>
      rw [g] at hs
      simp only [Option.bind] at hs
      split at hs
      · rename_i hz
        cases hs
        cases ob with
        | dK ws =>
          have rs : RepK M F kvs ws := rt
          cases rk.key g
          cases ro
          have nd := dK_nodup I (.inl hH)
          exact d_setItem hu I (DPut.k hH (by rw [← rs.length]; exact lim_lt hz)) ri rv fun s' I' => ⟨_, I', q (.dK (putK ws key v)) (rs.put re nd)⟩
        | _ => exact rt.elim
      · cases hs
  · cases hs
/-! ### isinstance -/
/-- the type's name of data that are no object -/
def tyN : D → Option String
  | .non => some "NoneType" | .bl _ => some "bool" | .int _ => some "int" | .str _ => some "str" | .lst _ => some "list" | .tup _ => some "tuple" | .dct _ => some "dict" | .dcT _ => none | .obj _ _ => none
theorem ty_ok (le : Le F H) {d : D} {x : V} (h : RT M F H d x) {n : String} (e : tyN d = some n) : TyX X.K H x (.type n) := by
  cases d with
  | non => cases e; rw [h.non]; exact .base .non
  | bl b => cases e; rw [h.bl]; exact .base (.bl b)
  | int b => cases e; rw [h.int]; exact .base (.int b)
  | str b => cases e; rw [h.str]; exact .base (.str b)
  | lst ds =>
    cases e
    obtain ⟨a, vs, rfl, h1, _⟩ := h.lstR le
    rcases h1 with h1 | ⟨o, h1⟩
    · exact .base (.lst h1)
    · exact .base (.frz h1)
  | tup ds => cases e; obtain ⟨a, vs, rfl, h1, _⟩ := h.tup le; exact .base (.tup h1)
  | dct ds =>
    cases e
    obtain ⟨a, vs, rfl, h1, _⟩ := h.dct le
    rcases h1 with h1 | ⟨o, h1⟩
    · exact .base (.dK h1)
    · exact .fDict h1
  | dcT ds => cases e
  | obj C fs => cases e
/-- isinstance(x, T), T built in -/
theorem c_isi {T : String} {p : D → Bool} (hp : ∀ d n, tyN d = some n → kitB n T = some (p d)) : CallR X (.builtin "isinstance") fun xs H Q => ∃ x, xs = [x, .ty T] ∧ rO1 M (oTy p) x H Q := by
  rintro pins s σ H xs us Q I rx ⟨x, rfl, F, d, r, le, h1, h3, h4⟩
  have hn : ∃ n, tyN d = some n ∧ r = .f (.bl (p d)) := by
    cases d <;> first | (cases h3; exact ⟨_, rfl, rfl⟩) | (cases h3)
  obtain ⟨n, e, rfl⟩ := hn
  exact call_isi pins s σ H _ us Q I rx ⟨x, _, _, _, p d, rfl, .ty T, ty_ok le h1 e, kit_ty (hp d n e), q_f h4 rfl⟩
/-- what isinstance asks of an own class -/
structure IsC (K : PySem.W.Frag) (C : Addr) : Prop where
  cl : Cls K C
  ha : PySem.W.findIn K (.ref C) "__class__" = some (some (.builtin "object.__class__"))
  hn : PySem.W.specialIn K (.builtin "object.__class__") "__get__" = some (some (.builtin "getset_descriptor.__get__"))
  htk : PySem.W.takesIn K (.builtin "object.__class__") = some true
  hm : PySem.W.mroIn K C (.type "object") = some true
  me : PySem.W.kitOne K (.ref C) (.ref C) = some true
  no : ∀ n ∈ ["NoneType", "bool", "int", "str", "list", "tuple", "dict"], PySem.W.kitOne K (.type n) (.ref C) = some false
theorem tyN_mem {d : D} {n : String} (e : tyN d = some n) : n ∈ ["NoneType", "bool", "int", "str", "list", "tuple", "dict"] := by
  cases d <;> cases e <;> decide
theorem c_isiC {C : Nat} (c : IsC X.K (M.cl C)) : CallR X (.builtin "isinstance") fun xs H Q => ∃ x, xs = [x, .ref (M.cl C)] ∧ rO1 M (oObj C) x H Q := by
  rintro pins s σ H xs us Q I rx ⟨x, rfl, F, d, r, le, h1, h3, h4⟩
  cases hd : tyN d with
  | some n =>
    have hr : r = .f (.bl false) := by cases d <;> first | (cases h3; rfl) | (cases hd)
    subst hr
    exact call_isi pins s σ H _ us Q I rx ⟨x, _, _, _, false, rfl, .own _, ty_ok le h1 hd, c.no n (tyN_mem hd), q_f h4 rfl⟩
  | none =>
    cases d with
    | obj B fs =>
      simp only [oObj] at h3
      split at h3
      · rename_i z
        cases h3
        obtain ⟨a, dx, ws, rfl, g1, _⟩ := h1.obj le
        rw [z] at g1
        exact call_isi pins s σ H _ us Q I rx ⟨_, _, _, _, true, rfl, .own _, .base (.ins g1 c.cl c.ha c.hn c.htk c.hm), c.me, q_f h4 rfl⟩
      · cases h3
    | dcT _ => cases h3
    | _ => cases hd
end
section
variable {M : Nm} {H0 : Hp} {W : WX} {T : Tb}
/-! ### {k: v, ..} -/
def trs (M : Nm) (H0 : Hp) (W : WX) (T : Tb) : List Key → CEs → List (TE × TE)
  | k :: ks, .cons e es => (tC (kV k), tE M H0 W T e) :: trs M H0 W T ks es
  | _, _ => []
theorem zip_rep : ∀ {ks : List Key} {F : Hp} {ds : List D} {vs : List V}, ks.length = ds.length → Reps M F ds vs → RepK M F (ks.zip ds) (ks.zip vs)
  | [], _, ds, vs, _, h => rfl
  | k :: ks, _, [], vs, e, h => by cases e
  | k :: ks, _, d :: ds, _, e, ⟨v, ws, e', r, t⟩ => by
    subst e'
    exact ⟨v, ks.zip ws, rfl, r, zip_rep (by simpa using e) t⟩
theorem pairs_run : ∀ {ks : List Key} {es : CEs} {F H : Hp} {σ : L2.St} {ρ : Env} {Q : List (V × V) → Hp → Prop}, ks.length = csize es → Rel M H0 F H σ ρ →
    Post M H0 W F H σ ρ (VRd M) (evsS T es [] ρ) (fun vs H' => vs.length = ks.length → Q (ks.zip vs |>.map fun kv => (kV kv.1, kv.2)) H') → tPairs (trs M H0 W T ks es) σ H Q
  | [], .nil, F, H, σ, ρ, Q, e, R, p => by
    unfold trs tPairs
    exact p [] F H R (Stp.refl _ _ _) (ES.refl _) rfl rfl
  | [], .cons _ _, F, H, σ, ρ, Q, e, R, p => by cases e
  | _ :: _, .nil, F, H, σ, ρ, Q, e, R, p => by cases e
  | k :: ks, .cons a as, F, H, σ, ρ, Q, e, R, p => by
    unfold trs tPairs
    show tE M H0 W T a σ H fun y H2 => tPairs (trs M H0 W T ks as) σ H2 fun ps H3 => Q ((kV k, y) :: ps) H3
    refine ⟨F, ρ, R, s_head p fun x d xs F2 ρ2 H1 R2 r2 e2 q => ?_⟩
    cases e2
    obtain ⟨F3, ρ3, R3, p3⟩ := q [x] (Reps.cons r2 Reps.nil)
    refine pairs_run (by simpa [csize] using e) R3 (Post.imp p3 (fun _ _ _ _ _ z => z) fun vs H' z hl => ?_)
    have := z (by simp [hl])
    simpa using this
theorem zipkv : ∀ {ks : List Key} {vs : List V}, (ks.zip vs).length = min ks.length vs.length := fun {ks vs} => List.length_zip
theorem i_dct {ks : List Key} {es : CEs} (hn : ks.length = csize es) {σ : L2.St} {H : Hp} {Q : VK} (h : tE M H0 W T (.dct ks es) σ H Q) : tDisp (trs M H0 W T ks es) σ H Q := by
  obtain ⟨F, ρ, R, p⟩ := h
  simp only [ev] at p
  intro D hD
  have fD' : F D = none := R.sub.d D hD
  have nD : ¬ OA ρ σ D := not_oa R hD
  have R0 := R.pend (o := .dK []) fD' nD
  refine pairs_run hn R0 ?_
  cases h1 : evsS T es [] ρ with
  | bad => rw [h1] at p; exact p.elim
  | exc e ρ1 =>
    rw [h1] at p
    exact p.elim
  | ok ds ρ1 =>
    rw [h1] at p
    simp only [calm, Out.bind] at p
    split at p
    · rename_i hz
      intro vs F1 H1 R1 S1 E1 V1 hl
      obtain ⟨g1, g2, g3⟩ := pend_keep fD' upd_same nD S1
      refine ⟨g2, ks.zip vs, rfl, by rw [zipkv]; have := hz.1; have := hz.2; omega, ?_⟩
      have rk := merge_ok (M := M) (F := F1) (ds := []) (ws := []) .nil rfl (zip_rep hz.2 V1)
      have St : Stp F H (OA ρ σ) F1 (upd H1 D (.dK (mergeK [] (ks.zip vs)))) (OA ρ1 σ) := by
        refine ⟨S1.le, fun b o hb n => ?_, fun b hb => ?_, fun b hb hb' => ?_, fun b hb => ?_⟩
        · have nb : b ≠ D := by rintro rfl; rw [hD] at hb; cases hb
          rw [upd_ne nb]
          exact S1.fr b o (by rw [upd_ne nb]; exact hb) n
        · by_cases q : b = D
          · rw [q]; exact hD
          · rw [upd_ne q] at hb
            have := S1.dm b hb
            rw [upd_ne q] at this; exact this
        · rcases S1.nw b hb hb' with z | z
          · by_cases q : b = D
            · subst q; rw [upd_same] at z; cases z
            · rw [upd_ne q] at z; exact .inl z
          · exact .inr z
        · rcases S1.ow b hb with z | z
          · exact .inl z
          · by_cases q : b = D
            · subst q; exact .inr hD
            · rw [upd_ne q] at z; exact .inr z
      exact p (.ref D) F1 _ (R1.pend g1 g3) St E1 ⟨⟨D, _, rfl, g1, upd_same, rk, g3⟩, fun d' a z z' => by cases z'; exact hD⟩
    · exact p.elim
end
end PV

set_option Elab.async false
set_option linter.all false
set_option maxRecDepth 100000
set_option maxHeartbeats 1000000
/-! PvR: the rules of the text: each a rule of the hand layer with the reading of the small language. Expressions. -/
namespace PV
open PySem L2
/-- what every rule asks of a running body -/
structure Ok (X : Cx) (M : Nm) : Prop where
  hk : X.K = M.K
  hc : X.calm = true
  hu : X.A.units + 64 < cLine
  hN : X.N.Nodup
section
variable {X : Cx} {M : Nm} {H0 : Hp} {W : WX} {T : Tb} {a b c e : Expr} {es rest : List Expr} {ca cb cc ce : CE} {cs : CEs} {pos p : Pos} {o o' : Op}
theorem Ok.u1 (k : Ok X M) : X.A.units + 1 < cLine := Nat.lt_of_le_of_lt (Nat.add_le_add_left (by decide : 1 ≤ 64) _) k.hu
theorem tE_mono {σ : L2.St} {H : Hp} {Q Q' : VK} (h : tE M H0 W T ca σ H Q) (q : ∀ v H', Q v H' → Q' v H') : tE M H0 W T ca σ H Q' := by
  obtain ⟨F, ρ, R, p⟩ := h
  exact ⟨F, ρ, R, p.imp (fun _ _ _ _ _ z => z) q⟩
/-! ### constants, names -/
theorem k_int {i : Int} {j : Nat} : PE X (.Constant (.int i) j pos) (tE M H0 W T (.cst (.int i))) := e_cst pe_int fun _ => rfl
theorem k_bl {b : Bool} {j : Nat} : PE X (.Constant (.bool b) j pos) (tE M H0 W T (.cst (.bl b))) := e_cst pe_bl fun _ => rfl
theorem k_non {j : Nat} : PE X (.Constant .none j pos) (tE M H0 W T (.cst .non)) := e_cst pe_non fun _ => rfl
theorem k_str {x : Str} {j : Nat} : PE X (.Constant (.str x) j pos) (tE M H0 W T (.cst (.str x))) := e_cst pe_str fun _ => rfl
/-- a constant of the module: an int, a text, a bool -/
theorem k_glb {g : Nat} {x : Str} {u : Value} {v : V} (hg : Gl X x) (hm : X.mg x = some u) (r : RelV v u) (rep : ∀ F, Rep M F (T.gl g) v) (hd : (x == ("__debug__" : Str)) = false := by decide) : PE X (.Name x pos) (tE M H0 W T (.glb g)) := e_glb (pe_glob hg hm r hd) rep
/-! ### operators -/
theorem k_bin {op : Operator} (ho : OpR X (binaryOp op) (rO2 M fun d e => opD o [d, e])) (ha : PE X a (tE M H0 W T ca)) (hb : PE X b (tE M H0 W T cb)) : PE X (.BinOp a op b pos) (tE M H0 W T (.op o (.cons ca (.cons cb .nil)))) :=
  PE.imp (pe_op ho ha hb) fun _ _ _ h => i_op2 h
theorem z_add (k : Ok X M) : OpR X (binaryOp .Add) (rO2 M fun d e => opD .add [d, e]) := r_add k.hk
theorem z_sub (k : Ok X M) : OpR X (binaryOp .Sub) (rO2 M fun d e => opD .sub [d, e]) := r_sub
theorem z_mul (k : Ok X M) : OpR X (binaryOp .Mult) (rO2 M fun d e => opD .mul [d, e]) := r_mul
theorem z_fdv (k : Ok X M) : OpR X (binaryOp .FloorDiv) (rO2 M fun d e => opD .fdv [d, e]) := r_fdv
theorem z_mod (k : Ok X M) : OpR X (binaryOp .Mod) (rO2 M fun d e => opD .mod [d, e]) := r_mod
theorem z_pow (k : Ok X M) : OpR X (binaryOp .Pow) (rO2 M fun d e => opD .pow [d, e]) := r_pow
theorem z_shl (k : Ok X M) : OpR X (binaryOp .LShift) (rO2 M fun d e => opD .shl [d, e]) := r_shl
theorem z_lt (k : Ok X M) : OpR X (compareOp .Lt) (rO2 M fun d e => opD .lt [d, e]) := r_lt
theorem z_le (k : Ok X M) : OpR X (compareOp .LtE) (rO2 M fun d e => opD .le [d, e]) := r_le
theorem z_gt (k : Ok X M) : OpR X (compareOp .Gt) (rO2 M fun d e => opD .gt [d, e]) := r_gt
theorem z_ge (k : Ok X M) : OpR X (compareOp .GtE) (rO2 M fun d e => opD .ge [d, e]) := r_ge
theorem z_eq (k : Ok X M) : OpR X (compareOp .Eq) (rO2 M fun d e => opD .eq [d, e]) := r_eq k.hk k.hu
theorem z_ne (k : Ok X M) : OpR X (compareOp .NotEq) (rO2 M fun d e => opD .ne [d, e]) := r_ne k.hk k.hu
theorem z_in (k : Ok X M) : OpR X (compareOp .In) (rO2 M fun d e => opD .inn [d, e]) := r_inn false k.hk k.u1
theorem z_nin (k : Ok X M) : OpR X (compareOp .NotIn) (rO2 M fun d e => opD .nin [d, e]) := r_inn true k.hk k.u1
theorem k_neg (ha : PE X a (tE M H0 W T ca)) : PE X (.UnaryOp .USub a pos) (tE M H0 W T (.op .neg (.cons ca .nil))) := PE.imp (pe_un u_neg ha) fun _ _ _ h => i_op1 h
theorem k_cmp {op : CmpOp} (ho : OpR X (compareOp op) (rO2 M fun d e => opD o [d, e])) (ha : PE X a (tE M H0 W T ca)) (hb : PE X b (tE M H0 W T cb)) (hm : behindInMarks op b = false := by first | exact nobehind _ (by decide) (by decide) | rfl) :
    PE X (.Compare a [op] [b] pos) (tE M H0 W T (.op o (.cons ca (.cons cb .nil)))) := PE.imp (pe_cmpR ho ha hb hm) fun _ _ _ h => i_op2 h
theorem PT.imp' {t t' : TT} (h : PT X e t) (i : ∀ σ H Q, t' σ H Q → t σ H Q) : PT X e t' := PT.imp h i
theorem t_cmp {op : CmpOp} (ho : OpR X (compareOp op) (rO2 M fun d e => opD o [d, e])) (ha : PE X a (tE M H0 W T ca)) (hb : PE X b (tE M H0 W T cb)) (hm : behindInMarks op b = false := by first | exact nobehind _ (by decide) (by decide) | rfl) :
    PT X (.Compare a [op] [b] pos) (tT M H0 W T (.op o (.cons ca (.cons cb .nil)))) := PT.imp (pt_cmpR ho ha hb hm) fun _ _ _ h => i_op2 (i_test h)
theorem isN_go {g : D → R1} {Q : VK} {σ : L2.St} {H : Hp} (hg : ∀ d, opD o [d] = g d) (h : tE M H0 W T (.op o (.cons ca .nil)) σ H Q) : tE M H0 W T ca σ H fun x H1 => (V.non = .non ∧ rO1 M g x H1 Q) := by
  refine tE_mono (i_op1 h) fun v H' z => ⟨rfl, ?_⟩
  rwa [show (fun d => opD o [d]) = g from funext hg] at z
theorem k_isN {j : Nat} {p2 : Pos} (ha : PE X a (tE M H0 W T ca)) : PE X (.Compare a [.Is] [.Constant .none j p2] pos) (tE M H0 W T (.op .isN (.cons ca .nil))) :=
  PE.imp (pe_cmpR r_is ha pe_non (nobehind _ (by decide) (by decide))) fun _ _ _ h => isN_go (fun _ => rfl) h
theorem k_isnN {j : Nat} {p2 : Pos} (ha : PE X a (tE M H0 W T ca)) : PE X (.Compare a [.IsNot] [.Constant .none j p2] pos) (tE M H0 W T (.op .isnN (.cons ca .nil))) :=
  PE.imp (pe_cmpR r_isn ha pe_non (nobehind _ (by decide) (by decide))) fun _ _ _ h => isN_go (fun _ => rfl) h
theorem t_isN {j : Nat} {p2 : Pos} (ha : PE X a (tE M H0 W T ca)) : PT X (.Compare a [.Is] [.Constant .none j p2] pos) (tT M H0 W T (.op .isN (.cons ca .nil))) :=
  PT.imp (pt_cmpR r_is ha pe_non (nobehind _ (by decide) (by decide))) fun _ _ _ h => isN_go (fun _ => rfl) (i_test h)
theorem t_isnN {j : Nat} {p2 : Pos} (ha : PE X a (tE M H0 W T ca)) : PT X (.Compare a [.IsNot] [.Constant .none j p2] pos) (tT M H0 W T (.op .isnN (.cons ca .nil))) :=
  PT.imp (pt_cmpR r_isn ha pe_non (nobehind _ (by decide) (by decide))) fun _ _ _ h => isN_go (fun _ => rfl) (i_test h)
theorem k_chn {op op' : CmpOp} (ho : OpR X (compareOp op) (rO2 M fun d e => opD o [d, e])) (ho' : OpR X (compareOp op') (rO2 M fun d e => opD o' [d, e])) (ha : PE X a (tE M H0 W T ca)) (hb : PE X b (tE M H0 W T cb)) (hc : PE X c (tE M H0 W T cc))
    (hm : lastMarks [op, op'] [b, c] = false := by with_unfolding_all rfl) : PE X (.Compare a [op, op'] [b, c] pos) (tE M H0 W T (.chn o o' ca cb cc)) := PE.imp (pe_chain ho ho' ha hb hc hm) fun _ _ _ h => i_chn h
theorem t_chn {op op' : CmpOp} (ho : OpR X (compareOp op) (rO2 M fun d e => opD o [d, e])) (ho' : OpR X (compareOp op') (rO2 M fun d e => opD o' [d, e])) (ha : PE X a (tE M H0 W T ca)) (hb : PE X b (tE M H0 W T cb)) (hc : PE X c (tE M H0 W T cc))
    (hm : lastMarks [op, op'] [b, c] = false := by with_unfolding_all rfl) : PT X (.Compare a [op, op'] [b, c] pos) (tT M H0 W T (.chn o o' ca cb cc)) := PT.imp (pt_chain ho ho' ha hb hc hm) fun _ _ _ h => i_chn (i_test h)
/-! ### and, or, not, if -/
theorem k_one {op : BoolOp} (h : PE X a (tE M H0 W T ca)) : PE X (.BoolOp op [a] pos) (tE M H0 W T ca) := pe_one h
theorem k_and (ha : PE X a (tE M H0 W T ca)) (hb : PE X (.BoolOp .And (b :: rest) pos) (tE M H0 W T cb)) : PE X (.BoolOp .And (a :: b :: rest) pos) (tE M H0 W T (.and_ ca cb)) := PE.imp (pe_and ha hb) fun _ _ _ h => i_and h
theorem k_or (ha : PE X a (tE M H0 W T ca)) (hb : PE X (.BoolOp .Or (b :: rest) pos) (tE M H0 W T cb)) : PE X (.BoolOp .Or (a :: b :: rest) pos) (tE M H0 W T (.or_ ca cb)) := PE.imp (pe_or ha hb) fun _ _ _ h => i_or h
theorem k_not (ha : PE X a (tE M H0 W T ca)) : PE X (.UnaryOp .Not a pos) (tE M H0 W T (.not_ ca)) := PE.imp (pe_not ha) fun _ _ _ h => i_not h
theorem k_ite (hc : PT X c (tT M H0 W T cc)) (ha : PE X a (tE M H0 W T ca)) (hb : PE X b (tE M H0 W T cb)) : PE X (.IfExp c a b pos) (tE M H0 W T (.ite cc ca cb)) := PE.imp (pe_ifExp hc ha hb) fun _ _ _ h => i_ite h
theorem t_vl (h : PE X e (tE M H0 W T ce)) (he : ∀ whole, isTrue e X.env whole = (do let v ← whole; standAt e.pos; holding [v] (truthy v)) := by intro _; rfl) : PT X e (tT M H0 W T ce) := PT.imp (pt_val h he) fun _ _ _ h => i_test h
theorem w_and1 (ha : PT X a (tT M H0 W T ca)) : PW X (.BoolOp .And [a] pos) (tT M H0 W T ca) := pw_and1 ha
theorem w_or1 (ha : PT X a (tT M H0 W T ca)) : PW X (.BoolOp .Or [a] pos) (tT M H0 W T ca) := pw_or1 ha
theorem w_and (ha : PT X a (tT M H0 W T ca)) (hb : PW X (.BoolOp .And (b :: rest) pos) (tT M H0 W T cb)) : PW X (.BoolOp .And (a :: b :: rest) pos) (tT M H0 W T (.and_ ca cb)) := PW.imp (pw_and ha hb) fun _ _ _ h => j_and h
theorem w_or (ha : PT X a (tT M H0 W T ca)) (hb : PW X (.BoolOp .Or (b :: rest) pos) (tT M H0 W T cb)) : PW X (.BoolOp .Or (a :: b :: rest) pos) (tT M H0 W T (.or_ ca cb)) := PW.imp (pw_or ha hb) fun _ _ _ h => j_or h
theorem t_not (ha : PT X a (tT M H0 W T ca)) : PT X (.UnaryOp .Not a pos) (tT M H0 W T (.not_ ca)) := PT.imp (pt_not ha) fun _ _ _ h => j_not h
/-! ### argument lists, displays -/
theorem k_nil : PA X [] (tA M H0 W T .nil) := PA.imp pa_nil fun _ _ _ h => i_nil h
theorem k_cons (ha : PE X e (tE M H0 W T ce)) (hr : PA X es (tA M H0 W T cs)) (hs : starEach (e :: es) X.env = (false, eval e X.env) :: starEach es X.env := by rfl) : PA X (e :: es) (tA M H0 W T (.cons ce cs)) := PA.imp (pa_cons ha hr hs) fun _ _ _ h => i_cons h
theorem k_lst (h : PA X es (tA M H0 W T cs)) : PE X (.List es pos) (tE M H0 W T (.lst cs)) := PE.imp (pe_lst h) fun _ _ _ h => i_lst h
theorem k_tup {j : Nat} (h : PA X es (tA M H0 W T cs)) : PE X (.Tuple es j pos) (tE M H0 W T (.tup cs)) := PE.imp (pe_tup h) fun _ _ _ h => i_tup h
theorem ks_nil {st : List Bool} : PA X [] (tAS M H0 W T .nil st) := PA.imp pa_nil fun _ _ _ h => s_nil h
theorem ks_cons {st : List Bool} (ha : PE X e (tE M H0 W T ce)) (hr : PA X es (tAS M H0 W T cs st)) (hs : starEach (e :: es) X.env = (false, eval e X.env) :: starEach es X.env := by rfl) : PA X (e :: es) (tAS M H0 W T (.cons ce cs) (false :: st)) :=
  PA.imp (pa_cons ha hr hs) fun _ _ _ h => s_cons h
theorem ks_star (k : Ok X M) {st : List Bool} (ha : PE X e (tE M H0 W T ce)) (hr : PA X es (tAS M H0 W T cs st)) (hs : starEach (.Starred e p :: es) X.env = (true, eval e X.env) :: starEach es X.env := by rfl) : PA X (.Starred e p :: es) (tAS M H0 W T (.cons ce cs) (true :: st)) :=
  PA.imp (StX.pa_star ha hr hs) fun _ _ _ h => by rw [k.hk]; exact s_star h
theorem k_lstS {st : List Bool} (h : PA X es (tAS M H0 W T cs st)) : PE X (.List es pos) (tE M H0 W T (.lstS cs st)) := PE.imp (pe_lst h) fun _ _ _ h => i_lstS h
theorem k_dn : PE X (.Dict [] [] pos) (tE M H0 W T (.dctN false)) := PE.imp pe_dnewK fun _ _ _ h => i_dnK h
theorem k_dnT : PE X (.Dict [] [] pos) (tE M H0 W T (.dctN true)) := PE.imp pe_dnewT fun _ _ _ h => i_dnT h
theorem kp_nil {ks : List Key} : PPs X pos [] [] (trs M H0 W T [] cs) := by unfold trs; exact pps_nil
theorem kp_cons {k : Expr} {key : Key} {keys : List (Option Expr)} {ks : List Key} (hk : PE X k (tC (kV key))) (he : PE X e (tE M H0 W T ce)) (hr : PPs X pos keys es (trs M H0 W T ks cs)) : PPs X pos (some k :: keys) (e :: es) (trs M H0 W T (key :: ks) (.cons ce cs)) := pps_cons hk he hr
theorem kq_str {x : Str} {j : Nat} : PE X (.Constant (.str x) j pos) (tC (kV (.inr x))) := pe_str
theorem kq_int {x : Int} {j : Nat} : PE X (.Constant (.int x) j pos) (tC (kV (.inl x))) := pe_int
theorem k_dct {keys : List (Option Expr)} {ks : List Key} (h : PPs X pos keys es (trs M H0 W T ks cs)) (hall : keys.all (·.isSome) = true := by rfl) (hl : keys.length = es.length := by rfl) (h0 : keys ≠ [] := by exact List.cons_ne_nil _ _) (h15 : keys.length ≤ 15 := by decide) (hn : ks.length = csize cs := by rfl) :
    PE X (.Dict keys es pos) (tE M H0 W T (.dct ks cs)) := PE.imp (pe_disp h hall hl h0 h15) fun _ _ _ h => i_dct hn h
/-! ### built-ins -/
theorem k_blt {id : String} {x : Str} (hc : CallR X (.builtin id) (rON M (opD o))) (hm : X.mg x = none) (ha : PA X (e :: es) (tA M H0 W T cs)) (hg : Gl X x := by rfl) (hv : bootBuiltins x = some (.builtin id) := by rfl) (hn : x ≠ "__name__" := by decide) (hdb : (x == ("__debug__" : Str)) = false := by decide)
    (he : starEach (e :: es) X.env = (false, eval e X.env) :: starEach es X.env := by rfl) (hpl : (backTo pos (starEach es X.env)).any (·.1) = false := by rfl) : PE X (.Call (.Name x p) (e :: es) [] pos) (tE M H0 W T (.op o cs)) :=
  PE.imp (pe_callB hc hg hm hv ha hn hdb he hpl) fun _ _ _ h => i_opN h
theorem k_typ {id : String} {x : Str} (hc : CallR X (.type id) (rON M (opD o))) (hm : X.mg x = none) (ha : PA X (e :: es) (tA M H0 W T cs)) (hg : Gl X x := by rfl) (hv : bootBuiltins x = some (.type id) := by rfl) (hn : x ≠ "__name__" := by decide) (hdb : (x == ("__debug__" : Str)) = false := by decide)
    (he : starEach (e :: es) X.env = (false, eval e X.env) :: starEach es X.env := by rfl) (hpl : (backTo pos (starEach es X.env)).any (·.1) = false := by rfl) : PE X (.Call (.Name x p) (e :: es) [] pos) (tE M H0 W T (.op o cs)) :=
  PE.imp (pe_callTy hc hg hm hv ha hn hdb he hpl) fun _ _ _ h => i_opN h
end
end PV

set_option Elab.async false
set_option linter.all false
set_option maxRecDepth 100000
set_option maxHeartbeats 1000000
/-! PvS: the rules of the text: subscripts, slices, fields, calls, objects, blocks. -/
namespace PV
open PySem L2
section
variable {X : Cx} {M : Nm} {H0 : Hp} {W : WX} {T : Tb} {a b c e : Expr} {es rest : List Expr} {ca cb cc ce : CE} {cs : CEs} {pos p p2 p3 : Pos} {o o' : Op}
theorem k_sub (k : Ok X M) (ha : PE X a (tE M H0 W T ca)) (hb : PE X b (tE M H0 W T cb)) (hs : PlainIx b := by intro _ _; rfl) : PE X (.Subscript a b pos) (tE M H0 W T (.op .idx (.cons ca (.cons cb .nil)))) :=
  PE.imp (pe_ix (r_idx k.hk k.u1) ha hb hs) fun _ _ _ h => i_op2 h
/-! ### slices -/
/-- a bound's reading -/
structure PB (M : Nm) (H0 : Hp) (W : WX) (T : Tb) (c : CE) (t : TO) : Prop where
  go : ∀ F H σ ρ Q, Rel M H0 F H σ ρ → Post M H0 W F H σ ρ (fun _ _ _ (x : Option Int) y => x = y) (if absent c then .ok none ρ else (ev T c ρ).bind partOf) Q → t σ H Q
theorem pb_none : PB M H0 W T (.cst .non) tNoPart := ⟨fun F H σ ρ Q R p => p none F H R (Stp.refl _ _ _) (ES.refl _) rfl⟩
theorem pb_some (h : absent ce = false) : PB M H0 W T ce (tPart (tE M H0 W T ce)) := ⟨fun F H σ ρ Q R p => by
  rw [h, if_neg (by decide)] at p
  refine ⟨F, ρ, R, Post.bind p fun v ρ1 x F1 H1 R1 S1 E1 V1 p1 => ?_⟩
  cases v with
  | f d =>
    cases d with
    | int i =>
      have e : x = .int i := V1.1
      exact ⟨i, e, p1 (some i) F1 H1 R1 S1 E1 rfl⟩
    | _ => exact p1.elim
  | _ => exact p1.elim⟩
theorem i_sl {lo hi : CE} {tl th : TO} (hl : PB M H0 W T lo tl) (hh : PB M H0 W T hi th) {σ : L2.St} {H : Hp} {Q : VK} (h : tE M H0 W T (.sli ce lo hi) σ H Q) : tSl (rSl M) (tE M H0 W T ce) tl th σ H Q := by
  obtain ⟨F, ρ, R, p⟩ := h
  simp only [ev] at p
  refine ⟨F, ρ, R, Post.bind p fun v ρ1 x F1 H1 R1 S1 E1 V1 p1 => ?_⟩
  refine hl.go F1 H1 σ ρ1 _ R1 ?_
  refine Post.bind (Post.shift (VR' := VR1 M H σ) p1 S1 E1 fun _ _ _ _ _ _ _ z => z) fun l ρ2 l' F2 H2 R2 S2 E2 V2 p2 => ?_
  subst V2
  refine hh.go F2 H2 σ ρ2 _ R2 ?_
  refine Post.bind (Post.shift (VR' := VR1 M H σ) p2 S2 E2 fun _ _ _ _ _ _ _ z => z) fun u ρ3 u' F3 H3 R3 S3 E3 V3 p3 => ?_
  subst V3
  have vx := (V1.1.step S2 E2).step S3 E3
  cases q : rd ρ3 v with
  | none => rw [q] at p3; exact p3.elim
  | some d =>
    rw [q] at p3
    simp only [Option.bind] at p3
    cases g : sliD l u d with
    | none => rw [g] at p3; exact p3.elim
    | some r =>
      rw [g] at p3
      refine ⟨F3, d, r, R3.sub, VOk.rt R3 vx q, ?_, fun w F4 H4 z => ?_⟩
      · cases d <;> exact g
      · obtain ⟨R4, S4, v4, n4⟩ := OpPost.rel R3 z
        exact p3 w F4 H4 R4 (S3.trans S4) E3 ⟨v4, VNew.back (S1.trans (S2.trans S3)) n4⟩
theorem k_sl (k : Ok X M) {lo hi : Option Expr} {cl ch : CE} {tl th : TO} (he : PE X e (tE M H0 W T ce)) (pl : PB M H0 W T cl tl) (ph : PB M H0 W T ch th) (hl : PO X lo tl) (hh : PO X hi th) : PE X (.Subscript e (.Slice lo hi none p2) pos) (tE M H0 W T (.sli ce cl ch)) :=
  PE.imp (pe_slice (r_sl k.hk) he hl hh) fun _ _ _ h => i_sl pl ph h
theorem k_rev (k : Ok X M) {j : Nat} {q1 q2 q3 : Pos} (he : PE X e (tE M H0 W T ce)) : PE X (.Subscript e (.Slice none none (some (.UnaryOp .USub (.Constant (.int 1) j q1) q2)) q3) pos) (tE M H0 W T (.op .rev (.cons ce .nil))) := by
  refine PE.imp (pe_revL he) fun σ H Q h => ?_
  refine tE_mono (i_op1 h) fun v H' ⟨F, d, r, le, h1, h3, h4⟩ => ?_
  cases d with
  | lst xs =>
    cases h3
    obtain ⟨l, vs, rfl, g1, g2⟩ := h1.lst le
    exact ⟨l, vs, rfl, k.hk ▸ g1, fun q hq => q_n h4 hq g2.reverse⟩
  | _ => cases h3
/-! ### fields -/
theorem k_fld (k : Ok X M) (kt : Kt M T) {f : Str} {n : Nat} (he : PE X e (tE M H0 W T ce)) (hf : M.an n = f := by rfl) (hb : attributeBase e f X.env (eval e X.env) = eval e X.env := by rfl) : PE X (.Attribute e f pos) (tE M H0 W T (.fld n ce)) := by
  subst hf
  refine PE.imp (pe_fld he hb) fun σ H Q h => ?_
  rw [k.hk]; exact i_fld kt h
/-! ### isinstance -/
theorem isi_go {g : D → R1} {t2 : TE} {w : V} (ht : ∀ σ H Q, Q w H → t2 σ H Q) {Q : VK} {σ : L2.St} {H : Hp} (hg : ∀ d, opD o [d] = g d) (h : tE M H0 W T (.op o (.cons ce .nil)) σ H Q) :
    tCB (fun xs H Q => ∃ x, xs = [x, w] ∧ rO1 M g x H Q) (tCons (tE M H0 W T ce) (tCons t2 tNil)) σ H Q := by
  refine tE_mono (i_op1 h) fun v H' z => ht _ _ _ ⟨v, rfl, ?_⟩
  rwa [show (fun d => opD o [d]) = g from funext hg] at z
theorem k_isi {Tn : String} {x : Str} {pr : D → Bool} (hp : ∀ d n, tyN d = some n → kitB n Tn = some (pr d)) (ho : ∀ d, opD o [d] = oTy pr d) (hm : X.mg "isinstance" = none) (hmT : X.mg x = none) (hvT : bootBuiltins x = some (.type Tn)) (he : PE X e (tE M H0 W T ce))
    (hg : Gl X "isinstance" := by rfl) (hgT : Gl X x := by rfl) (hn : x ≠ "__name__" := by decide) (hdb : (x == ("__debug__" : Str)) = false := by decide)
    (hs1 : starEach [e, .Name x p2] X.env = (false, eval e X.env) :: starEach [.Name x p2] X.env := by rfl) (hpl : (backTo pos (starEach [.Name x p2] X.env)).any (·.1) = false := by rfl) :
    PE X (.Call (.Name "isinstance" p) [e, .Name x p2] [] pos) (tE M H0 W T (.op o (.cons ce .nil))) :=
  PE.imp (pe_callB (c_isi (M := M) hp) hg hm (by rfl) (pa_cons he (pa_cons (pe_bltn (v := .ty Tn) hgT hmT hvT rfl hn hdb) pa_nil) hs1) (by decide) (by decide) hs1 hpl) fun σ H Q h => isi_go (fun _ _ _ q => q) ho h
theorem k_isiC {C : Nat} {x : Str} (ic : IsC X.K (M.cl C)) (hm : X.mg "isinstance" = none) (hmC : X.mg x = some (.ref (M.cl C))) (he : PE X e (tE M H0 W T ce))
    (hg : Gl X "isinstance" := by rfl) (hgC : Gl X x := by rfl) (hdb : (x == ("__debug__" : Str)) = false := by decide)
    (hs1 : starEach [e, .Name x p2] X.env = (false, eval e X.env) :: starEach [.Name x p2] X.env := by rfl) (hpl : (backTo pos (starEach [.Name x p2] X.env)).any (·.1) = false := by rfl) :
    PE X (.Call (.Name "isinstance" p) [e, .Name x p2] [] pos) (tE M H0 W T (.op (.isObj C) (.cons ce .nil))) :=
  PE.imp (pe_callB (c_isiC (M := M) ic) hg hm (by rfl) (pa_cons he (pa_cons (pe_glob (v := .ref (M.cl C)) hgC hmC rfl hdb) pa_nil) hs1) (by decide) (by decide) hs1 hpl) fun σ H Q h => isi_go (fun _ _ _ q => q) (fun _ => rfl) h
end
end PV

set_option Elab.async false
set_option linter.all false
set_option maxRecDepth 100000
set_option maxHeartbeats 1000000
/-! PvT: the rules of the text: calls, objects, comprehensions. No exception leaves (CX0, WN). -/
namespace PV
open PySem L2
/-- the promise without exceptions -/
def sp0 (M : Nm) (φ : List Slot → FOut) : Sp := fun vs H Q _ => spOf M φ vs H Q L2.E0
/-- a def (or method) keeps the promise φ -/
structure Keeps (P : Program) (w : World) (K : PySem.W.Frag) (mg : Str → Option Value) (base : Heap) (M : Nm) (φ : List Slot → FOut) (k : Nat) (f : Addr) : Prop where
  ex : ∃ fd ps, FnOk P w K mg base L2.CX0 k f fd ps (sp0 M φ) ∧ Binds K fd ps []
  kp : PySem.W.keepIn K (.ref f) = true
section
variable {X : Cx} {M : Nm} {H0 : Hp} {T : Tb} {a b c e elt tg iter : Expr} {es rest : List Expr} {ca cb cc ce : CE} {cs : CEs} {pos p p2 p3 spos py : Pos} {o o' : Op}
abbrev KX (X : Cx) (M : Nm) (φ : List Slot → FOut) (k : Nat) (f : Addr) : Prop := Keeps X.prog X.w X.K X.mg X.base M φ k f
theorem wn_e0 : ∀ (c : Value) (d : Option Addr) (σ : L2.St) (H : Hp), WN c d σ H → L2.E0 c d H := fun _ _ _ _ h => h
theorem wn_unl {HX : Hp} : ∀ (cls : Value) (d : Option Addr) (σ : L2.St) (H H' : Hp), Unl HX H H' → WN cls d σ H' → WN cls d σ H := fun _ _ _ _ _ _ h => h
theorem k_call {x : Str} {f : Addr} {fc k : Nat} {keep : List Bool} (F : KX X M (T.fn fc) k f) (hm : X.mg x = some (.ref f)) (hr : Room k X.A) (ha : PA X (e :: es) (tA M H0 WN T cs)) (hg : Gl X x := by rfl)
    (hdb : (x == ("__debug__" : Str)) = false := by decide) (he : starEach (e :: es) X.env = (false, eval e X.env) :: starEach es X.env := by rfl) (hpl : (backTo pos (starEach es X.env)).any (·.1) = false := by rfl) :
    PE X (.Call (.Name x p) (e :: es) [] pos) (tE M H0 WN T (.call fc keep cs)) := by
  obtain ⟨fd, ps, Fn, hb⟩ := F.ex
  exact PE.imp (pe_call Fn hr hg hm F.kp hb .nil pass0 ha hdb he hpl) fun _ _ _ h => i_call wn_e0 h
theorem k_call0 {x : Str} {f : Addr} {fc k : Nat} {keep : List Bool} (F : KX X M (T.fn fc) k f) (hm : X.mg x = some (.ref f)) (hr : Room k X.A) (hg : Gl X x := by rfl) (hdb : (x == ("__debug__" : Str)) = false := by decide) :
    PE X (.Call (.Name x p) [] [] pos) (tE M H0 WN T (.call fc keep .nil)) := by
  obtain ⟨fd, ps, Fn, hb⟩ := F.ex
  exact PE.imp (pe_call0 Fn hr hg hm F.kp hb .nil pass0 hdb) fun _ _ _ h => i_call0 wn_e0 h
theorem k_new {x : Str} {f : Addr} {C fc k : Nat} {keep : List Bool} (mk : Mk X.K (M.cl C) f) (F : KX X M (T.fn fc) k f) (hf : T.mt C mInit = some fc) (hm : X.mg x = some (.ref (M.cl C))) (hr : Room (k + 1) X.A) (ha : PA X (e :: es) (tA M H0 WN T cs)) (hg : Gl X x := by rfl)
    (hdb : (x == ("__debug__" : Str)) = false := by decide) (he : starEach (e :: es) X.env = (false, eval e X.env) :: starEach es X.env := by rfl) (hpl : (backTo pos (starEach es X.env)).any (·.1) = false := by rfl) :
    PE X (.Call (.Name x p) (e :: es) [] pos) (tE M H0 WN T (.new C keep cs)) := by
  obtain ⟨fd, ps, Fn, hb⟩ := F.ex
  exact PE.imp (pe_make mk Fn hr hg hm hb .nil pass0 ha hdb he hpl) fun _ _ _ h => i_new wn_e0 hf h
/-- e.x, a property of the one class that has the name -/
theorem k_prop {x : Str} {pa g : Addr} {Cn m fc k : Nat} (cl : Cls X.K (M.cl Cn)) (hp : PropOf X.K (M.cl Cn) x pa g) (F : KX X M (T.fn fc) k g) (only : ∀ B f, T.mt B m = some f → B = Cn ∧ f = fc) (hr : Room (k + 1) X.A) (he : PE X e (tE M H0 WN T ce))
    (hab : attributeBase e x X.env (eval e X.env) = eval e X.env := by rfl) : PE X (.Attribute e x pos) (tE M H0 WN T (.prp m ce)) := by
  obtain ⟨fd, ps, Fn, hb⟩ := F.ex
  refine PE.imp (pe_prop he cl hp Fn hr hb .nil pass0 hab) fun σ H Q h => ?_
  refine tE_mono (i_prp h) fun v H' ⟨B, f, a, dx, fs, g1, g2, g3, g4⟩ => ?_
  obtain ⟨rfl, rfl⟩ := only B f g1
  exact ⟨a, dx, fs, g2, g3, g4⟩
/-! ### comprehensions -/
theorem Ok.blk (k : Ok X M) {s : Shared} {H : Hp} {scope : Scope} {env : PySem.Env} {fp : List Addr} : Ok (X.blk s H scope env fp) M := ⟨k.hk, k.hc, k.hu, k.hN⟩
theorem kt_nil : PTs X [] (tT M H0 WN T (.cst (.bl true))) := ⟨fun pins s σ H Q I h => (pts_nil (X := X)).run pins s σ H Q I (by
  obtain ⟨F, ρ, R, p⟩ := h
  exact p true F H R (Stp.refl _ _ _) (ES.refl _) rfl)⟩
theorem kt_one (h : PT X c (tT M H0 WN T cc)) : PTs X [c] (tT M H0 WN T cc) := pts_one h
theorem k_lc (k : Ok X M) {ifs : List Expr} {scope : Scope} {own : List (Str × Nat)} {t : CT} {it : CI} (hi : PI X tg iter (tI M H0 WN T X.H_0 it)) (ok : BlkOk X.N X.env.scope scope own) (hj : ∀ j ∈ t.slots, j ∈ own.map (·.2))
    (hg : ∀ (s : Shared) (H : Hp) (C : Addr) (cl : List (Str × Addr)) (fp : List Addr), PG (X.blk s H scope (compEnvC scope cl C X.env) fp) tg (tG M H0 t)) (ht : ∀ (s : Shared) (H : Hp) (C : Addr) (cl : List (Str × Addr)) (fp : List Addr), PTs (X.blk s H scope (compEnvC scope cl C X.env) fp) ifs (tT M H0 WN T cc))
    (he : ∀ (s : Shared) (H : Hp) (C : Addr) (cl : List (Str × Addr)) (fp : List Addr), PE (X.blk s H scope (compEnvC scope cl C X.env) fp) elt (tE M H0 WN T ce)) (hs : ∀ x, foldedSetIterable iter X.env x = pure x := by intro _; rfl) :
    PE X (.ListComp elt [⟨tg, iter, ifs, 0⟩] scope pos) (tE M H0 WN T (.lc ce t it cc (own.map (·.2)))) :=
  PE.imp (pe_unl (pe_lc k.hc k.hN hi ok hg ht he hs)) fun _ _ _ h => i_lc hj wn_unl h
theorem k_dc (k : Ok X M) {kx vx : Expr} {ck : CE} {ifs : List Expr} {scope : Scope} {own : List (Str × Nat)} {t : CT} {it : CI} (hi : PI X tg iter (tI M H0 WN T X.H_0 it)) (ok : BlkOk X.N X.env.scope scope own) (hj : ∀ j ∈ t.slots, j ∈ own.map (·.2))
    (hg : ∀ (s : Shared) (H : Hp) (C : Addr) (cl : List (Str × Addr)) (fp : List Addr), PG (X.blk s H scope (compEnvC scope cl C X.env) fp) tg (tG M H0 t)) (ht : ∀ (s : Shared) (H : Hp) (C : Addr) (cl : List (Str × Addr)) (fp : List Addr), PTs (X.blk s H scope (compEnvC scope cl C X.env) fp) ifs (tT M H0 WN T cc))
    (hk : ∀ (s : Shared) (H : Hp) (C : Addr) (cl : List (Str × Addr)) (fp : List Addr), PE (X.blk s H scope (compEnvC scope cl C X.env) fp) kx (tE M H0 WN T ck))
    (he : ∀ (s : Shared) (H : Hp) (C : Addr) (cl : List (Str × Addr)) (fp : List Addr), PE (X.blk s H scope (compEnvC scope cl C X.env) fp) vx (tE M H0 WN T ce)) (hs : ∀ x, foldedSetIterable iter X.env x = pure x := by intro _; rfl) :
    PE X (.DictComp kx vx [⟨tg, iter, ifs, 0⟩] scope pos) (tE M H0 WN T (.dc ck ce t it cc (own.map (·.2)))) :=
  PE.imp (pe_unl (pe_dc k.hc k.hN hi ok hg ht hk he hs)) fun _ _ _ h => i_dc hj wn_unl h
/-! ### targets -/
theorem g_nm (k : Ok X M) {i : Nat} {x : Str} (hi : X.N[i]? = some x) (hx : Loc X.env.scope x) (hf : X.fn x = true ∨ X.env.scope.names.lookup x = some .local) : PG X (.Name x pos) (tG M H0 (.nm i)) :=
  ⟨fun pins s σ H v u Q I r h => (pg_name k.hN hi hx hf).run pins s σ H v u Q I r (i_nm h)⟩
end
end PV

set_option Elab.async false
set_option linter.all false
set_option maxRecDepth 100000
set_option maxHeartbeats 1000000
/-! PvU: the rules of the text: statements. -/
namespace PV
open PySem L2
section
variable {X : Cx} {M : Nm} {H0 : Hp} {T : Tb} {a b c e elt tg iter : Expr} {es rest : List Expr} {ca cb cc ce : CE} {cs : CEs} {pos p p2 p3 spos py : Pos} {o o' : Op}
theorem gn_nil : PGs X [] (gNames []) := pgs_nil
theorem gn_cons (k : Ok X M) {i : Nat} {x : Str} {is : List Nat} (hi : X.N[i]? = some x) (hx : Loc X.env.scope x) (hf : X.fn x = true ∨ X.env.scope.names.lookup x = some .local) (h : PGs X es (gNames is))
    (hs : (assignEach (.Name x p :: es) X.env).map (·.2) = assign (.Name x p) X.env :: (assignEach es X.env).map (·.2) := by rfl) : PGs X (.Name x p :: es) (gNames (i :: is)) := pgs_cons (pg_name k.hN hi hx hf) h hs
theorem g_tp (k : Ok X M) {j : Nat} {is : List Nat} (h : PGs X es (gNames is)) (hn : (assignEach es X.env).length = is.length := by rfl) (hst : (assignEach es X.env).findIdx? (·.1) = none := by rfl) : PG X (.Tuple es j pos) (tG M H0 (.tp is)) :=
  ⟨fun pins s σ H v u Q I r q => (pg_tup k.hc h hn hst).run pins s σ H v u Q I r (by rw [k.hk]; exact i_tp q)⟩
theorem ss_nil : PSs X [] (tSs M H0 WN T .nil) := PSs.imp pss_nil fun _ _ _ h => i_snil h
theorem ss_cons {st : Stmt} {sts : List Stmt} {c1 : CS} {c2 : CSs} (h1 : PS X st (tS M H0 WN T c1)) (h2 : PSs X sts (tSs M H0 WN T c2)) : PSs X (st :: sts) (tSs M H0 WN T (.cons c1 c2)) := PSs.imp (pss_cons h1 h2) fun _ _ _ h => i_seq h
theorem s_asg (k : Ok X M) {i : Nat} {x : Str} {own : Bool} (hi : X.N[i]? = some x) (hx : Loc X.env.scope x) (he : PE X e (tE M H0 WN T ce)) (hf : X.fn x = true ∨ X.env.scope.names.lookup x = some .local) (hs : swapsWith e (some (.Name x p)) pos.line X.env = pure false := by rfl) :
    PS X (.Assign [.Name x p] e pos) (tS M H0 WN T (.asg (.nm i) own ce)) := PS.imp (ps_set k.hN hi hx he hs hf) fun _ _ _ h => i_asg h
theorem s_asgT (k : Ok X M) {t : CT} {own : Bool} (ht : ∀ i, t ≠ .nm i) (he : PE X e (tE M H0 WN T ce)) (hg : PG X tg (tG M H0 t)) (hs : swapsWithSole [tg] e pos.line X.env = pure false := by rfl) (hw : swappedStores [tg] e X.env = pure none := by rfl)
    (h1 : (assignEach [tg] X.env).map (·.2) = [assign tg X.env] := by rfl) : PS X (.Assign [tg] e pos) (tS M H0 WN T (.asg t own ce)) := PS.imp (ps_asg he hg hs hw h1) fun _ _ _ h => i_asgT ht h
theorem s_ret (he : PE X e (tE M H0 WN T ce)) : PS X (.Return (some e) pos) (tS M H0 WN T (.ret ce)) := PS.imp (ps_ret he) fun _ _ _ h => i_ret h
theorem s_retN : PS X (.Return none pos) (tS M H0 WN T .retN) := PS.imp ps_retN fun _ _ _ h => i_retN h
theorem s_exp (he : PE X e (tE M H0 WN T ce)) (hs : swapsWith e none pos.line X.env = pure false := by rfl) : PS X (.Expr e pos) (tS M H0 WN T (.exp ce)) := PS.imp (ps_expr he hs) fun _ _ _ h => i_exp h
theorem s_pass : PS X (.Pass pos) (tS M H0 WN T .pass) := PS.imp ps_pass fun _ _ _ h => i_pass h
theorem s_brk : PS X (.Break pos) (tS M H0 WN T .brk) := PS.imp ps_break fun _ _ _ h => i_brk h
theorem s_cnt : PS X (.Continue pos) (tS M H0 WN T .cnt) := PS.imp ps_continue fun _ _ _ h => i_cnt h
theorem s_wall {st : Stmt} : PS X st (tS M H0 WN T .wall) := PS.imp ps_never fun D σ H h => by
  obtain ⟨F, ρ, R, q⟩ := h
  exact q
theorem s_if {p q : List Stmt} {c1 c2 : CSs} (hc : PT X c (tT M H0 WN T cc)) (ha : PSs X p (tSs M H0 WN T c1)) (hb : PSs X q (tSs M H0 WN T c2)) : PS X (.If c p q pos) (tS M H0 WN T (.ifs cc c1 c2)) := PS.imp (ps_if hc ha hb) fun _ _ _ h => i_ifs h
theorem s_for (k : Ok X M) {body : List Stmt} {t : CT} {it : CI} {c1 : CSs} (hp : PassesOwn (model X.prog X.w) X.A X.env X.xe) (hi : PI X tg iter (tI M H0 WN T X.H_0 it)) (hg : PG X tg (tG M H0 t)) (hb : PSs X body (tSs M H0 WN T c1))
    (hs : ∀ x, foldedSetIterable iter X.env x = pure x := by intro _; rfl) : PS X (.For tg iter body [] pos) (tS M H0 WN T (.fors t it c1)) := PS.imp (ps_unl (ps_for hp k.hc hi hg hb hs)) fun _ _ _ h => i_fors wn_unl h
theorem s_whl {body : List Stmt} {c1 : CSs} (hp : PassesOwn (model X.prog X.w) X.A X.env X.xe) (hc : PT X c (tT M H0 WN T cc)) (hb : PSs X body (tSs M H0 WN T c1)) : PS X (.While c body [] pos) (tS M H0 WN T (.whl cc c1)) := PS.imp (ps_while hp hc hb) fun _ _ _ h => i_whl h
/-! ### stores into objects -/
theorem s_sub (k : Ok X M) {i : Nat} {d ix : Expr} {ck : CE} (hd : PE X d (tVar i)) (hk : PE X ix (tE M H0 WN T ck)) (he : PE X e (tE M H0 WN T ce))
    (ha : ∀ v, assign (.Subscript d ix p) X.env v = (do
      let ov ← holding [v] (eval d X.env)
      let iv ← holding [v, ov] (eval ix X.env)
      standAt p
      holding [v, ov, iv] (setItem ov iv v)
      release [v, ov, iv] []) := by intro _; rfl)
    (hs : swapsWithSole [.Subscript d ix p] e pos.line X.env = pure false := by rfl) (hw : swappedStores [.Subscript d ix p] e X.env = pure none := by rfl) (h1 : (assignEach [.Subscript d ix p] X.env).map (·.2) = [assign (.Subscript d ix p) X.env] := by rfl) :
    PS X (.Assign [.Subscript d ix p] e pos) (tS M H0 WN T (.sset i ck ce)) := PS.imp (ps_asg he (pg_sub hd hk (r_set k.u1) ha) hs hw h1) fun _ _ _ h => i_sset h
theorem s_fld (k : Ok X M) (kt : Kt M T) {i n : Nat} {d : Expr} {f : Str} (hd : PE X d (tVar i)) (he : PE X e (tE M H0 WN T ce)) (hf : M.an n = f := by rfl) (hs : swapsWith e (some (.Attribute d f p)) pos.line X.env = pure false := by rfl) :
    PS X (.Assign [.Attribute d f p] e pos) (tS M H0 WN T (.fset i n ce)) := by
  subst hf
  refine PS.imp (ps_fld hd he hs) fun D σ H h => ?_
  rw [k.hk]; exact i_fset kt h
/-- l.append(x), l.pop(i).. of a list in a slot -/
theorem k_mut (k : Ok X M) {i : Nat} {d : Expr} {m : Str} {id : String} {mo : MOp} (slot : PySem.Slot "list" m id) (hty : typeOf (.builtin id) = pure (.type "method_descriptor")) (hm : MtM X id (rMut M mo)) (hd : PE X d (tVar i)) (ha : PA X (e :: es) (tA M H0 WN T cs))
    (hbase : attributeBase d m X.env (eval d X.env) = eval d X.env := by rfl)
    (hfew : ((backTo pos (starEach (e :: es) X.env)).all (fun x => !x.1) && (backToKw pos (keywordEach [] X.env)).all (fun x => x.1.isSome)
      && decide ((e :: es).length + ([] : List Keyword).length + (if ([] : List Keyword).isEmpty then 0 else 1) < 30)) = true := by rfl)
    (hline : (p.endLine == pos.line) = true := by rfl) (hs : starEach (e :: es) X.env = (false, eval e X.env) :: starEach es X.env := by rfl) (hplain : (backTo pos (starEach es X.env)).any (·.1) = false := by rfl) :
    PE X (.Call (.Attribute d m p) (e :: es) [] pos) (tE M H0 WN T (.mut mo i cs)) := PE.imp (pe_bm PySem.F.plainAttrs_list slot hty hm hd ha hbase hfew hline hs hplain) fun _ _ _ h => by rw [k.hk]; exact i_mut h
theorem k_mut0 (k : Ok X M) {i : Nat} {d : Expr} {m : Str} {id : String} {mo : MOp} (slot : PySem.Slot "list" m id) (hty : typeOf (.builtin id) = pure (.type "method_descriptor")) (hm : MtM X id (rMut M mo)) (hd : PE X d (tVar i))
    (hbase : attributeBase d m X.env (eval d X.env) = eval d X.env := by rfl) (hline : (p.endLine == pos.line) = true := by rfl) :
    PE X (.Call (.Attribute d m p) [] [] pos) (tE M H0 WN T (.mut mo i .nil)) := PE.imp (pe_bm0 PySem.F.plainAttrs_list slot hty hm hd hbase hline) fun σ H Q h => by
  obtain ⟨v, e, t, q⟩ := i_mut h
  rw [k.hk]
  exact ⟨v, e, t, i_nil q⟩
/-! ### x op= e -/
theorem q_aug {op : Operator} {g : Int → Int → Int} (k : OpR X (inplaceOp op) (rI0 fun i j => .int (g i j))) (hg : ∀ i j, opD o [.int i, .int j] = fD (.int (g i j))) : PIp X op (rO2 M (opAug o)) := by
  rintro pins s σ H x y v u Q I rx ry ⟨F, d, e, r, le, h1, h2, h3, h4⟩
  unfold opAug at h3
  split at h3
  · rw [hg] at h3
    cases h3
    cases h1.int; cases h2.int
    exact k pins s σ H _ _ v u Q I rx ry ⟨_, _, rfl, rfl, q_f h4 rfl⟩
  · cases h3
theorem q_add : PIp X .Add (rO2 M (opAug .add)) := q_aug iop_add fun _ _ => rfl
theorem q_sub : PIp X .Sub (rO2 M (opAug .sub)) := q_aug iop_sub fun _ _ => rfl
theorem s_aug (k : Ok X M) {i : Nat} {x : Str} {op : Operator} (hi : X.N[i]? = some x) (hx : Loc X.env.scope x) (he : PE X e (tE M H0 WN T ce)) (ho : PIp X op (rO2 M (opAug o))) (hf : X.fn x = true ∨ X.env.scope.names.lookup x = some .local) :
    PS X (.AugAssign (.Name x p) op e pos) (tS M H0 WN T (.aug i o ce)) := PS.imp (ps_aug k.hN hi hx he ho hf) fun _ _ _ h => i_aug h
/-! ### a, b = x, y -/
theorem s_par2 (k : Ok X M) {i j : Nat} {x y : Str} {px py pt : Pos} {kt k2 : Nat} {pt2 : Pos} {owns : List Bool} (hi : X.N[i]? = some x) (hj : X.N[j]? = some y) (hij : i ≠ j) (hx : X.env.scope.names.lookup x = some .local) (hy : X.env.scope.names.lookup y = some .local) (ha : PA X [a, b] (tA M H0 WN T cs))
    (hw : swappedStores [.Tuple [.Name x px, .Name y py] kt pt] (.Tuple [a, b] k2 pt2) X.env = pure (some [x, y]) := by rfl) (hs : swapsWithSole [.Tuple [.Name x px, .Name y py] kt pt] (.Tuple [a, b] k2 pt2) pos.line X.env = pure false := by rfl) :
    PS X (.Assign [.Tuple [.Name x px, .Name y py] kt pt] (.Tuple [a, b] k2 pt2) pos) (tS M H0 WN T (.par [i, j] owns cs)) := PS.imp (ps_par k.hc k.hN hi hj hij hx hy ha hw hs) fun _ _ _ h => i_par2 h
end
end PV

set_option Elab.async false
set_option linter.all false
set_option maxRecDepth 100000
set_option maxHeartbeats 1000000
/-! PvV: a def's body keeps its promise. -/
namespace PV
open PySem L2
section
variable {M : Nm} {F H : Hp} {vs : List V} {as : List Slot}
theorem inS_at {as : List Slot} {n i : Nat} : slotAt (as.map inS ++ List.replicate n .no) i = if i < as.length then inS (as.getD i .no) else .no := by
  unfold slotAt
  rw [List.getD_eq_getElem?_getD, List.getElem?_append]
  by_cases h : i < as.length
  · simp [h, List.getD_eq_getElem?_getD]
  · rw [if_neg h]
    simp only [List.length_map, h, if_false]
    rw [List.getElem?_replicate]
    split <;> rfl
theorem start_at {N : List Str} {i : Nat} : (L2.start N vs)[i]? = if i < vs.length then (vs[i]?).map some else if i < N.length then some none else none := by
  unfold L2.start
  rw [List.getElem?_append]
  by_cases h : i < vs.length
  · simp [h]
  · simp only [List.length_map, h, if_false]
    rw [List.getElem?_replicate]
    by_cases g : i < N.length
    · rw [if_pos (by omega), if_pos g]
    · rw [if_neg (by omega), if_neg g]
theorem in_slot {n i : Nat} {s : Slot} (h : slotAt (as.map inS ++ List.replicate n .no) i = s) (ns : s ≠ .no) : ∃ a, as[i]? = some a ∧ inS a = s := by
  rw [inS_at] at h
  by_cases q : i < as.length
  · rw [if_pos q] at h
    refine ⟨as[i], List.getElem?_eq_getElem q, ?_⟩
    rw [← h, List.getD_eq_getElem?_getD, List.getElem?_eq_getElem q]; rfl
  · rw [if_neg q] at h; exact absurd h.symm ns
theorem in_fz {a : Slot} {d : D} (h : inS a = .fz d) : a = .fz d := by cases a <;> cases h; rfl
theorem in_pw {a : Slot} {d : D} (h : inS a = .pw d) : a = .ow d ∨ a = .pw d := by cases a <;> cases h; exact .inl rfl; exact .inr rfl
theorem in_ow {a : Slot} {d : D} (h : inS a = .ow d) : False := by cases a <;> cases h
theorem st_some {N : List Str} (hl : vs.length = as.length) {i : Nat} {a : Slot} (h : as[i]? = some a) : ∃ v, vs[i]? = some v ∧ (L2.start N vs)[i]? = some (some v) := by
  have q : i < as.length := (List.getElem?_eq_some_iff.1 h).1
  have q' : i < vs.length := hl ▸ q
  refine ⟨vs[i], List.getElem?_eq_getElem q', ?_⟩
  rw [start_at, if_pos q', List.getElem?_eq_getElem q']; rfl
theorem own_in {n i : Nat} (h : IsOwn (slotAt (as.map inS ++ List.replicate n .no) i)) : ∃ d, slotAt (as.map inS ++ List.replicate n .no) i = .pw d ∧ (as[i]? = some (.ow d) ∨ as[i]? = some (.pw d)) := by
  cases q : slotAt (as.map inS ++ List.replicate n .no) i with
  | no => rw [q] at h; exact h.elim
  | fz d => rw [q] at h; exact h.elim
  | ow d => obtain ⟨a, _, e⟩ := in_slot q (by intro z; cases z); exact (in_ow e).elim
  | pw d =>
    obtain ⟨a, e1, e2⟩ := in_slot q (by intro z; cases z)
    rcases in_pw e2 with rfl | rfl
    · exact ⟨d, rfl, .inl e1⟩
    · exact ⟨d, rfl, .inr e1⟩
/-- the frame at the entry -/
theorem entry {N : List Str} (le : Le F H) (hl : vs.length = as.length) (hn : as.length ≤ N.length) (ha : ∀ (i : Nat) (v : V) (s : Slot), vs[i]? = some v → as[i]? = some s → ArgOk M F H v s) (hd : Dist vs as) :
    Rel M H F H (L2.start N vs) (as.map inS ++ List.replicate (N.length - as.length) .no) ∧ ∀ a, OA (as.map inS ++ List.replicate (N.length - as.length) .no) (L2.start N vs) a ↔ AO vs as a := by
  have ow : ∀ {i : Nat}, IsOwn (slotAt (as.map inS ++ List.replicate (N.length - as.length) .no) i) → ∃ d a o, as[i]? = some (.ow d) ∧ slotAt (as.map inS ++ List.replicate (N.length - as.length) .no) i = .pw d ∧ vs[i]? = some (.ref a) ∧ (L2.start N vs)[i]? = some (some (.ref a)) ∧ F a = none ∧ H a = some o ∧ RepTop M F d o := fun {i} h => by
    obtain ⟨d, e, e1 | e1⟩ := own_in h
    · obtain ⟨v, e2, e3⟩ := st_some (N := N) hl e1
      obtain ⟨a, o, rfl, h1, h2, h3⟩ := ha i v _ e2 e1
      exact ⟨d, a, o, e1, e, e2, e3, h1, h2, h3⟩
    · obtain ⟨v, e2, e3⟩ := st_some (N := N) hl e1
      exact (ha i v _ e2 e1).elim
  refine ⟨⟨le, ?_, fun i d z => ?_, fun i d z => ?_, fun i j a z w y y' => ?_, fun i d a z y => ?_, fun a z => z⟩, fun a => ⟨?_, ?_⟩⟩
  · unfold L2.start
    simp only [List.length_append, List.length_map, List.length_replicate]
    omega
  · obtain ⟨s, e1, e2⟩ := in_slot z (by intro z; cases z)
    cases in_fz e2
    obtain ⟨v, e2, e3⟩ := st_some (N := N) hl e1
    exact ⟨v, e3, ha i v _ e2 e1⟩
  · obtain ⟨d', a, o, h1, h2, h3, h4, h5, h6, h7⟩ := ow (i := i) (by rcases z with z | z <;> (rw [z]; exact True.intro))
    have : d' = d := by rcases z with z | z <;> (rw [h2] at z; cases z); rfl
    subst this
    exact ⟨a, o, h4, h5, h6, h7⟩
  · obtain ⟨d1, a1, _, g1, _, g3, g4, _⟩ := ow z
    obtain ⟨d2, a2, _, k1, _, k3, k4, _⟩ := ow w
    rw [g4] at y; cases y
    rw [k4] at y'; cases y'
    exact hd i j d1 d2 _ g1 k1 g3 k3
  · obtain ⟨s, _, e2⟩ := in_slot z (by intro z; cases z)
    exact (in_ow e2).elim
  · rintro ⟨i, h, e⟩
    obtain ⟨d, a', _, h1, _, h3, h4, _⟩ := ow h
    rw [h4] at e; cases e
    exact ⟨i, d, h1, h3⟩
  · rintro ⟨i, d, h1, h2⟩
    obtain ⟨v, e2, e3⟩ := st_some (N := N) hl h1
    rw [h2] at e2; cases e2
    refine ⟨i, ?_, e3⟩
    have q : i < as.length := (List.getElem?_eq_some_iff.1 h1).1
    rw [inS_at, if_pos q, List.getD_eq_getElem?_getD, h1]
    exact True.intro
theorem take_at {ρ : Env} {n i : Nat} {s : Slot} (hi : i < n) (h : slotAt ρ i = s) (ns : s ≠ .no) : ((ρ.take n).map outS)[i]? = some (outS s) := by
  have q : i < ρ.length := slotAt_lt (by rw [h]; exact ns)
  rw [List.getElem?_map, List.getElem?_take, if_pos hi, List.getElem?_eq_getElem q]
  unfold slotAt at h
  rw [List.getD_eq_getElem?_getD, List.getElem?_eq_getElem q] at h
  show some (outS ρ[i]) = _
  rw [show ρ[i] = s from h]
/-- the frame at the end -/
theorem leave {N : List Str} {F' H' : Hp} {σ' : L2.St} {ρ' : Env} (hl : vs.length = as.length) (oa : ∀ a, OA (as.map inS ++ List.replicate (N.length - as.length) .no) (L2.start N vs) a ↔ AO vs as a)
    (R : RelS M H F H (L2.start N vs) (as.map inS ++ List.replicate (N.length - as.length) .no) F' H' σ' ρ') : Le F' H' ∧ Stp F H (AO vs as) F' H' (AO vs as) ∧ OutOk M F' H' vs as ((ρ'.take as.length).map outS) := by
  obtain ⟨R, S, P⟩ := R
  refine ⟨R.sub, ⟨S.le, fun b o h n => S.fr b o h fun z => n ((oa b).1 z), S.dm, fun b h h' => (S.nw b h h').imp id (oa b).1, fun b h => .inl h⟩, fun i d h => ?_⟩
  have q : i < as.length := (List.getElem?_eq_some_iff.1 h).1
  have e0 : slotAt (as.map inS ++ List.replicate (N.length - as.length) .no) i = .pw d := by
    rw [inS_at, if_pos q, List.getD_eq_getElem?_getD, h]; rfl
  obtain ⟨⟨d', e1⟩, e2⟩ := P i d e0
  obtain ⟨v, e3, e4⟩ := st_some (N := N) hl h
  obtain ⟨a, o, g1, g2, g3, g4⟩ := R.ow i d' (.inr e1)
  rw [e2, e4] at g1
  cases g1
  exact ⟨d', a, o, take_at q e1 (by intro z; cases z), e3, g2, g3, g4⟩
theorem body_ok {T : Tb} {N : List Str} {b : CSs} {Q : VK} {np : Nat} (hn : np ≤ N.length) (hv : vs.length = np) (h : spOf M (run T N.length b) vs H Q L2.E0) : tSs M H WN T b { nx := fun _ H' => Q .non H', rt := Q } (L2.start N vs) H := by
  obtain ⟨F, as, le, hl, ha, hd, h⟩ := h
  obtain ⟨R, oa⟩ := entry (N := N) le hl (by omega) ha hd
  refine ⟨F, _, R, ?_⟩
  unfold run at h
  cases q : exs T b (as.map inS ++ List.replicate (N.length - as.length) .no) with
  | nx ρ' =>
    rw [q] at h
    intro σ' F' H' S
    obtain ⟨l1, s1, o1⟩ := leave hl oa S
    exact h .non F' H' l1 s1 o1 rfl
  | rt x ρ' =>
    rw [q] at h
    cases x with
    | f d =>
      intro σ' v F' H' S V N'
      obtain ⟨l1, s1, o1⟩ := leave hl oa S
      exact h v F' H' l1 s1 o1 V
    | n d =>
      intro σ' v F' H' S V N'
      obtain ⟨l1, s1, o1⟩ := leave hl oa S
      obtain ⟨a, o, rfl, g1, g2, g3, _⟩ := V
      exact h _ F' H' l1 s1 o1 ⟨a, o, rfl, N' d a rfl rfl, g1, g2, g3⟩
    | v i => exact h.elim
  | exc e ρ' =>
    rw [q] at h
    intro cls d σ' F' H' S x
    obtain ⟨l1, s1, o1⟩ := leave hl oa S
    exact h cls d F' H' l1 s1 o1 x
  | br ρ' => rw [q] at h; exact h.elim
  | ct ρ' => rw [q] at h; exact h.elim
  | bad => rw [q] at h; exact h.elim
theorem sp0_runF {P : Pg} {n fc np : Nat} {b : CSs} {N : List Str} {Q : VK} {E : XK} (hf : P.fd fc = some (.body np N.length b)) (h : sp0 M (runF P (n + 1) fc) vs H Q E) : vs.length = np ∧ spOf M (run ⟨runF P n, P.gl, P.mt, P.fl⟩ N.length b) vs H Q L2.E0 := by
  obtain ⟨F, as, le, hl, ha, hd, h⟩ := h
  simp only [runF, hf] at h
  by_cases z : as.length = np
  · rw [if_pos z] at h
    exact ⟨hl.trans z, F, as, le, hl, ha, hd, h⟩
  · rw [if_neg z] at h; exact h.elim
end
end PV

set_option Elab.async false
set_option linter.all false
set_option maxRecDepth 100000
set_option maxHeartbeats 1000000
/-! PvW: defs. -/
namespace PV
open PySem L2
section
variable {P : Program} {w : World} {K : PySem.W.Frag} {mg : Str → Option Value} {base : Heap} {M : Nm} {Pr : Pg} {x qual : Str} {st : Stmt} {f : Addr} {fd : FuncData} {N ps : List Str} {k fc np : Nat} {b : CSs}
/-- the context of a def's body -/
abbrev BX (P : Program) (w : World) (K : PySem.W.Frag) (mg : Str → Option Value) (base : Heap) (N : List Str) (qual : Str) (st : Stmt) (f : Addr) (cdv : Value) (A : Around) (outer : List PySem.Env) (s : Shared) (H : Hp) (E : XK) : Cx :=
  (cxOf L2.CX0 P w K mg base N qual (defScope st) f cdv A outer s H E).nox
abbrev tbl (Pr : Pg) (n : Nat) : Tb := ⟨runF Pr n, Pr.gl, Pr.mt, Pr.fl⟩
theorem keeps_zero (F : L2.Fun K x qual st f fd) (hb : Binds K fd ps []) : Keeps P w K mg base M (runF Pr 0 fc) k f :=
  ⟨⟨fd, ps, ⟨fun vs H Q E h => by obtain ⟨_, _, _, _, _, _, h⟩ := h; exact h.elim, fun A outer s H args us vs Q E _ _ _ _ h => by obtain ⟨_, _, _, _, _, _, h⟩ := h; exact h.elim⟩, hb⟩, F.kp⟩
theorem keeps_of {n : Nat} (F : L2.Fun K x qual st f fd) (S : FnScope N ps (defScope st)) (hb : Binds K fd ps []) (hK : M.K = K) (hf : Pr.fd fc = some (.body np N.length b)) (hps : ps.length = np) (hn : np ≤ N.length)
    (der : ∀ (cdv : Value) (A : Around) (outer : List PySem.Env) (s : Shared) (H : Hp) (E : XK), Ok (BX P w K mg base N qual st f cdv A outer s H E) M → Room k (BX P w K mg base N qual st f cdv A outer s H E).A →
      PSs (BX P w K mg base N qual st f cdv A outer s H E) (defBody st) (tSs M H WN (tbl Pr n) b)) : Keeps P w K mg base M (runF Pr (n + 1) fc) (k + 1) f := by
  refine ⟨⟨fd, ps, F.ok S (fun vs H Q E h => (sp0_runF hf h).1.trans hps.symm) (fun cdv A outer s H vs Q E hr h => ?_), hb⟩, F.kp⟩
  have ok : Ok (BX P w K mg base N qual st f cdv A outer s H E) M := ⟨hK.symm, rfl, hr.units, S.nd⟩
  obtain ⟨h1, h2⟩ := sp0_runF hf h
  exact ⟨_, der cdv A outer s H E ok hr, body_ok hn h1 h2⟩
/-- more room -/
theorem Keeps.mono {φ : List Slot → FOut} {j : Nat} (h : Keeps P w K mg base M φ j f) (l : j ≤ k) : Keeps P w K mg base M φ k f := by
  obtain ⟨⟨fd, ps, F, hb⟩, kp⟩ := h
  exact ⟨⟨fd, ps, F.mono l, hb⟩, kp⟩
end
end PV

set_option Elab.async false
set_option linter.all false
set_option maxRecDepth 100000
set_option maxHeartbeats 1000000
/-! PvX: a == b by an own __eq__. -/
namespace PV
open PySem L2
section
variable {M : Nm} {H0 : Hp} {T : Tb}
/-- == of two objects of the class -/
def rEqo (M : Nm) (T : Tb) : R2 := fun x y H Q => ∃ C f a b dx dy fs gs, T.mt C mEq = some f ∧ x = .ref a ∧ y = .ref b ∧ H a = some (.ins (M.cl C) dx fs) ∧ H b = some (.ins (M.cl C) dy gs) ∧ sp0 M (T.fn f) [.ref a, .ref b] H (fun v H' => ∃ k, v = .bl k ∧ Q (.bl k) H') L2.E0
theorem i_eqo {a b : CE} {σ : L2.St} {H : Hp} {Q : VK} (h : tE M H0 WN T (.eqo false a b) σ H Q) : tOp (rEqo M T) (tE M H0 WN T a) (tE M H0 WN T b) σ H Q := by
  obtain ⟨F, ρ, R, p⟩ := h
  simp only [ev] at p
  refine ⟨F, ρ, R, Post.bind p fun x ρ1 v F1 H1 R1 S1 E1 V1 p1 => ⟨F1, ρ1, R1, ?_⟩⟩
  refine Post.bind2 p1 S1 E1 fun y ρ2 w F2 H2 R2 S2 E2 V2 p2 => ?_
  have vx := V1.1.step S2 E2
  cases g1 : rd ρ2 x with
  | none => simp only [g1] at p2; exact p2.elim
  | some dx =>
    cases g2 : rd ρ2 y with
    | none => simp only [g1, g2] at p2; cases dx <;> exact p2.elim
    | some dy =>
      simp only [g1, g2] at p2
      cases dx with
      | obj C fs =>
        cases dy with
        | obj B gs =>
          simp only at p2
          split at p2
          · rename_i z
            obtain ⟨rfl, _⟩ := z
            cases g3 : T.mt B mEq with
            | none => rw [g3] at p2; exact p2.elim
            | some f =>
              rw [g3] at p2
              obtain ⟨a', dx, ws, rfl, h3, _⟩ := vx.ins R2 g1
              obtain ⟨b', dy, us, rfl, h4, _⟩ := V2.1.ins R2 g2
              refine ⟨B, f, a', b', dx, dy, ws, us, g3, rfl, rfl, h3, h4, ?_⟩
              refine call_fin (keep := []) (W := WN) (F := F) (H := H) (ρ := ρ) (xs := [x, y]) (fun _ _ _ _ z => z) R2 (S1.trans S2) (E1.trans E2) (two_ok V1.1 S2 E2 V2.1 V2.2) ⟨V1.2, V2.2.back S1, by unfold VsNew; trivial⟩ ?_
              refine Post.bind p2 fun u ρ3 v3 F3 H3 R3 S3 E3 V3 p3 => ?_
              cases u with
              | f d =>
                cases d with
                | bl k =>
                  have e : v3 = .bl k := V3.1
                  exact ⟨k, e, p3 (.bl k) F3 H3 R3 S3 E3 ⟨rfl, fun _ _ z => by cases z⟩⟩
                | _ => exact p3.elim
              | _ => exact p3.elim
          · exact p2.elim
        | _ => exact p2.elim
      | _ => cases dy <;> exact p2.elim
end
section
variable {X : Cx} {M : Nm} {T : Tb}
/-- what an own == asks -/
structure EqC (X : Cx) (M : Nm) (T : Tb) (C f : Nat) (fa : Addr) (k : Nat) : Prop where
  kp : Keeps X.prog X.w X.K X.mg X.base M (T.fn f) k fa
  hs : PySem.W.findIn X.K (.ref (M.cl C)) "__eq__" = some (some (.ref fa))
  hf : PySem.W.isFn X.K (.ref fa) = true
theorem r_eqo (h : ∀ C f, T.mt C mEq = some f → ∃ fa k, EqC X M T C f fa k ∧ Room k X.A) : OpR X (compareOp .Eq) (rEqo M T) := by
  rintro pins s σ H x y v u Q I rx ry ⟨C, f, a, b, dx, dy, fs, gs, g, rfl, rfl, ha, hb, hsp⟩
  obtain ⟨fa, k, ec, hr⟩ := h C f g
  obtain ⟨⟨fd, ps, F, hbi⟩, kp⟩ := ec.kp
  cases rx
  cases ry
  obtain ⟨mA, J, _⟩ := ins_get I.hok ha
  obtain ⟨mB, J', _⟩ := ins_get I.hok hb
  obtain ⟨od, J, _⟩ := J.look
  obtain ⟨od', J', _⟩ := J'.look
  obtain ⟨m, hF⟩ := I.fr
  refine PySem.W.cmp_K (op := .Eq) (tb := .ref (M.cl C)) (Nat.lt_of_le_of_lt (Nat.le_add_right _ 64) hr.units) hF I.ok.mod.kin J J'.type (by simp [PySem.W.notFirst]) ec.hs ec.hf ?_
  refine thn (run_fn (us := [.ref a, .ref b]) (vs := [.ref a, .ref b]) F hr hbi .nil pass0 I (.cons rfl (.cons rfl .nil)) hsp) fun v' s' ⟨z, H', I', rz, k', ez, q⟩ => ?_
  subst ez
  cases rz
  exact ⟨.bl k', H', I', rfl, q⟩
end
end PV

set_option Elab.async false
set_option linter.all false
set_option maxRecDepth 100000
set_option maxHeartbeats 1000000
/-! PvY: more rules of the text: own ==, comprehensions stored on one line, range, triples. -/
namespace PV
open PySem L2
section
variable {X : Cx} {M : Nm} {H0 : Hp} {T : Tb} {a b c e elt tg iter : Expr} {es rest : List Expr} {ca cb cc ce : CE} {cs : CEs} {pos p p2 p3 spos py : Pos}
theorem k_eqo (h : ∀ C f, T.mt C mEq = some f → ∃ fa k, EqC X M T C f fa k ∧ Room k X.A) (ha : PE X a (tE M H0 WN T ca)) (hb : PE X b (tE M H0 WN T cb)) : PE X (.Compare a [.Eq] [b] pos) (tE M H0 WN T (.eqo false ca cb)) :=
  PE.imp (pe_cmpR (r_eqo h) ha hb (nobehind _ (by decide) (by decide))) fun _ _ _ h => i_eqo h
theorem t_eqo (h : ∀ C f, T.mt C mEq = some f → ∃ fa k, EqC X M T C f fa k ∧ Room k X.A) (ha : PE X a (tE M H0 WN T ca)) (hb : PE X b (tE M H0 WN T cb)) : PT X (.Compare a [.Eq] [b] pos) (tT M H0 WN T (.eqo false ca cb)) :=
  PT.imp (pt_cmpR (r_eqo h) ha hb (nobehind _ (by decide) (by decide))) fun _ _ _ h => i_eqo (i_test h)
/-- one == for the one class that has it -/
theorem eq_one {C f : Nat} {fa : Addr} {k : Nat} (only : ∀ B g, T.mt B mEq = some g → B = C ∧ g = f) (ec : EqC X M T C f fa k) (hr : Room k X.A) : ∀ B g, T.mt B mEq = some g → ∃ fa k, EqC X M T B g fa k ∧ Room k X.A := fun B g h => by
  obtain ⟨rfl, rfl⟩ := only B g h
  exact ⟨fa, k, ec, hr⟩
/-! ### range -/
theorem p_rng {ca : CE} (hm : X.mg "range" = none) (ha : PE X a (tE M H0 WN T ca)) (hg : Gl X "range" := by rfl) (hs : starEach [a] X.env = [(false, eval a X.env)] := by rfl) : PI X tg (.Call (.Name "range" p) [a] [] pos) (tI M H0 WN T X.H_0 (.rng ca)) :=
  PI.imp (pi_range1 hg hm (pa_cons ha pa_nil hs) hs) fun _ _ _ h => i_rng h
theorem p_rng2 {ca cb : CE} (hm : X.mg "range" = none) (ha : PE X a (tE M H0 WN T ca)) (hb : PE X b (tE M H0 WN T cb)) (hg : Gl X "range" := by rfl) (hs : starEach [a, b] X.env = [(false, eval a X.env), (false, eval b X.env)] := by rfl) (hs2 : starEach [b] X.env = [(false, eval b X.env)] := by rfl) :
    PI X tg (.Call (.Name "range" p) [a, b] [] pos) (tI M H0 WN T X.H_0 (.rng2 ca cb)) :=
  PI.imp (pi_range2 hg hm (pa_cons ha (pa_cons hb pa_nil hs2) (by rw [hs, hs2])) hs hs2) fun _ _ _ h => i_rng2 h
/-! ### name = [..] on one line -/
theorem s_setLc (k : Ok X M) {i : Nat} {y : Str} {w : Bool} {ifs : List Expr} {scope : Scope} {own : List (Str × Nat)} {t : CT} {it : CI} (hy : X.N[i]? = some y) (hyl : X.env.scope.names.lookup y = some .local)
    (hsw : swapsWith (.ListComp elt [⟨tg, iter, ifs, 0⟩] scope pos) (some (.Name y py)) spos.line X.env = pure true) (hi : PI X tg iter (tI M H0 WN T X.H_0 it)) (ok : BlkOk X.N X.env.scope scope own) (hj : ∀ j ∈ t.slots, j ∈ own.map (·.2))
    (hg : ∀ (s : Shared) (H : Hp) (C : Addr) (cl : List (Str × Addr)) (fp : List Addr), PG (X.blk s H scope (compEnvC scope cl C X.env) fp) tg (tG M H0 t)) (ht : ∀ (s : Shared) (H : Hp) (C : Addr) (cl : List (Str × Addr)) (fp : List Addr), PTs (X.blk s H scope (compEnvC scope cl C X.env) fp) ifs (tT M H0 WN T cc))
    (he : ∀ (s : Shared) (H : Hp) (C : Addr) (cl : List (Str × Addr)) (fp : List Addr), PE (X.blk s H scope (compEnvC scope cl C X.env) fp) elt (tE M H0 WN T ce)) (hs : ∀ x, foldedSetIterable iter X.env x = pure x := by intro _; rfl) :
    PS X (.Assign [.Name y py] (.ListComp elt [⟨tg, iter, ifs, 0⟩] scope pos) spos) (tS M H0 WN T (.asg (.nm i) w (.lc ce t it cc (own.map (·.2))))) := by
  refine PS.imp (ps_unl (ps_setLc k.hc k.hN hy hyl hsw hi ok hg ht he hs)) fun D σ H h => ?_
  exact i_lc (HX := X.H_0) hj wn_unl (i_asg h)
theorem s_par3 (k : Ok X M) {i j l : Nat} {x y z : Str} {px py pz pt : Pos} {kt k2 : Nat} {pt2 : Pos} {owns : List Bool} (hi : X.N[i]? = some x) (hj : X.N[j]? = some y) (hl : X.N[l]? = some z) (hij : i ≠ j) (hil : i ≠ l) (hjl : j ≠ l)
    (hx : X.env.scope.names.lookup x = some .local) (hy : X.env.scope.names.lookup y = some .local) (hz : X.env.scope.names.lookup z = some .local) (ha : PA X [a, b, c] (tA M H0 WN T cs))
    (hw : swappedStores [.Tuple [.Name x px, .Name y py, .Name z pz] kt pt] (.Tuple [a, b, c] k2 pt2) X.env = pure (some [x, y, z]) := by rfl) (hs : swapsWithSole [.Tuple [.Name x px, .Name y py, .Name z pz] kt pt] (.Tuple [a, b, c] k2 pt2) pos.line X.env = pure false := by rfl) :
    PS X (.Assign [.Tuple [.Name x px, .Name y py, .Name z pz] kt pt] (.Tuple [a, b, c] k2 pt2) pos) (tS M H0 WN T (.par [i, j, l] owns cs)) := PS.imp (ps_par3 k.hc k.hN hi hj hl hij hil hjl hx hy hz ha hw hs) fun _ _ _ h => i_par3 h
end
end PV

set_option Elab.async false
set_option linter.all false
set_option maxRecDepth 100000
set_option maxHeartbeats 1000000
/-! PvZ: name = {..} of a block on one line. -/
namespace L2
open PySem PySem.Spec PyProof.Rows
section
variable {X : Cx}
theorem ps_setDc {i : Nat} {y : Str} {py : Pos} {kx vx tg iter : Expr} {ifs : List Expr} {scope : Scope} {own : List (Str × Nat)} {pos spos : Pos} {wi : TI} {g : TG} {tt : TT} {tk tv : TE} (hc : X.calm = true) (hN : X.N.Nodup) (hy : X.N[i]? = some y) (hyl : X.env.scope.names.lookup y = some .local)
    (hsw : swapsWith (.DictComp kx vx [⟨tg, iter, ifs, 0⟩] scope pos) (some (.Name y py)) spos.line X.env = pure true) (hi : PI X tg iter wi) (ok : BlkOk X.N X.env.scope scope own)
    (hg : ∀ (s : Shared) (H : Hp) (C : Addr) (cl : List (Str × Addr)) (fp : List Addr), PG (X.blk s H scope (compEnvC scope cl C X.env) fp) tg g) (ht : ∀ (s : Shared) (H : Hp) (C : Addr) (cl : List (Str × Addr)) (fp : List Addr), PTs (X.blk s H scope (compEnvC scope cl C X.env) fp) ifs tt)
    (hk : ∀ (s : Shared) (H : Hp) (C : Addr) (cl : List (Str × Addr)) (fp : List Addr), PE (X.blk s H scope (compEnvC scope cl C X.env) fp) kx tk)
    (he : ∀ (s : Shared) (H : Hp) (C : Addr) (cl : List (Str × Addr)) (fp : List Addr), PE (X.blk s H scope (compEnvC scope cl C X.env) fp) vx tv) (hs : ∀ x, foldedSetIterable iter X.env x = pure x := by intro _; rfl) :
    PS X (.Assign [.Name y py] (.DictComp kx vx [⟨tg, iter, ifs, 0⟩] scope pos) spos) (tAsg (tDc wi g tt tk tv (own.map (·.2))) (gName i)) := by
  refine ⟨fun pins s σ H D I h => ?_⟩
  rw [exec_Assign_Name_used _ _ _ _ hsw]
  refine wpAny_bind (wpAny_standAt (wpAny_bind ?_))
  show wpAny _ X.A (do let _ ← comprehension (.DictComp kx vx [⟨tg, iter, ifs, 0⟩] scope pos) scope X.env (firstIterPos [⟨tg, iter, ifs, 0⟩] pos) newDict false (eval iter X.env) (some (assign (.Name y py) X.env))) _ _ s
  have h : tDc wi g tt tk tv (own.map (·.2)) σ H (fun x H1 => gName i x σ H1 D.nx) := h
  refine wpAny_bind (thn (dc_core (Qf := fun _ s' => SP X pins D .next s') hc hN I hi ok hg ht hk he hs h fun L C s' m H' I' q hn f => ?_) fun _ s' hq => wpAny_pure (wpAny_pure hq))
  show wpAny _ _ (assign (.Name y py) X.env (.ref L)) _ _ _
  refine wpAny_assign_Name (store_ok2 (v := V.ref L) I' hN hy (.inl hyl) rfl (fun s2 I2 ⟨a, sb, ha⟩ => ?_) (.inr hyl))
  obtain ⟨f0, f1, f2, f3, f4, f5⟩ := f
  have haC : C ≠ a := by
    rcases ha with z | z
    · rw [z]; exact f1
    · exact fun e => f4 y a z e.symm
  refine ⟨m, hn.sameBut sb haC, fun h3 sb3 => ?_⟩
  exact ⟨_, H', I2.turned (t' := s2.toks) (fun b o hb e => (sb3.2 b hb).trans e) f0 f1 f3 f4 f5, q⟩
end
end L2
namespace PV
open PySem L2
section
variable {X : Cx} {M : Nm} {H0 : Hp} {T : Tb} {elt tg iter : Expr} {cc ce : CE} {pos spos py : Pos}
theorem s_setDc (k : Ok X M) {i : Nat} {y : Str} {w : Bool} {kx : Expr} {ck : CE} {ifs : List Expr} {scope : Scope} {own : List (Str × Nat)} {t : CT} {it : CI} (hy : X.N[i]? = some y) (hyl : X.env.scope.names.lookup y = some .local)
    (hsw : swapsWith (.DictComp kx elt [⟨tg, iter, ifs, 0⟩] scope pos) (some (.Name y py)) spos.line X.env = pure true) (hi : PI X tg iter (tI M H0 WN T X.H_0 it)) (ok : BlkOk X.N X.env.scope scope own) (hj : ∀ j ∈ t.slots, j ∈ own.map (·.2))
    (hg : ∀ (s : Shared) (H : Hp) (C : Addr) (cl : List (Str × Addr)) (fp : List Addr), PG (X.blk s H scope (compEnvC scope cl C X.env) fp) tg (tG M H0 t)) (ht : ∀ (s : Shared) (H : Hp) (C : Addr) (cl : List (Str × Addr)) (fp : List Addr), PTs (X.blk s H scope (compEnvC scope cl C X.env) fp) ifs (tT M H0 WN T cc))
    (hk : ∀ (s : Shared) (H : Hp) (C : Addr) (cl : List (Str × Addr)) (fp : List Addr), PE (X.blk s H scope (compEnvC scope cl C X.env) fp) kx (tE M H0 WN T ck))
    (he : ∀ (s : Shared) (H : Hp) (C : Addr) (cl : List (Str × Addr)) (fp : List Addr), PE (X.blk s H scope (compEnvC scope cl C X.env) fp) elt (tE M H0 WN T ce)) (hs : ∀ x, foldedSetIterable iter X.env x = pure x := by intro _; rfl) :
    PS X (.Assign [.Name y py] (.DictComp kx elt [⟨tg, iter, ifs, 0⟩] scope pos) spos) (tS M H0 WN T (.asg (.nm i) w (.dc ck ce t it cc (own.map (·.2))))) :=
  PS.imp (ps_unl (ps_setDc k.hc k.hN hy hyl hsw hi ok hg ht hk he hs)) fun D σ H h => i_dc (HX := X.H_0) hj wn_unl (i_asg h)
end
end PV

set_option Elab.async false
set_option linter.all false
set_option maxRecDepth 100000
set_option maxHeartbeats 1000000
/-! PvZA: lists of objects compared. -/
namespace PV
open PySem L2
section
variable {M : Nm} {H0 : Hp} {T : Tb}
/-- the own == says True -/
def SayT (M : Nm) (T : Tb) (f : Nat) (a b : Addr) (H : Hp) : Prop := ∃ F d e os, Le F H ∧ Rep M F d (.ref a) ∧ Rep M F e (.ref b) ∧ T.fn f [.fz d, .fz e] = .ok (.f (.bl true)) os
theorem Le.ext {F H H' : Hp} (l : Le F H) (e : Ext H H') : Le F H' := by
  have rd : ∀ {a u}, Rd H a u → Rd H' a u := fun r => r.imp (e _ _) fun ⟨o, r⟩ => ⟨o, e _ _ r⟩
  refine ⟨fun a xs r => rd (l.l a xs r), fun a xs r => e _ _ (l.t a xs r), fun a xs r => rd (l.tr a xs r), fun a xs r => rd (l.k a xs r), fun a xs r => rd (l.kt a xs r), fun a C dx fs r => e _ _ (l.i a C dx fs r), fun a h => l.d a ?_⟩
  cases q : H a with
  | none => rfl
  | some o => rw [e a o q] at h; cases h
theorem ext_none {H H' : Hp} (e : Ext H H') {a : Addr} (h : H' a = none) : H a = none := by
  cases q : H a with
  | none => rfl
  | some o => rw [e a o q] at h; cases h
theorem SayT.ext {f : Nat} {a b : Addr} {H H' : Hp} (e : Ext H H') (s : SayT M T f a b H) : SayT M T f a b H' := by
  obtain ⟨F, d, e', os, l, h⟩ := s
  exact ⟨F, d, e', os, l.ext e, h⟩
theorem Rel.ext {F H H' : Hp} {σ : L2.St} {ρ : Env} (R : Rel M H0 F H σ ρ) (e : Ext H H') : Rel M H0 F H' σ ρ :=
  ⟨R.sub.ext e, R.len, R.fz, fun i d h => let ⟨a, o, h1, h2, h3, h4⟩ := R.ow i d h; ⟨a, o, h1, h2, e _ _ h3, h4⟩, R.dist, R.new, fun a h => R.dom a (ext_none e h)⟩
theorem Stp.ext {F H H' : Hp} {A : Addr → Prop} (e : Ext H H') : Stp F H A F H' A := ⟨Le.refl F, fun b o h _ => e b o h, fun b h => ext_none e h, fun b h h' => absurd h h', fun b h => .inl h⟩
/-- two objects of one class whose own == says True -/
def DOb (M : Nm) (T : Tb) : Eqv := fun x y H => ∃ C f, T.mt C mEq = some f ∧ DIns (M.cl C) (SayT M T f) x y H
theorem mon_ob : Mon (DOb M T) := fun x y H H' e ⟨C, f, h, d⟩ => ⟨C, f, h, mon_ins (fun _ _ _ _ e s => s.ext e) x y H H' e d⟩
theorem prs_ob {F H : Hp} (l : Le F H) : ∀ {xs ys : List D} {vs ws : List V}, Reps M F xs vs → Reps M F ys ws → allEq T xs ys = true → Prs (DOb M T) vs ws H := by
  intro xs
  induction xs with
  | nil =>
    intro ys vs ws h1 h2 h
    cases ys with
    | nil => cases h1; cases h2; exact Prs.nil
    | cons y ys => simp [allEq] at h
  | cons x xs ih =>
    intro ys vs ws h1 h2 h
    cases ys with
    | nil => cases x <;> simp [allEq] at h
    | cons y ys =>
      obtain ⟨v, vs', rfl, r1, r1'⟩ := h1
      obtain ⟨w, ws', rfl, r2, r2'⟩ := h2
      cases x with
      | obj C fs =>
        cases y with
        | obj B gs =>
          simp only [allEq, Bool.and_eq_true, decide_eq_true_eq] at h
          obtain ⟨⟨rfl, h3⟩, h4⟩ := h
          refine Prs.cons ?_ (ih r1' r2' h4)
          cases hm : T.mt B mEq with
          | none => rw [hm] at h3; cases h3
          | some f =>
            rw [hm] at h3
            obtain ⟨a, dx, us, rfl, e1, e2⟩ := id r1
            obtain ⟨b, dy, us', rfl, e3, e4⟩ := id r2
            cases hf : T.fn f [.fz (.obj B fs), .fz (.obj B gs)] with
            | ok v os =>
              simp only [hf] at h3
              split at h3
              · rename_i q1
                cases q1
                exact ⟨B, f, hm, a, b, dx, dy, us, us', rfl, rfl, l.i _ _ _ _ e1, l.i _ _ _ _ e3, F, _, _, os, l, r1, r2, hf⟩
              · cases h3
            | exc e os => simp only [hf] at h3; cases h3
            | bad => simp only [hf] at h3; cases h3
        | _ => simp [allEq] at h
      | _ => simp [allEq] at h
theorem i_eql {a b : CE} {σ : L2.St} {H : Hp} {Q : VK} (h : tE M H0 WN T (.eql a b) σ H Q) : tOp (rEqG (DList (DOb M T))) (tE M H0 WN T a) (tE M H0 WN T b) σ H Q := by
  obtain ⟨F, ρ, R, p⟩ := h
  simp only [ev] at p
  refine ⟨F, ρ, R, Post.bind p fun x ρ1 v F1 H1 R1 S1 E1 V1 p1 => ⟨F1, ρ1, R1, ?_⟩⟩
  refine Post.bind2 p1 S1 E1 fun y ρ2 w F2 H2 R2 S2 E2 V2 p2 => ?_
  have vx := V1.1.step S2 E2
  have vy := V2.1
  split at p2
  · split at p2
    · rename_i xs ys ha
      obtain ⟨a, o, rfl, _, h1, t1, _⟩ := vx
      obtain ⟨b, o', rfl, _, h2, t2, _⟩ := vy
      obtain ⟨vs, rfl, r1⟩ : ∃ vs, o = .lst vs ∧ Reps M F2 xs vs := by cases o <;> first | exact ⟨_, rfl, t1⟩ | exact t1.elim
      obtain ⟨ws, rfl, r2⟩ : ∃ vs, o' = .lst vs ∧ Reps M F2 ys vs := by cases o' <;> first | exact ⟨_, rfl, t2⟩ | exact t2.elim
      refine ⟨⟨a, b, vs, ws, rfl, rfl, h1, h2, prs_ob R2.sub r1 r2 ha⟩, fun H' e => ?_⟩
      exact p2 (.bl true) F2 H' (R2.ext e) ((S1.trans S2).trans (Stp.ext e)) (E1.trans E2) ⟨rfl, fun _ _ z => by cases z⟩
    · exact p2.elim
  · exact p2.elim
end
section
variable {X : Cx} {M : Nm} {H0 : Hp} {T : Tb} {a b : Expr} {ca cb : CE} {pos : Pos}
theorem spEq_sp0 {φ : List PV.Slot → FOut} {R : Addr → Addr → Hp → Prop} (hR : ∀ a b H, R a b H → ∃ F d e os, Le F H ∧ Rep M F d (.ref a) ∧ Rep M F e (.ref b) ∧ φ [.fz d, .fz e] = .ok (.f (.bl true)) os) :
    ∀ vs H Q E, spEq R vs H Q E → sp0 M φ vs H Q E := by
  rintro vs H Q E ⟨a, b, rfl, r, q⟩
  obtain ⟨F, d, e, os, l, r1, r2, h⟩ := hR a b H r
  refine ⟨F, [.fz d, .fz e], l, rfl, fun i v s h1 h2 => ?_, fun i j d1 d2 a h1 h2 => ?_, ?_⟩
  · match i with
    | 0 => cases h1; cases h2; exact r1
    | 1 => cases h1; cases h2; exact r2
    | i + 2 => cases h1
  · match i with
    | 0 => cases h1
    | 1 => cases h1
    | i + 2 => cases h1
  · rw [h]
    intro v F' H' le S O V
    cases (show v = .bl true from V)
    refine q H' fun b o hb => S.fr b o hb ?_
    rintro ⟨i, d, h1, _⟩
    match i with
    | 0 => cases h1
    | 1 => cases h1
    | i + 2 => cases h1
theorem r_eql {k : Nat} (h : ∀ C f, T.mt C mEq = some f → ∃ fa, EqC X M T C f fa k) (hr : Room (k + 1) X.A) : OpR X (compareOp .Eq) (rEqG (DList (DOb M T))) := by
  refine op_eqG (rcG_list (n := k) mon_ob fun A pins s σ H x y u v sb I rx ry d => ?_) hr
  obtain ⟨C, f, hm, d⟩ := d
  obtain ⟨fa, ec⟩ := h C f hm
  obtain ⟨⟨fd, ps, F, hbi⟩, kp⟩ := ec.kp
  exact eqG_ins (R := SayT M T f) (E := L2.E0) (F.imp (spEq_sp0 fun _ _ _ r => r)) ec.hs ec.hf hbi pass0 A pins s σ H x y u v sb I rx ry d
theorem k_eql {k : Nat} (h : ∀ C f, T.mt C mEq = some f → ∃ fa, EqC X M T C f fa k) (hr : Room (k + 1) X.A) (ha : PE X a (tE M H0 WN T ca)) (hb : PE X b (tE M H0 WN T cb)) : PE X (.Compare a [.Eq] [b] pos) (tE M H0 WN T (.eql ca cb)) :=
  PE.imp (pe_cmpR (r_eql h hr) ha hb (nobehind _ (by decide) (by decide))) fun _ _ _ h => i_eql h
theorem t_eql {k : Nat} (h : ∀ C f, T.mt C mEq = some f → ∃ fa, EqC X M T C f fa k) (hr : Room (k + 1) X.A) (ha : PE X a (tE M H0 WN T ca)) (hb : PE X b (tE M H0 WN T cb)) : PT X (.Compare a [.Eq] [b] pos) (tT M H0 WN T (.eql ca cb)) :=
  PT.imp (pt_cmpR (r_eql h hr) ha hb (nobehind _ (by decide) (by decide))) fun _ _ _ h => i_eql (i_test h)
end
end PV

set_option Elab.async false
set_option linter.all false
set_option maxRecDepth 100000
set_option maxHeartbeats 1000000
/-! PvZB: names, tables, the law's end. -/
namespace PV
open PySem L2
/-! ### tables -/
def anOf (names : List Str) (a : Nat) : Str := match names[a]? with
  | some x => x
  | none => ⟨#[a]⟩
theorem anOf_inj {names : List Str} (nd : names.Nodup) (hl : ∀ x ∈ names, x.cps.size ≠ 1) : ∀ a b, anOf names a = anOf names b → a = b := by
  intro a b h
  unfold anOf at h
  cases ha : names[a]? with
  | some x =>
    cases hb : names[b]? with
    | some y =>
      rw [ha, hb] at h
      simp only at h
      subst h
      exact (List.getElem?_inj (List.getElem?_eq_some_iff.1 ha).1 nd).1 (ha.trans hb.symm)
    | none =>
      rw [ha, hb] at h
      simp only at h
      exact absurd (by rw [h]; rfl) (hl x (List.mem_of_getElem? ha))
  | none =>
    cases hb : names[b]? with
    | some y =>
      rw [ha, hb] at h
      simp only at h
      exact absurd (by rw [← h]; rfl) (hl y (List.mem_of_getElem? hb))
    | none =>
      rw [ha, hb] at h
      injection h with h
      injection h with h
      injection h
def mtOf (tab : List (Nat × Nat × Nat)) (C m : Nat) : Option Nat := (tab.find? fun p => p.1 == C && p.2.1 == m).map (·.2.2)
theorem mtOf_mem {tab : List (Nat × Nat × Nat)} {C m f : Nat} (h : mtOf tab C m = some f) : (C, m, f) ∈ tab := by
  unfold mtOf at h
  cases q : tab.find? fun p => p.1 == C && p.2.1 == m with
  | none => rw [q] at h; cases h
  | some p =>
    rw [q] at h
    cases h
    have h1 := List.find?_some q
    have h2 := List.mem_of_find?_eq_some q
    simp only [Bool.and_eq_true, beq_iff_eq] at h1
    obtain ⟨rfl, rfl⟩ := h1
    exact h2
theorem mtOf_only {tab : List (Nat × Nat × Nat)} {m Cn fc : Nat} (h : (tab.all fun p => p.2.1 != m || (p.1 == Cn && p.2.2 == fc)) = true) : ∀ B f, mtOf tab B m = some f → B = Cn ∧ f = fc := by
  intro B f e
  have := List.all_eq_true.1 h _ (mtOf_mem e)
  simpa using this
theorem mtOf_some {tab : List (Nat × Nat × Nat)} {m : Nat} (l : List (Nat × Nat)) (h : (tab.all fun p => p.2.1 != m || l.contains (p.1, p.2.2)) = true) {C f : Nat} (e : mtOf tab C m = some f) : (C, f) ∈ l := by
  have := List.all_eq_true.1 h _ (mtOf_mem e)
  simpa using this
def flOf (tab : List (Nat × Nat)) (C a : Nat) : Bool := tab.contains (C, a)
theorem flOf_mem {tab : List (Nat × Nat)} {C a : Nat} (h : flOf tab C a = true) : (C, a) ∈ tab := by simpa [flOf] using h
/-! ### isinstance with a built-in type -/
theorem ty_int : ∀ d n, tyN d = some n → kitB n "int" = some (dInt d) := fun d n h => by cases d <;> cases h <;> rfl
theorem ty_bool : ∀ d n, tyN d = some n → kitB n "bool" = some (dBool d) := fun d n h => by cases d <;> cases h <;> rfl
theorem ty_str : ∀ d n, tyN d = some n → kitB n "str" = some (dStr d) := fun d n h => by cases d <;> cases h <;> rfl
theorem ty_list : ∀ d n, tyN d = some n → kitB n "list" = some (dList d) := fun d n h => by cases d <;> cases h <;> rfl
theorem ty_tuple : ∀ d n, tyN d = some n → kitB n "tuple" = some (dTuple d) := fun d n h => by cases d <;> cases h <;> rfl
theorem ty_dict : ∀ d n, tyN d = some n → kitB n "dict" = some (dDict d) := fun d n h => by cases d <;> cases h <;> rfl
/-! ### {..} of a block on one line -/
theorem sw_trueD {kx vx : Expr} {gs : List Comprehension} {scope : Scope} {pos py : Pos} {y : Str} {l : Nat} {env : PySem.Env} (hk : env.scope.kind = .function) (hy : env.scope.names.lookup y = some .local) (hl : (py.line == pos.line) = true)
    (ha : (scope.names.any fun (n, k) => n == y && (k == .local || k == .cell)) = false) : swapsWith (.DictComp kx vx gs scope pos) (some (.Name y py)) l env = pure true := by
  have ky : env.kindOf y = some .local := hy
  have hb : env.blockKind = .function := by unfold PySem.Env.blockKind; rw [hk]; rfl
  unfold swapsWith
  simp only [hb, ky, ha, Expr.pos, hl]
  rfl
/-! ### the law -/
section
variable {P : Program} {w : World} {K : PySem.W.Frag} {mg : Str → Option Value} {base : Heap} {M : Nm} {Pr : Pg} {x qual : Str} {st : Stmt} {f : Addr} {fd : FuncData} {N ps : List Str} {k fc np : Nat} {b : CSs}
/-- keeps_of, its def told -/
theorem fn_of {n : Nat} (F : L2.Fun K x qual st f fd) (S : FnScope N ps (defScope st)) (hK : M.K = K) (hf : Pr.fd fc = some (.body np N.length b)) (hps : ps.length = np) (hn : np ≤ N.length)
    (der : ∀ (cdv : Value) (A : Around) (outer : List PySem.Env) (s : Shared) (H : Hp) (E : XK), Ok (BX P w K mg base N qual st f cdv A outer s H E) M → Room k (BX P w K mg base N qual st f cdv A outer s H E).A →
      PSs (BX P w K mg base N qual st f cdv A outer s H E) (defBody st) (tSs M H WN (tbl Pr n) b)) : FnOk P w K mg base L2.CX0 (k + 1) f fd ps (sp0 M (runF Pr (n + 1) fc)) := by
  refine F.ok S (fun vs H Q E h => (sp0_runF hf h).1.trans hps.symm) (fun cdv A outer s H vs Q E hr h => ?_)
  have ok : Ok (BX P w K mg base N qual st f cdv A outer s H E) M := ⟨hK.symm, rfl, hr.units, S.nd⟩
  obtain ⟨h1, h2⟩ := sp0_runF hf h
  exact ⟨_, der cdv A outer s H E ok hr, body_ok hn h1 h2⟩
/-- no list stands in the written part -/
def NoList (K : PySem.W.Frag) : Bool := K.all fun p => match p.2.cls with
  | .type t => t != "list"
  | _ => true
theorem SqL.rd {H : Hp} {a : Addr} {xs : List V} (n : NoList K = true) (h : SqL K H a xs) : Rd H a (.lst xs) := by
  rcases h with h | ⟨o, its, m, h, c, _⟩
  · exact h
  · have mem : (a, o) ∈ K := by
      clear n
      induction K with
      | nil => cases h
      | cons p r ih =>
        obtain ⟨q, u⟩ := p
        rw [List.lookup_cons] at h
        split at h
        · rename_i e
          cases h
          have : a = q := by simpa using e
          subst this
          exact List.mem_cons_self
        · exact List.mem_cons_of_mem _ (ih h)
    have := List.all_eq_true.1 n _ mem
    simp only [c] at this
    simp at this
/-- what the law promises -/
def spLaw (K : PySem.W.Frag) : Sp := fun vs H Q _ => NoList K = true ∧ ∃ (a : Addr) (ns : List Int), vs = [.ref a] ∧ SqL K H a (ns.map V.int) ∧ ns.length ≤ 63 ∧ (∀ z ∈ ns, Builtin.Int.intBits z ≤ 1048576) ∧ ∀ H', Q (.bl true) H'
theorem reps_ints {F : Hp} : ∀ ns : List Int, Reps M F (ns.map D.int) (ns.map V.int)
  | [] => rfl
  | n :: r => ⟨_, _, rfl, rfl, reps_ints r⟩
/-- only the script -/
def only1 (a : Addr) (u : HO) : Hp := fun b => if b = a then some u else none
theorem rd_only {a b : Addr} {u t : HO} (h : Rd (only1 a u) b t) : b = a ∧ (u = t ∨ ∃ o, u = .frz o t) := by
  unfold Rd only1 at h
  by_cases q : b = a
  · simp only [q, if_true] at h
    refine ⟨q, h.imp (fun h => by cases h; rfl) fun ⟨o, h⟩ => ⟨o, by cases h; rfl⟩⟩
  · simp only [q, if_false] at h
    rcases h with h | ⟨o, h⟩ <;> cases h
theorem law_sp {φ : List PV.Slot → FOut} (hK : M.K = K) (h : ∀ ns : List Int, ns.length ≤ 63 → (∀ z ∈ ns, Builtin.Int.intBits z ≤ 1048576) → ∃ os, φ [.fz (.lst (ns.map D.int))] = .ok (.f (.bl true)) os) : ∀ vs H Q E, spLaw K vs H Q E → sp0 M φ vs H Q E := by
  rintro vs H Q E ⟨nl, a, ns, rfl, hS, hl, hb, q⟩
  obtain ⟨os, ho⟩ := h ns hl hb
  have rd := SqL.rd nl hS
  obtain ⟨u, hu, hu2⟩ : ∃ u, H a = some u ∧ (u = .lst (ns.map V.int) ∨ ∃ o, u = .frz o (.lst (ns.map V.int))) := by
    rcases rd with h | ⟨o, h⟩
    · exact ⟨_, h, .inl rfl⟩
    · exact ⟨_, h, .inr ⟨o, rfl⟩⟩
  have eu : ∀ t : HO, (u = t ∨ ∃ o, u = .frz o t) → Rd H a t := fun t ht => by
    rcases ht with rfl | ⟨o, rfl⟩
    · exact .inl hu
    · exact .inr ⟨o, hu⟩
  have one : ∀ b t, only1 a u b = some t → H b = some t := fun b t h => by
    unfold only1 at h
    by_cases q : b = a
    · subst q; simp only [if_true] at h; cases h; exact hu
    · simp only [q, if_false] at h; cases h
  refine ⟨only1 a u, [.fz (.lst (ns.map D.int))], ⟨fun b xs r => ?_, fun b xs r => one b _ r, fun b xs r => ?_, fun b xs r => ?_, fun b xs r => ?_, fun b C dx fs r => one b _ r, fun b h => ?_⟩, rfl, fun i v s h1 h2 => ?_, fun i j d1 d2 a h1 h2 => ?_, ?_⟩
  · obtain ⟨e1, r2⟩ := rd_only r; subst e1; exact eu _ r2
  · obtain ⟨e1, r2⟩ := rd_only r; subst e1; exact eu _ r2
  · obtain ⟨e1, r2⟩ := rd_only r; subst e1; exact eu _ r2
  · obtain ⟨e1, r2⟩ := rd_only r; subst e1; exact eu _ r2
  · unfold only1
    by_cases q : b = a
    · subst q; rw [hu] at h; cases h
    · simp only [q, if_false]
  · match i with
    | 0 =>
      cases h1; cases h2
      refine ⟨a, ns.map V.int, rfl, ?_, reps_ints ns⟩
      rcases hu2 with rfl | ⟨o, rfl⟩
      · exact .inl (by simp [only1])
      · exact .inr ⟨o, by simp [only1]⟩
    | i + 1 => cases h1
  · match i with
    | 0 => cases h1
    | i + 1 => cases h1
  · rw [ho]
    intro v F' H' le S O V
    cases (show v = .bl true from V)
    exact q H'
end
end PV

set_option Elab.async false
set_option linter.all false
set_option maxRecDepth 100000
set_option maxHeartbeats 1000000
/-! PvZC: further rules of the text. -/
namespace PV
open PySem L2
section
variable {X : Cx} {M : Nm} {H0 : Hp} {T : Tb} {a b c e elt tg iter : Expr} {es rest : List Expr} {ca cb cc ce : CE} {cs : CEs} {pos p p2 p3 spos py : Pos}
/-! ### constants of the module -/
theorem k_glbI {g : Nat} {x : Str} {i : Int} (hm : ∃ t, X.mg x = some (.int i t)) (hgl : T.gl g = .int i := by rfl) (hg : Gl X x := by rfl) (hd : (x == ("__debug__" : Str)) = false := by decide) : PE X (.Name x pos) (tE M H0 WN T (.glb g)) := by
  obtain ⟨t, hm⟩ := hm
  exact k_glb hg hm (v := .int i) ⟨t, rfl⟩ (fun F => by rw [hgl]; rfl) hd
theorem k_glbS {g : Nat} {x : Str} {i : Str} (hm : ∃ t, X.mg x = some (.str i t)) (hgl : T.gl g = .str i := by rfl) (hg : Gl X x := by rfl) (hd : (x == ("__debug__" : Str)) = false := by decide) : PE X (.Name x pos) (tE M H0 WN T (.glb g)) := by
  obtain ⟨t, hm⟩ := hm
  exact k_glb hg hm (v := .str i) ⟨t, rfl⟩ (fun F => by rw [hgl]; rfl) hd
end
end PV
namespace PV
open PySem L2
theorem isC_of {K : PySem.W.Frag} {C : Addr} (cl : Cls K C) (ha : PySem.W.findIn K (.ref C) "__class__" = some (some (.builtin "object.__class__"))) (hn : PySem.W.specialIn K (.builtin "object.__class__") "__get__" = some (some (.builtin "getset_descriptor.__get__")))
    (htk : PySem.W.takesIn K (.builtin "object.__class__") = some true) (hm : PySem.W.mroIn K C (.type "object") = some true) (ic : PySem.W.isClsIn K C = true) (ty : PySem.W.typeIn K (.ref C) = some (.type "type"))
    (s : ∀ n ∈ ["NoneType", "bool", "int", "str", "list", "tuple", "dict"], PySem.W.subIn K (.type n) (.ref C) = some false) : IsC K C := by
  have kc : ((PySem.W.clsIn K C).isSome && PySem.W.typeIn K (.ref C) == some (.type "type")) = true := by
    rw [ty, show (PySem.W.clsIn K C).isSome = true from by
      unfold PySem.W.isClsIn at ic
      first | exact ic | (split at ic <;> simp_all [PySem.W.clsIn])]
    rfl
  refine ⟨cl, ha, hn, htk, hm, ?_, fun n hn => ?_⟩
  · unfold PySem.W.kitOne
    rw [if_pos (beq_self_eq_true _)]
  · unfold PySem.W.kitOne
    rw [if_neg (by intro z; cases z)]
    unfold PySem.W.kitCls
    simp only [kc, if_true]
    exact s n hn
end PV

set_option Elab.async false
set_option linter.all false
set_option maxRecDepth 100000
set_option maxHeartbeats 1000000
/-! PvZD: enumerate, zip. -/
namespace PV
open PySem L2
section
variable {M : Nm} {H0 : Hp} {W : WX} {T : Tb} {F H : Hp}
def kEnm : D → Option (List D)
  | .lst xs => some (xs.zipIdx.map fun p => .tup [.int (p.2 : Nat), p.1])
  | _ => none
theorem i_enm {HX : Hp} {e : CE} {σ : L2.St} {H : Hp} {R : It → Hp → Prop} (h : tI M H0 W T HX (.enm e) σ H R) : tE M H0 W T e σ H fun x H1 => iD M HX kEnm x H1 R := by
  obtain ⟨F, ρ, R0, p⟩ := h
  simp only [evI] at p
  refine it_of R0 ?_
  cases h : ev T e ρ with
  | bad => rw [h] at p; exact p
  | exc e ρ1 => rw [h] at p; exact p
  | ok v ρ1 =>
    rw [h] at p
    simp only [Out.bind] at p ⊢
    cases h2 : okD v ρ1 with
    | bad => rw [h2] at p; exact p
    | exc e ρ1 => rw [h2] at p; exact p
    | ok d ρ2 => rw [h2] at p; cases d <;> exact p
theorem it_enm {K : PySem.W.Frag} {a : Addr} {vs : List V} {ds : List D} (le : Le F H) (r : Rd F a (.lst vs)) (h : Reps M F ds vs) : IterOk M F H (Ite K a) (ds.zipIdx.map fun p => .tup [.int (p.2 : Nat), p.1]) := by
  have rd : ∀ H', Keep F H H' → SqL K H' a vs := fun H' k => .inl (k.rd (rd_some r) (le.l _ _ r))
  have hl : (ds.zipIdx.map fun p => D.tup [.int (p.2 : Nat), p.1]).length = vs.length := by simp [h.length]
  refine ⟨fun i H' hi k => ?_, fun H' k => ⟨vs, rd H' k, by rw [hl]; exact Nat.le_refl _⟩, fun i H' x H2 hi k y => ?_⟩
  · rw [hl] at hi
    exact ⟨vs, _, rd H' k, List.getElem?_eq_getElem hi⟩
  · obtain ⟨Tt, x, rfl, hT, rfl, y⟩ := y
    obtain ⟨d, hd, rp⟩ := h.get (y vs (rd _ k))
    exact ⟨.tup [.int (i : Nat), d], by simp [hd], .inr ⟨Tt, [.int (i : Nat), x], [.int (i : Nat), d], rfl, hT, rfl, rfl, .int (i : Nat), [x], rfl, rfl, x, [], rfl, rp, rfl⟩⟩
def kZip : D → D → Option (List D)
  | .lst xs, .lst ys => some ((xs.zip ys).map fun p => .tup [p.1, p.2])
  | _, _ => none
def iD2 (M : Nm) (HX : Hp) (K : D → D → Option (List D)) : V → V → Hp → (It → Hp → Prop) → Prop := fun x y H R => ∃ F d e ds, Le F H ∧ Rep M F d x ∧ Rep M F e y ∧ K d e = some ds ∧ ∀ J F1 H1, Lk HX F H F1 H1 → IterOk M F1 H1 J ds → R J H1
theorem i_zip {HX : Hp} {a b : CE} {σ : L2.St} {H : Hp} {R : It → Hp → Prop} (h : tI M H0 W T HX (.zip a b) σ H R) : tE M H0 W T a σ H fun x H1 => tE M H0 W T b σ H1 fun y H2 => iD2 M HX kZip x y H2 R := by
  obtain ⟨F, ρ, R0, p⟩ := h
  simp only [evI] at p
  refine ⟨F, ρ, R0, ?_⟩
  cases h : ev T a ρ with
  | bad => rw [h] at p; exact p.elim
  | exc e ρ1 => rw [h] at p; exact p
  | ok v ρ1 =>
    rw [h] at p
    intro x F1 H1 R1 S1 E1 V1
    simp only [Out.bind] at p
    refine ⟨F1, ρ1, R1, ?_⟩
    cases h2 : ev T b ρ1 with
    | bad => rw [h2] at p; exact p.elim
    | exc e ρ2 => rw [h2] at p; exact fun c d F2 H2 R2 S2 E2 => p c d F2 H2 R2 (S1.trans S2) (E1.trans E2)
    | ok w ρ2 =>
      rw [h2] at p
      intro y F2 H2 R2 S2 E2 V2
      have fin : ∀ ds ρ4, frs ρ2 [v, w] = some (ds, ρ4) → ∀ d e zs, ds = [d, e] → kZip d e = some zs → PostI M H0 W HX F H σ ρ (.ok zs ρ4) R → iD2 M HX kZip x y H2 R := by
        intro ds ρ4 hf d e zs ed hz q
        subst ed
        obtain ⟨F3, Z1, Z2, ZE, Z3, Z4⟩ := frs_ok R2 (S1.trans S2) (two_ok V1.1 S2 E2 V2.1 V2.2) ⟨V1.2, V2.2.back S1, by unfold VsNew; trivial⟩ hf
        obtain ⟨x', xs', ex, r1, y', ys', ey, r2, en⟩ := Z3
        cases ex
        cases ey
        exact ⟨F3, d, e, zs, Z1.sub, r1, r2, hz, fun J F4 H4 lk it => q J F3 H2 F4 H4 Z1 Z2 (E1.trans (E2.trans ZE)) lk it⟩
      simp only [okD] at p
      cases h3 : fr ρ2 v with
      | none => rw [h3] at p; exact p.elim
      | some q =>
        obtain ⟨d, ρ3⟩ := q
        rw [h3] at p
        simp only at p
        cases h4 : fr ρ3 w with
        | none => rw [h4] at p; exact p.elim
        | some q =>
          obtain ⟨e, ρ4⟩ := q
          rw [h4] at p
          simp only at p
          have hf : frs ρ2 [v, w] = some ([d, e], ρ4) := by simp [frs, h3, h4]
          cases d with
          | lst xs =>
            cases e with
            | lst ys => exact fin _ _ hf _ _ _ rfl rfl p
            | _ => exact p.elim
          | _ => exact p.elim
theorem it_zip {K : PySem.W.Frag} {a b : Addr} {vs ws : List V} {ds es : List D} (le : Le F H) (r : Rd F a (.lst vs)) (h : Reps M F ds vs) (r2 : Rd F b (.lst ws)) (h2 : Reps M F es ws) : IterOk M F H (Itz K a b) ((ds.zip es).map fun p => .tup [p.1, p.2]) := by
  have rd : ∀ H', Keep F H H' → SqL K H' a vs := fun H' k => .inl (k.rd (rd_some r) (le.l _ _ r))
  have rd2 : ∀ H', Keep F H H' → SqL K H' b ws := fun H' k => .inl (k.rd (rd_some r2) (le.l _ _ r2))
  have hl : ((ds.zip es).map fun p => D.tup [p.1, p.2]).length = min vs.length ws.length := by simp [h.length, h2.length]
  refine ⟨fun i H' hi k => ?_, fun H' k => ⟨vs, ws, rd H' k, rd2 H' k, by rw [hl]; omega⟩, fun i H' x H2 hi k y => ?_⟩
  · rw [hl] at hi
    exact ⟨vs, ws, _, _, rd H' k, rd2 H' k, List.getElem?_eq_getElem (by omega), List.getElem?_eq_getElem (by omega)⟩
  · obtain ⟨Tt, x, y, rfl, hT, rfl, y1, y2⟩ := y
    obtain ⟨d, hd, rp⟩ := h.get (y1 vs (rd _ k))
    obtain ⟨e, he, rp2⟩ := h2.get (y2 ws (rd2 _ k))
    refine ⟨.tup [d, e], ?_, .inr ⟨Tt, [x, y], [d, e], rfl, hT, rfl, rfl, x, [y], rfl, rp, y, [], rfl, rp2, rfl⟩⟩
    rw [List.getElem?_map, show (ds.zip es)[i]? = some (d, e) from by rw [List.getElem?_zip_eq_some]; exact ⟨hd, he⟩]
    rfl
end
section
variable {X : Cx} {M : Nm} {H0 : Hp} {T : Tb} {a b : Expr} {ca cb : CE} {p pos tpos : Pos} {elts : List Expr} {kk : Nat}
theorem p_enm (hm : X.mg "enumerate" = none) (ha : PE X a (tE M H0 WN T ca)) (hg : Gl X "enumerate" := by rfl) (hs : starEach [a] X.env = [(false, eval a X.env)] := by rfl) :
    PI X (.Tuple elts kk tpos) (.Call (.Name "enumerate" p) [a] [] pos) (tI M H0 WN T X.H_0 (.enm ca)) := by
  refine PI.imp (pi_enum hg hm (pa_cons ha pa_nil hs) hs) fun σ H R h => ?_
  refine tE_mono (i_enm h) fun x H1 ⟨F, d, ds, le, rp, hk, q⟩ => ?_
  cases d with
  | lst xs =>
    cases hk
    obtain ⟨l, vs, rfl, r, rs⟩ := rp
    exact ⟨l, vs, rfl, .inl (le.l _ _ r), q (Ite X.K l) F H1 (.inl ⟨rfl, rfl⟩) (it_enm le r rs)⟩
  | _ => cases hk
theorem p_zip (hm : X.mg "zip" = none) (ha : PE X a (tE M H0 WN T ca)) (hb : PE X b (tE M H0 WN T cb)) (hg : Gl X "zip" := by rfl) (hs : starEach [a, b] X.env = (false, eval a X.env) :: starEach [b] X.env := by rfl) (hs2 : starEach [b] X.env = [(false, eval b X.env)] := by rfl) (hpl : (backTo pos (starEach [b] X.env)).any (·.1) = false := by rfl) :
    PI X (.Tuple elts kk tpos) (.Call (.Name "zip" p) [a, b] [] pos) (tI M H0 WN T X.H_0 (.zip ca cb)) := by
  refine PI.imp (pi_zip hg hm (pa_cons ha (pa_cons hb pa_nil hs2) hs) hs hpl) fun σ H R h => ?_
  refine tE_mono (i_zip h) fun x H1 h2 => tE_mono h2 fun y H2 ⟨F, d, e, ds, le, rp, rp2, hk, q⟩ => ?_
  cases d with
  | lst xs =>
    cases e with
    | lst ys =>
      cases hk
      obtain ⟨l, vs, rfl, r, rs⟩ := rp
      obtain ⟨l2, vs2, rfl, r2, rs2⟩ := rp2
      exact ⟨l, l2, vs, vs2, rfl, .inl (le.l _ _ r), .inl (le.l _ _ r2), q (Itz X.K l l2) F H2 (.inl ⟨rfl, rfl⟩) (it_zip le r rs r2 rs2)⟩
    | _ => cases hk
  | _ => cases hk
end
end PV

set_option Elab.async false
set_option linter.all false
set_option maxRecDepth 100000
set_option maxHeartbeats 1000000
/-! WpA: what a piece of code comes to, in the form «it ends, and then Q». Rules for simp. -/
namespace PV
open PySem L2
def Out.wp {α : Type} (x : Out α) (Q : α → Env → Prop) : Prop := match x with
  | .ok a ρ => Q a ρ
  | _ => False
structure Kn where
  nx : Env → Prop
  rt : Val → Env → Prop
  br : Env → Prop
  ct : Env → Prop
def SOut.wp (x : SOut) (K : Kn) : Prop := match x with
  | .nx ρ => K.nx ρ
  | .rt v ρ => K.rt v ρ
  | .br ρ => K.br ρ
  | .ct ρ => K.ct ρ
  | _ => False
def FOut.wp (x : FOut) (Q : Val → List Slot → Prop) : Prop := match x with
  | .ok v os => Q v os
  | _ => False
def wO {α : Type} (o : Option α) (F : α → Prop) : Prop := match o with
  | some a => F a
  | none => False
@[irreducible] def wE (T : Tb) (e : CE) (ρ : Env) (Q : Val → Env → Prop) : Prop := (ev T e ρ).wp Q
@[irreducible] def wEs (T : Tb) (es : CEs) (ρ : Env) (Q : List Val → Env → Prop) : Prop := (evs T es ρ).wp Q
@[irreducible] def wA (T : Tb) (es : CEs) (st : List Bool) (ρ : Env) (Q : List D → Env → Prop) : Prop := (evsS T es st ρ).wp Q
@[irreducible] def wI (T : Tb) (it : CI) (ρ : Env) (Q : List D → Env → Prop) : Prop := (evI T it ρ).wp Q
@[irreducible] def wS (T : Tb) (s : CS) (ρ : Env) (K : Kn) : Prop := (ex T s ρ).wp K
@[irreducible] def wSs (T : Tb) (ss : CSs) (ρ : Env) (K : Kn) : Prop := (exs T ss ρ).wp K
/-- a bool value -/
def wB (v : Val) (F : Bool → Prop) : Prop := match v with
  | .f (.bl b) => F b
  | _ => False
/-- a choice -/
def wK (k : Bool) (A B : Prop) : Prop := (k = true → A) ∧ (k = false → B)
/-- a value handed on -/
def wD (v : Val) (ρ : Env) (F : D → Env → Prop) : Prop := wO (fr ρ v) fun p => F p.1 p.2
def wDs (vs : List Val) (ρ : Env) (F : List D → Env → Prop) : Prop := wO (frs ρ vs) fun p => F p.1 p.2
/-- a slot read -/
def wV (s : Slot) (i : Nat) (F : Val → Prop) : Prop := match s with
  | .fz d => F (.f d)
  | .no => False
  | _ => F (.v i)
def npw (s : Slot) : Prop := match s with
  | .pw _ => False
  | _ => True
def notV (v : Val) : Prop := match v with
  | .v _ => False
  | _ => True
theorem notV_f {d : D} : notV (.f d) = True := rfl
theorem notV_n {d : D} : notV (.n d) = True := rfl
/-- a call -/
def wC (T : Tb) (f : Nat) (keep : List Bool) (vs : List Val) (ρ : Env) (Q : Val → Env → Prop) : Prop :=
  wO (lend ρ [] keep vs) fun p => (T.fn f p.1).wp fun v os => notV v ∧ Q v (back p.2 vs p.1 os)
def wNw (v : Val) (os : List Slot) (F : D → List Slot → Prop) : Prop := match v, os with
  | .f .non, .ow d :: os => F d os
  | _, _ => False
theorem wNw_ok {d : D} {os : List Slot} {F : D → List Slot → Prop} : wNw (.f .non) (.ow d :: os) F = F d os := rfl
def wNew (T : Tb) (C : Nat) (keep : List Bool) (vs : List Val) (ρ : Env) (Q : Val → Env → Prop) : Prop :=
  wO (T.mt C mInit) fun f => wO (lend ρ [] keep vs) fun p => (T.fn f (.ow (.obj C []) :: p.1)).wp fun v os => wNw v os fun d os => Q (.n d) (back p.2 vs p.1 os)
section
variable {T : Tb} {α β : Type} {ρ : Env} {Q : Val → Env → Prop} {QL : List Val → Env → Prop} {QD : List D → Env → Prop} {K : Kn} {a b c e : CE} {es : CEs}
theorem wp_bind {γ : Type} {x : Out α} {f : α → Env → Out γ} {Q : γ → Env → Prop} : (x.bind f).wp Q = x.wp fun a ρ => (f a ρ).wp Q := by cases x <;> rfl
theorem wp_lift {o : Option α} {Q : α → Env → Prop} : (lift o ρ).wp Q = wO o fun a => Q a ρ := by cases o <;> rfl
theorem wp_toS {x : Out α} {f : α → Env → SOut} : (x.toS f).wp K = x.wp fun a ρ => (f a ρ).wp K := by cases x <;> rfl
theorem wp_nxt {o : Option Env} : (nxt o).wp K = wO o K.nx := by cases o <;> rfl
theorem wp_truth {v : Val} {f : Bool → Env → Out α} {Q : α → Env → Prop} : (truth v ρ f).wp Q = wB v fun k => (f k ρ).wp Q := by
  cases v with
  | f d => cases d <;> rfl
  | _ => rfl
theorem wp_calm {x : Out α} {Q : α → Env → Prop} : (calm x).wp Q = x.wp Q := by cases x <;> rfl
theorem wp_okD {v : Val} {Q : D → Env → Prop} : (okD v ρ).wp Q = wD v ρ Q := by
  unfold okD wD
  cases fr ρ v <;> rfl
theorem wp_ite {p : Prop} [Decidable p] {x y : Out α} {Q : α → Env → Prop} : (if p then x else y).wp Q = (if p then x.wp Q else y.wp Q) := by split <;> rfl
theorem wp_bad {Q : α → Env → Prop} : (Out.bad : Out α).wp Q = False := rfl
theorem wp_ok {x : α} {Q : α → Env → Prop} : (Out.ok x ρ).wp Q = Q x ρ := rfl
theorem wK_if {k : Bool} {A B : Prop} : (if k = true then A else B) = wK k A B := by
  unfold wK
  cases k <;> simp
theorem wO_some {x : α} {F : α → Prop} : wO (some x) F = F x := rfl
theorem wO_none {F : α → Prop} : wO (none : Option α) F = False := rfl
theorem wO_bind {o : Option α} {g : α → Option β} {F : β → Prop} : wO (o.bind g) F = wO o fun x => wO (g x) F := by cases o <;> rfl
theorem wO_map {o : Option α} {g : α → β} {F : β → Prop} : wO (o.map g) F = wO o fun x => F (g x) := by cases o <;> rfl
theorem wO_ite {p : Prop} [Decidable p] {x : Option α} {F : α → Prop} : wO (if p then x else none) F = (p ∧ wO x F) := by
  split
  · rename_i h; simp [h]
  · rename_i h; simp [h, wO]
theorem wO_ite2 {p : Prop} [Decidable p] {x y : Option α} {F : α → Prop} : wO (if p then x else y) F = (if p then wO x F else wO y F) := by split <;> rfl
theorem wO_ex {o : Option α} {F : α → Prop} : wO o F ↔ ∃ x, o = some x ∧ F x := by cases o <;> simp [wO]
theorem wO_imp {o : Option α} {F G : α → Prop} (h : wO o F) (k : ∀ x, F x → G x) : wO o G := by
  cases o with
  | none => exact h
  | some x => exact k x h
theorem Out.imp {x : Out α} {Q Q' : α → Env → Prop} (h : x.wp Q) (k : ∀ a ρ, Q a ρ → Q' a ρ) : x.wp Q' := by
  cases x with
  | ok a ρ => exact k a ρ h
  | _ => exact h
theorem FOut.imp {x : FOut} {Q Q' : Val → List Slot → Prop} (h : x.wp Q) (k : ∀ a ρ, Q a ρ → Q' a ρ) : x.wp Q' := by
  cases x with
  | ok a ρ => exact k a ρ h
  | _ => exact h
theorem FOut.of {x : FOut} {v : Val} {os : List Slot} {Q : Val → List Slot → Prop} (e : x = .ok v os) (h : Q v os) : x.wp Q := by subst e; exact h
theorem FOut.get {x : FOut} {v : Val} {os : List Slot} (h : x.wp fun w os' => w = v ∧ os' = os) : x = .ok v os := by
  cases x with
  | ok a ρ => obtain ⟨rfl, rfl⟩ := h; rfl
  | _ => exact h.elim
structure Kn.Le (K K' : Kn) : Prop where
  nx : ∀ ρ, K.nx ρ → K'.nx ρ
  rt : ∀ v ρ, K.rt v ρ → K'.rt v ρ
  br : ∀ ρ, K.br ρ → K'.br ρ
  ct : ∀ ρ, K.ct ρ → K'.ct ρ
theorem SOut.imp {x : SOut} {K K' : Kn} (h : x.wp K) (k : K.Le K') : x.wp K' := by
  cases x with
  | nx ρ => exact k.nx ρ h
  | rt v ρ => exact k.rt v ρ h
  | br ρ => exact k.br ρ h
  | ct ρ => exact k.ct ρ h
  | _ => exact h
theorem wE_imp {Q' : Val → Env → Prop} (h : wE T e ρ Q) (k : ∀ a ρ, Q a ρ → Q' a ρ) : wE T e ρ Q' := by
  unfold wE at h ⊢
  exact Out.imp h k
theorem wSs_imp {K' : Kn} {ss : CSs} (h : wSs T ss ρ K) (k : K.Le K') : wSs T ss ρ K' := by
  unfold wSs at h ⊢
  exact SOut.imp h k
theorem wB_bl {k : Bool} {F : Bool → Prop} : wB (.f (.bl k)) F = F k := rfl
theorem wK_t {A B : Prop} : wK true A B = A := by simp [wK]
theorem wK_f {A B : Prop} : wK false A B = B := by simp [wK]
theorem wV_fz {d : D} {i : Nat} {F : Val → Prop} : wV (.fz d) i F = F (.f d) := rfl
theorem wV_ow {d : D} {i : Nat} {F : Val → Prop} : wV (.ow d) i F = F (.v i) := rfl
theorem wV_pw {d : D} {i : Nat} {F : Val → Prop} : wV (.pw d) i F = F (.v i) := rfl
theorem wV_no {i : Nat} {F : Val → Prop} : wV .no i F = False := rfl
theorem wD_f {d : D} {F : D → Env → Prop} : wD (.f d) ρ F = F d ρ := rfl
theorem wD_n {d : D} {F : D → Env → Prop} : wD (.n d) ρ F = F d ρ := rfl
/-- a slot handed on -/
def wDv (s : Slot) (i : Nat) (ρ : Env) (F : D → Env → Prop) : Prop := match s with
  | .ow d => F d (ρ.set i (.fz d))
  | .fz d => F d ρ
  | _ => False
theorem wD_v {i : Nat} {F : D → Env → Prop} : wD (.v i) ρ F = wDv (slotAt ρ i) i ρ F := by
  unfold wD wDv
  simp only [fr]
  cases slotAt ρ i <;> rfl
theorem wDv_ow {d : D} {i : Nat} {F : D → Env → Prop} : wDv (.ow d) i ρ F = F d (ρ.set i (.fz d)) := rfl
theorem wDv_fz {d : D} {i : Nat} {F : D → Env → Prop} : wDv (.fz d) i ρ F = F d ρ := rfl
theorem wDs_nil {F : List D → Env → Prop} : wDs [] ρ F = F [] ρ := rfl
theorem wDs_cons {x : Val} {r : List Val} {F : List D → Env → Prop} : wDs (x :: r) ρ F = wD x ρ fun d ρ1 => wDs r ρ1 fun ds ρ2 => F (d :: ds) ρ2 := by
  unfold wDs wD
  simp only [frs]
  cases fr ρ x with
  | none => rfl
  | some p =>
    obtain ⟨d, ρ1⟩ := p
    show wO (match frs ρ1 r with | some (ds, ρ2) => some (d :: ds, ρ2) | none => none) _ = wO (frs ρ1 r) _
    cases frs ρ1 r <;> rfl
/-! ### expressions -/
theorem wE_cst {d : D} : wE T (.cst d) ρ Q = Q (.f d) ρ := by simp only [wE, ev, wp_ok]
theorem wE_var {i : Nat} : wE T (.var i) ρ Q = wV (slotAt ρ i) i fun v => Q v ρ := by
  simp only [wE, ev]
  cases slotAt ρ i <;> rfl
theorem wE_glb {g : Nat} : wE T (.glb g) ρ Q = Q (.f (T.gl g)) ρ := by simp only [wE, ev, wp_ok]
theorem wEs_nil : wEs T .nil ρ QL = QL [] ρ := by simp only [wEs, evs, wp_ok]
theorem wEs_cons : wEs T (.cons e es) ρ QL = wE T e ρ fun v ρ1 => wEs T es ρ1 fun vs ρ2 => QL (v :: vs) ρ2 := by simp only [wEs, wE, evs, wp_bind, wp_ok]
theorem wE_op {o : Op} : wE T (.op o es) ρ Q = wEs T es ρ fun vs ρ1 => wO (rds ρ1 vs) fun ds => wO (opD o ds) fun v => Q v ρ1 := by simp only [wE, wEs, ev, wp_bind, wp_lift, wO_bind]
theorem wE_and : wE T (.and_ a b) ρ Q = wE T a ρ fun v ρ1 => wB v fun k => wK k (wE T b ρ1 Q) (Q (.f (.bl false)) ρ1) := by simp only [wE, ev, wp_bind, wp_truth, wp_ite, wp_ok, wK_if]
theorem wE_or : wE T (.or_ a b) ρ Q = wE T a ρ fun v ρ1 => wB v fun k => wK k (Q (.f (.bl true)) ρ1) (wE T b ρ1 Q) := by simp only [wE, ev, wp_bind, wp_truth, wp_ite, wp_ok, wK_if]
theorem wE_not : wE T (.not_ a) ρ Q = wE T a ρ fun v ρ1 => wB v fun k => Q (.f (.bl (!k))) ρ1 := by simp only [wE, ev, wp_bind, wp_truth, wp_ok]
theorem wE_ite : wE T (.ite c a b) ρ Q = wE T c ρ fun v ρ1 => wB v fun k => wK k (wE T a ρ1 Q) (wE T b ρ1 Q) := by simp only [wE, ev, wp_bind, wp_truth, wp_ite, wK_if]
theorem wE_chn {o o' : Op} : wE T (.chn o o' a b c) ρ Q = wE T a ρ fun x ρ1 => wE T b ρ1 fun y ρ2 => wO (rds ρ2 [x, y]) fun ds => wO (opD o ds) fun v => wB v fun k =>
    wK k (wE T c ρ2 fun z ρ3 => wO (rds ρ3 [y, z]) fun ds => wO (opD o' ds) fun v => Q v ρ3) (Q (.f (.bl false)) ρ2) := by
  simp only [wE, ev, wp_bind, wp_lift, wp_truth, wp_ite, wp_ok, wK_if, wO_bind]
theorem wE_lst : wE T (.lst es) ρ Q = wEs T es ρ fun vs ρ1 => wDs vs ρ1 fun ds ρ2 => ds.length ≤ LIM ∧ Q (.n (.lst ds)) ρ2 := by
  simp only [wE, wEs, ev, wp_bind]
  congr
  funext vs ρ1
  unfold wDs
  cases frs ρ1 vs with
  | none => rfl
  | some p =>
    show (if p.1.length ≤ LIM then Out.ok (Val.n (.lst p.1)) p.2 else .bad).wp Q = _
    rw [wp_ite]
    by_cases h : p.1.length ≤ LIM
    · rw [if_pos h, wO_some]; simp [h, wp_ok]
    · rw [if_neg h, wO_some]; simp [h, wp_bad]
theorem wE_tup : wE T (.tup es) ρ Q = wEs T es ρ fun vs ρ1 => wDs vs ρ1 fun ds ρ2 => ds.length ≤ LIM ∧ Q (.f (.tup ds)) ρ2 := by
  simp only [wE, wEs, ev, wp_bind]
  congr
  funext vs ρ1
  unfold wDs
  cases frs ρ1 vs with
  | none => rfl
  | some p =>
    show (if p.1.length ≤ LIM then Out.ok (Val.f (.tup p.1)) p.2 else .bad).wp Q = _
    rw [wp_ite]
    by_cases h : p.1.length ≤ LIM
    · rw [if_pos h, wO_some]; simp [h, wp_ok]
    · rw [if_neg h, wO_some]; simp [h, wp_bad]
theorem wE_lstS {st : List Bool} : wE T (.lstS es st) ρ Q = wA T es st ρ fun ds ρ2 => ds.length ≤ LIM ∧ Q (.n (.lst ds)) ρ2 := by
  simp only [wE, wA, ev, wp_bind, wp_ite, wp_ok, wp_bad]
  congr
  funext ds ρ1
  by_cases h : ds.length ≤ LIM <;> simp [h]
theorem wA_nil {st : List Bool} : wA T .nil st ρ QD = QD [] ρ := by simp only [wA, evsS, wp_ok]
theorem wA_cons {st : List Bool} : wA T (.cons e es) st ρ QD = wE T e ρ fun v ρ1 => wD v ρ1 fun d ρ2 => wO (spread (st.headD false) d) fun xs => wA T es st.tail ρ2 fun ds ρ3 => QD (xs ++ ds) ρ3 := by
  simp only [wA, wE, evsS, wp_bind, wp_okD]
  congr
  funext v ρ1
  congr
  funext d ρ2
  cases spread (st.headD false) d with
  | none => rfl
  | some xs => simp only [wp_bind, wp_ok, wO_some]
theorem wE_dctN {k : Bool} : wE T (.dctN k) ρ Q = Q (.n (if k then .dcT [] else .dct [])) ρ := by simp only [wE, ev, wp_ok]
theorem wE_dct {ks : List Key} : wE T (.dct ks es) ρ Q = wA T es [] ρ fun ds ρ1 => (ds.length ≤ 15 ∧ ks.length = ds.length) ∧ Q (.n (.dct (putAll [] (ks.zip ds)))) ρ1 := by
  simp only [wE, wA, ev, wp_bind, wp_calm, wp_ite, wp_ok, wp_bad]
  congr
  funext ds ρ1
  by_cases h : ds.length ≤ 15 ∧ ks.length = ds.length <;> simp [h]
/-- a field of an object -/
def wFld (T : Tb) (a : Nat) (o : Option D) (F : D → Prop) : Prop := match o with
  | some (.obj C fs) => T.fl C a = true ∧ wO (getF fs a) F
  | _ => False
theorem wFld_obj {n C : Nat} {fs : List (Nat × D)} {F : D → Prop} : wFld T n (some (.obj C fs)) F = (T.fl C n = true ∧ wO (getF fs n) F) := rfl
theorem wE_fld {n : Nat} : wE T (.fld n e) ρ Q = wE T e ρ fun v ρ1 => wFld T n (rd ρ1 v) fun d => Q (.f d) ρ1 := by
  simp only [wE, ev, wp_bind]
  congr
  funext v ρ1
  cases rd ρ1 v with
  | none => rfl
  | some d =>
    cases d with
    | obj C fs =>
      show (if T.fl C n = true then _ else Out.bad).wp Q = _
      rw [wp_ite, wFld_obj]
      by_cases h : T.fl C n = true
      · rw [if_pos h]
        cases getF fs n <;> simp [h, wO, Out.wp]
      · rw [if_neg h]; simp [h, wp_bad]
    | _ => rfl
theorem wp_callF {f : Nat} {keep : List Bool} {vs : List Val} : (callF T f keep vs ρ).wp Q = wC T f keep vs ρ Q := by
  unfold callF wC
  cases lend ρ [] keep vs with
  | none => rfl
  | some p =>
    show (ans p.2 vs p.1 (T.fn f p.1)).wp Q = (T.fn f p.1).wp _
    cases T.fn f p.1 with
    | ok v os => cases v <;> simp [ans, Out.wp, FOut.wp, notV]
    | _ => rfl
theorem wE_call {f : Nat} {keep : List Bool} : wE T (.call f keep es) ρ Q = wEs T es ρ fun vs ρ1 => wC T f keep vs ρ1 Q := by
  simp only [wE, wEs, ev, wp_bind, wp_callF]
/-- a method's number -/
def wM (T : Tb) (m : Nat) (o : Option D) (F : Nat → Prop) : Prop := match o with
  | some (.obj C _) => wO (T.mt C m) F
  | _ => False
theorem wM_obj {m C : Nat} {fs : List (Nat × D)} {F : Nat → Prop} : wM T m (some (.obj C fs)) F = wO (T.mt C m) F := rfl
theorem wE_prp {m : Nat} : wE T (.prp m e) ρ Q = wE T e ρ fun v ρ1 => wM T m (rd ρ1 v) fun f => wC T f [true] [v] ρ1 Q := by
  simp only [wE, ev, wp_bind]
  congr
  funext v ρ1
  cases rd ρ1 v with
  | none => rfl
  | some d =>
    cases d with
    | obj C fs =>
      rw [wM_obj]
      show (match T.mt C m with | some f => calm (callF T f [true] [v] ρ1) | none => .bad).wp Q = _
      cases T.mt C m with
      | none => rfl
      | some f => simp only [wp_calm, wp_callF, wO_some]
    | _ => rfl
theorem wE_mth {m : Nat} {keep : List Bool} : wE T (.mth m e keep es) ρ Q = wE T e ρ fun v ρ1 => wM T m (rd ρ1 v) fun f => wEs T es ρ1 fun vs ρ2 => wC T f (true :: keep) (v :: vs) ρ2 Q := by
  simp only [wE, wEs, ev, wp_bind]
  congr
  funext v ρ1
  cases rd ρ1 v with
  | none => rfl
  | some d =>
    cases d with
    | obj C fs =>
      rw [wM_obj]
      show (match T.mt C m with | some f => (evs T es ρ1).bind fun vs ρ2 => callF T f (true :: keep) (v :: vs) ρ2 | none => .bad).wp Q = _
      cases T.mt C m with
      | none => rfl
      | some f => simp only [wp_bind, wp_callF, wO_some]
    | _ => rfl
theorem wE_new {C : Nat} {keep : List Bool} : wE T (.new C keep es) ρ Q = wEs T es ρ fun vs ρ1 => wNew T C keep vs ρ1 Q := by
  simp only [wE, wEs, ev, wp_bind]
  congr
  funext vs ρ1
  unfold wNew
  cases T.mt C mInit with
  | none => rfl
  | some f =>
    cases lend ρ1 [] keep vs with
    | none => rfl
    | some p =>
      simp only [wO_some]
      cases T.fn f (.ow (.obj C []) :: p.1) with
      | ok v os =>
        cases v with
        | f d =>
          cases d with
          | non =>
            cases os with
            | nil => rfl
            | cons o os => cases o <;> rfl
          | _ => rfl
        | _ => rfl
      | exc x os =>
        cases os with
        | nil => rfl
        | cons o os => rfl
      | _ => rfl
/-- the own == -/
def wEqo (T : Tb) (neg : Bool) (x y : Option D) (F : Nat → Prop) : Prop := match x, y with
  | some (.obj C _), some (.obj B _) => (B = C ∧ neg = false) ∧ wO (T.mt C mEq) F
  | _, _ => False
theorem wEqo_obj {neg : Bool} {B C : Nat} {fs gs : List (Nat × D)} {F : Nat → Prop} : wEqo T neg (some (.obj C fs)) (some (.obj B gs)) F = ((B = C ∧ neg = false) ∧ wO (T.mt C mEq) F) := rfl
theorem wE_eqo {neg : Bool} : wE T (.eqo neg a b) ρ Q = wE T a ρ fun x ρ1 => wE T b ρ1 fun y ρ2 => wEqo T neg (rd ρ2 x) (rd ρ2 y) fun f => wC T f [] [x, y] ρ2 fun v ρ3 => wB v fun k => Q (.f (.bl k)) ρ3 := by
  simp only [wE, ev, wp_bind]
  congr
  funext x ρ1
  congr
  funext y ρ2
  cases rd ρ2 x with
  | none => rfl
  | some dx =>
    cases rd ρ2 y with
    | none => cases dx <;> rfl
    | some dy =>
      cases dx with
      | obj C fs =>
        cases dy with
        | obj B gs =>
          rw [wEqo_obj]
          show (if B = C ∧ neg = false then _ else Out.bad).wp Q = _
          rw [wp_ite]
          by_cases h : B = C ∧ neg = false
          · rw [if_pos h]
            cases T.mt C mEq with
            | none => simp [h, wO, wp_bad]
            | some f => simp only [wp_bind, wp_callF, wp_truth, wp_ok, wO_some, h, true_and, and_self]
          · rw [if_neg h]; simp [h, wp_bad]
        | _ => rfl
      | _ => cases dy <;> rfl
/-- lists of objects -/
def wEql (T : Tb) (x y : Val) (F : Prop) : Prop := match x, y with
  | .n (.lst xs), .n (.lst ys) => allEq T xs ys = true ∧ F
  | _, _ => False
theorem wEql_n {xs ys : List D} {F : Prop} : wEql T (.n (.lst xs)) (.n (.lst ys)) F = (allEq T xs ys = true ∧ F) := rfl
theorem wE_eql : wE T (.eql a b) ρ Q = wE T a ρ fun x ρ1 => wE T b ρ1 fun y ρ2 => wEql T x y (Q (.f (.bl true)) ρ2) := by
  simp only [wE, ev, wp_bind]
  congr
  funext x ρ1
  congr
  funext y ρ2
  unfold wEql
  split
  · rw [wp_ite]
    split
    · rename_i h; simp [wp_ok, h]
    · rename_i h; simp [wp_bad, h]
  · rename_i h
    cases x with
    | n d =>
      cases d with
      | lst xs =>
        cases y with
        | n d' =>
          cases d' with
          | lst ys => exact (h xs ys rfl rfl).elim
          | _ => rfl
        | _ => rfl
      | _ => rfl
    | _ => rfl
def wPart (v : Val) (F : Option Int → Prop) : Prop := match v with
  | .f (.int i) => F (some i)
  | _ => False
theorem wPart_int {i : Int} {F : Option Int → Prop} : wPart (.f (.int i)) F = F (some i) := rfl
theorem wp_part {v : Val} {Q : Option Int → Env → Prop} : (partOf v ρ).wp Q = wPart v fun x => Q x ρ := by
  cases v with
  | f d => cases d <;> rfl
  | _ => rfl
def wBd (T : Tb) (e : CE) (ρ : Env) (F : Option Int → Env → Prop) : Prop := if absent e then F none ρ else wE T e ρ fun v ρ1 => wPart v fun x => F x ρ1
theorem wBd_non {F : Option Int → Env → Prop} : wBd T (.cst .non) ρ F = F none ρ := rfl
theorem wBd_int {F : Option Int → Env → Prop} {i : Int} : wBd T (.cst (.int i)) ρ F = F (some i) ρ := by simp [wBd, absent, wE_cst, wPart_int]
theorem wBd_var {F : Option Int → Env → Prop} {i : Nat} : wBd T (.var i) ρ F = wE T (.var i) ρ fun v ρ1 => wPart v fun x => F x ρ1 := rfl
theorem wBd_op {F : Option Int → Env → Prop} {o : Op} : wBd T (.op o es) ρ F = wE T (.op o es) ρ fun v ρ1 => wPart v fun x => F x ρ1 := rfl
theorem wE_sli : wE T (.sli e a b) ρ Q = wE T e ρ fun v ρ1 => wBd T a ρ1 fun l ρ2 => wBd T b ρ2 fun h ρ3 => wO (rd ρ3 v) fun d => wO (sliD l h d) fun r => Q r ρ3 := by
  simp only [wE, ev, wp_bind]
  congr
  funext v ρ1
  have bd : ∀ (x : CE) (ρ : Env) (F : Option Int → Env → Prop), (if absent x = true then Out.ok none ρ else (ev T x ρ).bind partOf).wp F = wBd T x ρ F := fun x ρ F => by
    unfold wBd
    rw [wp_ite, wp_bind]
    simp only [wp_ok, wp_part, wE]
  rw [bd]
  congr
  funext l ρ2
  rw [bd]
  congr
  funext h ρ3
  rw [wp_lift, wO_bind]
/-- a change -/
def wMut (o : MOp) (i : Nat) (ds : List D) (ρ : Env) (Q : Val → Env → Prop) : Prop := wO (ownAt ρ i) fun d => wO (mutD o d ds) fun p => wO (putOwn ρ i p.2) fun ρ1 => Q (.f p.1) ρ1
def isLst (s : Option D) : Prop := match s with
  | some (.lst _) => True
  | _ => False
theorem wE_mut {o : MOp} {i : Nat} : wE T (.mut o i es) ρ Q = (isLst (ownAt ρ i) ∧ wEs T es ρ fun vs ρ1 => if o = .append then wDs vs ρ1 fun ds ρ2 => wMut o i ds ρ2 Q else wO (rds ρ1 vs) fun ds => wMut o i ds ρ1 Q) := by
  have fin : ∀ (ds : List D) (ρ2 : Env), (match (ownAt ρ2 i).bind fun d => mutD o d ds with
        | some (r, d) => match putOwn ρ2 i d with
          | some ρ3 => Out.ok (Val.f r) ρ3
          | none => .bad
        | none => .bad).wp Q = wMut o i ds ρ2 Q := fun ds ρ2 => by
    unfold wMut
    cases ownAt ρ2 i with
    | none => rfl
    | some d =>
      show (match mutD o d ds with | some (r, d) => _ | none => Out.bad).wp Q = wO (mutD o d ds) _
      cases mutD o d ds with
      | none => rfl
      | some p =>
        show (match putOwn ρ2 i p.2 with | some ρ3 => Out.ok (Val.f p.1) ρ3 | none => .bad).wp Q = wO (putOwn ρ2 i p.2) _
        cases putOwn ρ2 i p.2 <;> rfl
  simp only [wE, ev]
  cases ownAt ρ i with
  | none => simp [isLst, wp_bad]
  | some d =>
    cases d with
    | lst xs =>
      simp only [isLst, true_and, wEs, wp_bind]
      congr
      funext vs ρ1
      by_cases h : o = .append
      · simp only [h, if_true]
        unfold wDs
        cases frs ρ1 vs with
        | none => rfl
        | some p => subst h; exact fin p.1 p.2
      · simp only [h, if_false]
        cases rds ρ1 vs with
        | none => rfl
        | some ds => exact fin ds ρ1
    | _ => simp [isLst, wp_bad]
/-! ### iterables -/
def wIt (d : D) (F : List D → Prop) : Prop := match d with
  | .lst xs => F xs
  | .tup xs => F xs
  | .dct kvs => F (kvs.map fun p => keyD p.1)
  | .str z => F (z.cps.toList.map fun c => .str ⟨#[c]⟩)
  | _ => False
theorem wI_seq : wI T (.seq e) ρ QD = wE T e ρ fun v ρ1 => wD v ρ1 fun d ρ2 => wIt d fun xs => QD xs ρ2 := by
  simp only [wI, wE, evI, wp_bind, wp_okD]
  congr
  funext v ρ1
  congr
  funext d ρ2
  cases d <;> rfl
theorem wIt_lst {xs : List D} {F : List D → Prop} : wIt (.lst xs) F = F xs := rfl
theorem wIt_tup {xs : List D} {F : List D → Prop} : wIt (.tup xs) F = F xs := rfl
theorem wIt_dct {kvs : List (Key × D)} {F : List D → Prop} : wIt (.dct kvs) F = F (kvs.map fun p => keyD p.1) := rfl
theorem wIt_str {z : Str} {F : List D → Prop} : wIt (.str z) F = F (z.cps.toList.map fun c => .str ⟨#[c]⟩) := rfl
def wInt (v : Val) (F : Int → Prop) : Prop := match v with
  | .f (.int n) => F n
  | _ => False
theorem wInt_int {n : Int} {F : Int → Prop} : wInt (.f (.int n)) F = F n := rfl
theorem wI_rng : wI T (.rng e) ρ QD = wE T e ρ fun v ρ1 => wInt v fun n => small n = true ∧ QD (mapRange 0 n.toNat) ρ1 := by
  simp only [wI, wE, evI, wp_bind]
  congr
  funext v ρ1
  cases v with
  | f d =>
    cases d with
    | int n =>
      show (if small n = true then _ else _ : Out _).wp QD = _
      rw [wp_ite, wInt_int]
      by_cases h : small n = true
      · rw [if_pos h, wp_ok]; simp [h]
      · rw [if_neg h, wp_bad]; simp [h]
    | _ => rfl
  | _ => rfl
theorem wI_rng2 : wI T (.rng2 a b) ρ QD = wE T a ρ fun v ρ1 => wE T b ρ1 fun w ρ2 => wInt v fun i => wInt w fun j => (small i && small j) = true ∧ QD (mapRange i (j - i).toNat) ρ2 := by
  simp only [wI, wE, evI, wp_bind]
  congr
  funext v ρ1
  congr
  funext w ρ2
  cases v with
  | f d =>
    cases d with
    | int n =>
      cases w with
      | f d =>
        cases d with
        | int m =>
          show (if (small n && small m) = true then _ else _ : Out _).wp QD = _
          rw [wp_ite, wInt_int, wInt_int]
          by_cases h : (small n && small m) = true
          · rw [if_pos h, wp_ok]; simp [h]
          · rw [if_neg h, wp_bad]; simp [h]
        | _ => rfl
      | _ => rfl
    | _ => rfl
  | _ => rfl
def wDct (d : D) (F : List (Key × D) → Prop) : Prop := match d with
  | .dct kvs => F kvs
  | _ => False
theorem wDct_dct {kvs : List (Key × D)} {F : List (Key × D) → Prop} : wDct (.dct kvs) F = F kvs := rfl
theorem wI_itm : wI T (.itm e) ρ QD = wE T e ρ fun v ρ1 => wD v ρ1 fun d ρ2 => wDct d fun kvs => QD (kvs.map fun p => .tup [keyD p.1, p.2]) ρ2 := by
  simp only [wI, wE, evI, wp_bind, wp_okD]
  congr
  funext v ρ1
  congr
  funext d ρ2
  cases d <;> rfl
theorem wI_val : wI T (.val e) ρ QD = wE T e ρ fun v ρ1 => wD v ρ1 fun d ρ2 => wDct d fun kvs => QD (kvs.map (·.2)) ρ2 := by
  simp only [wI, wE, evI, wp_bind, wp_okD]
  congr
  funext v ρ1
  congr
  funext d ρ2
  cases d <;> rfl
def wLst (d : D) (F : List D → Prop) : Prop := match d with
  | .lst xs => F xs
  | _ => False
theorem wLst_lst {xs : List D} {F : List D → Prop} : wLst (.lst xs) F = F xs := rfl
theorem wI_zip : wI T (.zip a b) ρ QD = wE T a ρ fun v ρ1 => wE T b ρ1 fun w ρ2 => wD v ρ2 fun x ρ3 => wD w ρ3 fun y ρ4 => wLst x fun xs => wLst y fun ys => QD ((xs.zip ys).map fun p => .tup [p.1, p.2]) ρ4 := by
  simp only [wI, wE, evI, wp_bind, wp_okD]
  congr
  funext v ρ1
  congr
  funext w ρ2
  congr
  funext x ρ3
  congr
  funext y ρ4
  cases x with
  | lst xs => cases y <;> rfl
  | _ => rfl
theorem wI_enm : wI T (.enm e) ρ QD = wE T e ρ fun v ρ1 => wD v ρ1 fun d ρ2 => wLst d fun xs => QD (xs.zipIdx.map fun p => .tup [.int (p.2 : Nat), p.1]) ρ2 := by
  simp only [wI, wE, evI, wp_bind, wp_okD]
  congr
  funext v ρ1
  congr
  funext d ρ2
  cases d <;> rfl
/-! ### comprehensions -/
/-- the items of a list comprehension -/
@[irreducible] def wG (T : Tb) (e c : CE) (t : CT) (own : List Nat) (items : List D) (ρ : Env) (Q : List D → Env → Prop) : Prop :=
  (gather (fun x ρ => match tgt ρ t x with
        | none => .bad
        | some ρ => (ev T c ρ).bind fun b ρ => truth b ρ fun k ρ => if k then (ev T e ρ).bind fun v ρ => (okD v ρ).bind fun d ρ => .ok [d] (wipeE ρ own) else .ok [] (wipeE ρ own)) items ρ).wp Q
theorem wG_nil {t : CT} {own : List Nat} : wG T e c t own [] ρ QD = QD [] ρ := by
  unfold wG
  rfl
theorem wG_cons {t : CT} {own : List Nat} {x : D} {r : List D} : wG T e c t own (x :: r) ρ QD = wO (tgt ρ t x) fun ρ1 => wE T c ρ1 fun b ρ2 => wB b fun k => wK k
    (wE T e ρ2 fun v ρ3 => wD v ρ3 fun d ρ4 => wG T e c t own r (wipeE ρ4 own) fun ds ρ5 => QD (d :: ds) ρ5) (wG T e c t own r (wipeE ρ2 own) QD) := by
  unfold wG
  show ((Out.bind (match tgt ρ t x with | none => .bad | some ρ => _) _) : Out _).wp QD = _
  cases tgt ρ t x with
  | none => rfl
  | some ρ1 =>
    simp only [wp_bind, wp_truth, wp_ite, wp_ok, wp_okD, wO_some, wK_if, wE]
    congr
theorem wE_lc {t : CT} {it : CI} {own : List Nat} : wE T (.lc e t it c own) ρ Q = wI T it ρ fun items ρ1 => wG T e c t own items (wipeE ρ1 own) fun ds ρ2 => ds.length ≤ LIM ∧ Q (.n (.lst ds)) (unwipe ρ1 ρ2 own) := by
  simp only [wE, wI, ev, wp_bind, wp_calm]
  congr
  funext items ρ1
  unfold wG
  congr
  funext ds ρ2
  rw [wp_ite]
  by_cases h : ds.length ≤ LIM
  · rw [if_pos h, wp_ok]; simp [h]
  · rw [if_neg h, wp_bad]; simp [h]
/-- the items of a dict comprehension -/
@[irreducible] def wH (T : Tb) (k e c : CE) (t : CT) (own : List Nat) (items : List D) (ρ : Env) (Q : List (Key × D) → Env → Prop) : Prop :=
  (gather (fun x ρ => match tgt ρ t x with
        | none => .bad
        | some ρ => (ev T c ρ).bind fun b ρ => truth b ρ fun q ρ => if q then (ev T k ρ).bind fun kv ρ => (ev T e ρ).bind fun v ρ => match (rd ρ kv).bind keyOf with
          | some key => (okD v ρ).bind fun d ρ => .ok [(key, d)] (wipeE ρ own)
          | none => .bad
          else .ok [] (wipeE ρ own)) items ρ).wp Q
theorem wH_nil {k : CE} {t : CT} {own : List Nat} {Q : List (Key × D) → Env → Prop} : wH T k e c t own [] ρ Q = Q [] ρ := by
  unfold wH
  rfl
theorem wH_cons {k : CE} {t : CT} {own : List Nat} {x : D} {r : List D} {Q : List (Key × D) → Env → Prop} : wH T k e c t own (x :: r) ρ Q = wO (tgt ρ t x) fun ρ1 => wE T c ρ1 fun b ρ2 => wB b fun q => wK q
    (wE T k ρ2 fun kv ρ3 => wE T e ρ3 fun v ρ4 => wO ((rd ρ4 kv).bind keyOf) fun key => wD v ρ4 fun d ρ5 => wH T k e c t own r (wipeE ρ5 own) fun ds ρ6 => Q ((key, d) :: ds) ρ6) (wH T k e c t own r (wipeE ρ2 own) Q) := by
  unfold wH
  show ((Out.bind (match tgt ρ t x with | none => .bad | some ρ => _) _) : Out _).wp Q = _
  cases tgt ρ t x with
  | none => rfl
  | some ρ1 =>
    simp only [wp_bind, wp_truth, wp_ite, wp_ok, wp_okD, wO_some, wK_if, wE]
    congr
    funext b ρ2
    congr
    funext q
    congr
    funext kv ρ3
    congr
    funext v ρ4
    cases (rd ρ4 kv).bind keyOf with
    | none => rfl
    | some key =>
      simp only [wp_bind, wp_okD, wp_ok, wO_some]
      congr
theorem wE_dc {k : CE} {t : CT} {it : CI} {own : List Nat} : wE T (.dc k e t it c own) ρ Q = wI T it ρ fun items ρ1 => wH T k e c t own items (wipeE ρ1 own) fun ps ρ2 => ps.length ≤ LIM ∧ Q (.n (.dct (putAll [] ps))) (unwipe ρ1 ρ2 own) := by
  simp only [wE, wI, ev, wp_bind, wp_calm]
  congr
  funext items ρ1
  unfold wH
  congr
  funext ds ρ2
  rw [wp_ite]
  by_cases h : ds.length ≤ LIM
  · rw [if_pos h, wp_ok]; simp [h]
  · rw [if_neg h, wp_bad]; simp [h]
/-! ### statements -/
theorem wSs_nil : wSs T .nil ρ K = K.nx ρ := by simp only [wSs, exs, SOut.wp]
theorem wSs_cons {s : CS} {ss : CSs} : wSs T (.cons s ss) ρ K = wS T s ρ { K with nx := fun ρ => wSs T ss ρ K } := by
  simp only [wSs, wS, exs]
  cases ex T s ρ <;> rfl
theorem wS_asg {i : Nat} {own : Bool} : wS T (.asg (.nm i) own e) ρ K = wE T e ρ fun v ρ1 => wO (store ρ1 i own v) K.nx := by simp only [wS, wE, ex, wp_toS, wp_nxt]
theorem wS_asgT {is : List Nat} {own : Bool} : wS T (.asg (.tp is) own e) ρ K = wE T e ρ fun v ρ1 => wD v ρ1 fun d ρ2 => wO (tgt ρ2 (.tp is) d) K.nx := by simp only [wS, wE, ex, wp_toS, wp_nxt, wp_okD]
theorem wS_asgQ {is : List (List Nat)} {own : Bool} : wS T (.asg (.tq is) own e) ρ K = wE T e ρ fun v ρ1 => wD v ρ1 fun d ρ2 => wO (tgt ρ2 (.tq is) d) K.nx := by simp only [wS, wE, ex, wp_toS, wp_nxt, wp_okD]
theorem wS_par {is : List Nat} {owns : List Bool} : wS T (.par is owns es) ρ K = wEs T es ρ fun vs ρ1 => wO (prep ρ1 owns vs) fun p => wO (storeAll p.2 is p.1) K.nx := by simp only [wS, wEs, ex, wp_toS, wp_nxt, wO_bind]
/-- x op= y -/
def wAug (i : Nat) (ρ : Env) (K : Kn) (v : Val) : Prop := match v with
  | .f d => wO (setS ρ i (.fz d)) K.nx
  | _ => False
theorem wAug_f {i : Nat} {d : D} : wAug i ρ K (.f d) = wO (setS ρ i (.fz d)) K.nx := rfl
def wFz (s : Slot) (F : D → Prop) : Prop := match s with
  | .fz d => F d
  | _ => False
theorem wFz_fz {d : D} {F : D → Prop} : wFz (.fz d) F = F d := rfl
theorem wS_aug {i : Nat} {o : Op} : wS T (.aug i o e) ρ K = wFz (slotAt ρ i) fun x => wE T e ρ fun v ρ1 => wO (rd ρ1 v) fun y => wO (opAug o x y) fun r => wAug i ρ1 K r := by
  simp only [wS, ex]
  cases slotAt ρ i with
  | fz x =>
    simp only [wFz_fz, wE, wp_toS]
    congr
    funext v ρ1
    cases rd ρ1 v with
    | none => rfl
    | some y =>
      show (match opAug o x y with | some (.f d) => nxt (setS ρ1 i (.fz d)) | _ => .bad).wp K = wO (opAug o x y) _
      cases opAug o x y with
      | none => rfl
      | some r =>
        cases r with
        | f d => simp only [wp_nxt, wO_some, wAug_f]
        | _ => rfl
  | _ => rfl
theorem wS_sset {i : Nat} {k : CE} : wS T (.sset i k e) ρ K = ((ownAt ρ i).isSome = true ∧ wE T e ρ fun v ρ1 => wE T k ρ1 fun kv ρ2 => wO (rd ρ2 kv) fun kd => wD v ρ2 fun d ρ3 => wO (ownAt ρ3 i) fun o => wO (setD o kd d) fun o => wO (putOwn ρ3 i o) K.nx) := by
  simp only [wS, ex]
  by_cases h : (ownAt ρ i).isSome = true
  · rw [if_pos h]
    simp only [h, true_and, wE, wp_toS]
    congr
    funext v ρ1
    congr
    funext kv ρ2
    cases rd ρ2 kv with
    | none => rfl
    | some kd =>
      unfold wD
      cases fr ρ2 v with
      | none => rfl
      | some p => simp only [wp_nxt, wO_some, wO_bind]
  · rw [if_neg h]
    simp [h, SOut.wp]
/-- self.a = x -/
def wFset (T : Tb) (i a : Nat) (d : D) (ρ : Env) (o : Option D) (F : Env → Prop) : Prop := match o with
  | some (.obj C fs) => (fs.length < 1000 ∧ T.fl C a = true) ∧ wO (putOwn ρ i (.obj C (setF a d fs))) F
  | _ => False
theorem wFset_obj {i n C : Nat} {d : D} {fs : List (Nat × D)} {F : Env → Prop} : wFset T i n d ρ (some (.obj C fs)) F = ((fs.length < 1000 ∧ T.fl C n = true) ∧ wO (putOwn ρ i (.obj C (setF n d fs))) F) := rfl
theorem wS_fset {i n : Nat} : wS T (.fset i n e) ρ K = ((ownAt ρ i).isSome = true ∧ wE T e ρ fun v ρ1 => wD v ρ1 fun d ρ2 => wFset T i n d ρ2 (ownAt ρ2 i) K.nx) := by
  simp only [wS, ex]
  by_cases h : (ownAt ρ i).isSome = true
  · rw [if_pos h]
    simp only [h, true_and, wE, wp_toS, wp_okD]
    congr
    funext v ρ1
    congr
    funext d ρ2
    cases ownAt ρ2 i with
    | none => rfl
    | some o =>
      cases o with
      | obj C fs =>
        rw [wFset_obj]
        show (if (decide (fs.length < 1000) && T.fl C n) = true then nxt _ else _ : SOut).wp K = _
        by_cases q : fs.length < 1000 ∧ T.fl C n = true
        · rw [if_pos (by simp [q]), wp_nxt]; simp [q]
        · rw [if_neg (by simpa using q)]; simp only [q, false_and]; rfl
      | _ => rfl
  · rw [if_neg h]
    simp [h, SOut.wp]
theorem wS_exp : wS T (.exp e) ρ K = wE T e ρ fun _ ρ1 => K.nx ρ1 := by
  simp only [wS, wE, ex, wp_toS]
  rfl
/-- a value returned -/
def wRet (v : Val) (ρ : Env) (F : Val → Env → Prop) : Prop := match v with
  | .v i => match slotAt ρ i with
    | .ow d => F (.n d) (ρ.set i .no)
    | .fz d => F (.f d) ρ
    | _ => False
  | v => F v ρ
theorem wRet_f {d : D} {F : Val → Env → Prop} : wRet (.f d) ρ F = F (.f d) ρ := rfl
theorem wRet_n {d : D} {F : Val → Env → Prop} : wRet (.n d) ρ F = F (.n d) ρ := rfl
def wRv (s : Slot) (i : Nat) (ρ : Env) (F : Val → Env → Prop) : Prop := match s with
  | .ow d => F (.n d) (ρ.set i .no)
  | .fz d => F (.f d) ρ
  | _ => False
theorem wRet_v {i : Nat} {F : Val → Env → Prop} : wRet (.v i) ρ F = wRv (slotAt ρ i) i ρ F := rfl
theorem wRv_ow {d : D} {i : Nat} {F : Val → Env → Prop} : wRv (.ow d) i ρ F = F (.n d) (ρ.set i .no) := rfl
theorem wRv_fz {d : D} {i : Nat} {F : Val → Env → Prop} : wRv (.fz d) i ρ F = F (.f d) ρ := rfl
theorem wS_ret : wS T (.ret e) ρ K = wE T e ρ fun v ρ1 => wRet v ρ1 K.rt := by
  simp only [wS, wE, ex, wp_toS]
  congr
  funext v ρ1
  cases v with
  | v i =>
    rw [wRet_v]
    unfold wRv
    show (match slotAt ρ1 i with | .ow d => SOut.rt (.n d) (ρ1.set i .no) | .fz d => .rt (.f d) ρ1 | _ => .bad).wp K = _
    cases slotAt ρ1 i <;> rfl
  | _ => rfl
theorem wS_retN : wS T .retN ρ K = K.rt (.f .non) ρ := by simp only [wS, ex, SOut.wp]
theorem wS_ifs {x y : CSs} : wS T (.ifs c x y) ρ K = wE T c ρ fun v ρ1 => wB v fun k => wK k (wSs T x ρ1 K) (wSs T y ρ1 K) := by
  simp only [wS, wE, wSs, ex, wp_toS]
  congr
  funext v ρ1
  cases v with
  | f d =>
    cases d with
    | bl k => cases k <;> simp [wB, wK]
    | _ => rfl
  | _ => rfl
theorem wS_pass : wS T .pass ρ K = K.nx ρ := by simp only [wS, ex, SOut.wp]
theorem wS_brk : wS T .brk ρ K = K.br ρ := by simp only [wS, ex, SOut.wp]
theorem wS_cnt : wS T .cnt ρ K = K.ct ρ := by simp only [wS, ex, SOut.wp]
theorem wS_wall : wS T .wall ρ K = False := by simp only [wS, ex, SOut.wp]
/-- the turns of a for -/
@[irreducible] def wFor (T : Tb) (t : CT) (b : CSs) (items : List D) (ρ : Env) (K : Kn) : Prop := (eachS (fun x ρ => match tgt ρ t x with
    | some ρ => exs T b ρ
    | none => .bad) items ρ).wp K
theorem wS_fors {t : CT} {it : CI} {x : CSs} : wS T (.fors t it x) ρ K = wI T it ρ fun items ρ1 => wFor T t x items ρ1 K := by
  simp only [wS, wI, ex, wp_toS, wFor]
  all_goals rfl
theorem wFor_nil {t : CT} {x : CSs} : wFor T t x [] ρ K = K.nx ρ := by
  unfold wFor
  rfl
theorem wFor_cons {t : CT} {x : CSs} {d : D} {r : List D} : wFor T t x (d :: r) ρ K = wO (tgt ρ t d) fun ρ1 => wSs T x ρ1 { nx := fun ρ => wFor T t x r ρ K, ct := fun ρ => wFor T t x r ρ K, br := K.nx, rt := K.rt } := by
  unfold wFor
  show (match (match tgt ρ t d with | some ρ => exs T x ρ | none => SOut.bad) with
    | .nx ρ1 => eachS _ r ρ1
    | .ct ρ1 => eachS _ r ρ1
    | .br ρ1 => .nx ρ1
    | .rt v ρ1 => .rt v ρ1
    | .exc e ρ1 => .exc e ρ1
    | .bad => .bad).wp K = _
  cases tgt ρ t d with
  | none => rfl
  | some ρ1 =>
    simp only [wO_some, wSs]
    cases exs T x ρ1 <;> rfl
/-- a for by what holds between two turns -/
theorem wFor_inv {t : CT} {x : CSs} (I : List D → Env → Prop) {items : List D} (h0 : I items ρ) (hs : ∀ d r ρ, I (d :: r) ρ → wO (tgt ρ t d) fun ρ1 => wSs T x ρ1 { nx := I r, ct := I r, br := K.nx, rt := K.rt }) (h1 : ∀ ρ, I [] ρ → K.nx ρ) : wFor T t x items ρ K := by
  induction items generalizing ρ with
  | nil => rw [wFor_nil]; exact h1 ρ h0
  | cons d r ih =>
    rw [wFor_cons]
    exact wO_imp (hs d r ρ h0) fun ρ1 h => wSs_imp h ⟨fun ρ h => ih h, fun _ _ h => h, fun _ h => h, fun ρ h => ih h⟩
@[irreducible] def wWhl (T : Tb) (c : CE) (b : CSs) (n : Nat) (ρ : Env) (K : Kn) : Prop := (whileN (fun ρ => ev T c ρ) (fun ρ => exs T b ρ) n ρ).wp K
theorem wS_whl {x : CSs} : wS T (.whl c x) ρ K = wWhl T c x TURNS ρ K := by simp only [wS, ex, wWhl]
theorem wWhl_succ {x : CSs} {n : Nat} : wWhl T c x (n + 1) ρ K = wE T c ρ fun v ρ1 => wB v fun k => wK k (wSs T x ρ1 { nx := fun ρ => wWhl T c x n ρ K, ct := fun ρ => wWhl T c x n ρ K, br := K.nx, rt := K.rt }) (K.nx ρ1) := by
  simp only [wWhl, wE, whileN, wp_toS]
  congr
  funext v ρ1
  cases v with
  | f d =>
    cases d with
    | bl k =>
      cases k
      · simp [wB, wK, SOut.wp]
      · simp only [wB_bl, wK_t, wSs]
        cases exs T x ρ1 <;> rfl
    | _ => rfl
  | _ => rfl
/-- a while by what holds between two turns, and a number that falls -/
theorem wWhl_inv {x : CSs} (I : Nat → Env → Prop) {m : Nat} (h0 : I m ρ)
    (hs : ∀ m ρ, I m ρ → wE T c ρ fun v ρ1 => wB v fun k => wK k (wSs T x ρ1 { nx := fun ρ => ∃ m', m' < m ∧ I m' ρ, ct := fun ρ => ∃ m', m' < m ∧ I m' ρ, br := K.nx, rt := K.rt }) (K.nx ρ1)) {n : Nat} (hm : m < n) : wWhl T c x n ρ K := by
  induction n generalizing m ρ with
  | zero => omega
  | succ n ih =>
    rw [wWhl_succ]
    refine wE_imp (hs m ρ h0) fun v ρ1 h => ?_
    cases v with
    | f d =>
      cases d with
      | bl k =>
        simp only [wB_bl] at h ⊢
        refine ⟨fun e => wSs_imp (h.1 e) ⟨?_, fun _ _ h => h, fun _ h => h, ?_⟩, h.2⟩
        · rintro ρ ⟨m', lt, i⟩; exact ih i (by omega)
        · rintro ρ ⟨m', lt, i⟩; exact ih i (by omega)
      | _ => exact h
    | _ => exact h
/-! ### calls -/
/-- what a body's end gives its caller -/
def kOf (np : Nat) (Q : Val → List Slot → Prop) : Kn where
  nx := fun ρ => Q (.f .non) ((ρ.take np).map outS)
  rt := fun v ρ => notV v ∧ Q v ((ρ.take np).map outS)
  br := fun _ => False
  ct := fun _ => False
theorem kOf_nx {np : Nat} {Q : Val → List Slot → Prop} : (kOf np Q).nx ρ = Q (.f .non) ((ρ.take np).map outS) := rfl
theorem kOf_rt {np : Nat} {Q : Val → List Slot → Prop} {v : Val} : (kOf np Q).rt v ρ = (notV v ∧ Q v ((ρ.take np).map outS)) := rfl
theorem wp_fok {v : Val} {os : List Slot} {Q : Val → List Slot → Prop} : (FOut.ok v os).wp Q = Q v os := rfl
theorem wp_run {nl : Nat} {bd : CSs} {as : List Slot} {Q : Val → List Slot → Prop} (h : wSs T bd (as.map inS ++ List.replicate (nl - as.length) .no) (kOf as.length Q)) : (run T nl bd as).wp Q := by
  unfold run
  unfold wSs at h
  cases q : exs T bd (as.map inS ++ List.replicate (nl - as.length) .no) with
  | rt v ρ =>
    rw [q] at h
    cases v with
    | v i => exact h.1.elim
    | f d => exact h.2
    | n d => exact h.2
  | nx ρ => rw [q] at h; exact h
  | _ => rw [q] at h; exact h.elim
theorem wp_runF {P : Pg} {n f np nl : Nat} {bd : CSs} {as : List Slot} {Q : Val → List Slot → Prop} (hf : P.fd f = some (.body np nl bd)) (hl : as.length = np)
    (h : wSs ⟨runF P n, P.gl, P.mt, P.fl⟩ bd (as.map inS ++ List.replicate (nl - as.length) .no) (kOf as.length Q)) : (runF P (n + 1) f as).wp Q := by
  simp only [runF, hf, hl, if_true]
  exact wp_run h
end
end PV

set_option Elab.async false
set_option linter.all false
set_option maxRecDepth 100000
set_option maxHeartbeats 1000000
/-! WpB: slots, calls, operations: rules for simp; the bundles pvE (expressions), pvS (statements), pvO (operations). -/
namespace PV
open PySem L2
section
variable {T : Tb} {α β : Type} {ρ : Env} {Q : Val → Env → Prop} {K : Kn} {a b c e : CE} {es : CEs} {i j : Nat} {s : Slot} {d : D} {x : Val} {r vs : List Val}
theorem slotAt_nil : slotAt [] i = .no := rfl
theorem slotAt_zero : slotAt (s :: ρ) 0 = s := rfl
theorem slotAt_succ : slotAt (s :: ρ) (i + 1) = slotAt ρ i := rfl
theorem set_zero {t : Slot} : List.set (s :: ρ) 0 t = t :: ρ := rfl
theorem set_succ {t : Slot} : List.set (s :: ρ) (i + 1) t = s :: List.set ρ i t := rfl
theorem set_nil {t : Slot} : List.set ([] : Env) i t = [] := rfl
def rdS : Slot → Option D
  | .ow d => some d | .pw d => some d | .fz d => some d | .no => none
theorem rd_f : rd ρ (.f d) = some d := rfl
theorem rd_n : rd ρ (.n d) = some d := rfl
theorem rd_v : rd ρ (.v i) = rdS (slotAt ρ i) := by
  simp only [rd]
  cases slotAt ρ i <;> rfl
theorem rdS_ow : rdS (.ow d) = some d := rfl
theorem rdS_pw : rdS (.pw d) = some d := rfl
theorem rdS_fz : rdS (.fz d) = some d := rfl
theorem rds_nil {F : List D → Prop} : wO (rds ρ []) F = F [] := rfl
theorem rds_cons {F : List D → Prop} : wO (rds ρ (x :: r)) F = wO (rd ρ x) fun d => wO (rds ρ r) fun ds => F (d :: ds) := by
  simp only [rds]
  cases rd ρ x with
  | none => rfl
  | some d => cases rds ρ r <;> rfl
def ownS : Slot → Option D
  | .ow d => some d | .pw d => some d | _ => none
theorem ownAt_eq : ownAt ρ i = ownS (slotAt ρ i) := by
  unfold ownAt ownS
  cases slotAt ρ i <;> rfl
theorem ownS_ow : ownS (.ow d) = some d := rfl
theorem ownS_pw : ownS (.pw d) = some d := rfl
def putS (s : Slot) (ρ : Env) (i : Nat) (d : D) (F : Env → Prop) : Prop := match s with
  | .ow _ => F (ρ.set i (.ow d))
  | .pw _ => F (ρ.set i (.pw d))
  | _ => False
theorem putOwn_eq {F : Env → Prop} : wO (putOwn ρ i d) F = putS (slotAt ρ i) ρ i d F := by
  unfold putOwn putS
  cases slotAt ρ i <;> rfl
theorem putS_ow {e : D} {F : Env → Prop} : putS (.ow e) ρ i d F = F (ρ.set i (.ow d)) := rfl
theorem putS_pw {e : D} {F : Env → Prop} : putS (.pw e) ρ i d F = F (ρ.set i (.pw d)) := rfl
theorem setS_eq {F : Env → Prop} : wO (setS ρ i s) F = ((npw (slotAt ρ i) ∧ i < ρ.length) ∧ F (ρ.set i s)) := by
  unfold setS
  cases slotAt ρ i <;> simp only [npw, true_and, false_and] <;> first | rfl | (split <;> rename_i h <;> simp [h, wO])
theorem npw_fz : npw (.fz d) = True := rfl
theorem npw_ow : npw (.ow d) = True := rfl
theorem npw_no : npw .no = True := rfl
theorem npw_pw : npw (.pw d) = False := rfl
theorem store_n {F : Env → Prop} : wO (store ρ i true (.n d)) F = wO (setS ρ i (.ow d)) F := rfl
theorem store_f {w : Bool} {F : Env → Prop} : wO (store ρ i w (.f d)) F = wO (setS ρ i (.fz d)) F := by cases w <;> rfl
theorem store_nf {F : Env → Prop} : wO (store ρ i false (.n d)) F = wO (setS ρ i (.fz d)) F := rfl
theorem store_v {w : Bool} {F : Env → Prop} : wO (store ρ i w (.v j)) F = wD (.v j) ρ fun d ρ1 => wO (setS ρ1 i (.fz d)) F := by
  unfold wD
  cases w <;> (show wO ((fr ρ (.v j)).bind _) F = _; rw [wO_bind])
theorem tgt_nm {F : Env → Prop} : wO (tgt ρ (.nm i) d) F = wO (setS ρ i (.fz d)) F := rfl
theorem tgt_tp {is : List Nat} {xs : List D} {F : Env → Prop} : wO (tgt ρ (.tp is) (.tup xs)) F = wO (setMany ρ is xs) F := rfl
theorem tgt_tq {is : List (List Nat)} {xs : List D} {F : Env → Prop} : wO (tgt ρ (.tq is) (.tup xs)) F = wO (setQ ρ is xs) F := rfl
theorem setMany_nil {F : Env → Prop} : wO (setMany ρ [] []) F = F ρ := rfl
theorem setMany_cons {is : List Nat} {xs : List D} {F : Env → Prop} : wO (setMany ρ (i :: is) (d :: xs)) F = wO (setS ρ i (.fz d)) fun ρ1 => wO (setMany ρ1 is xs) F := by simp only [setMany, wO_bind]
theorem setQ_nil {F : Env → Prop} : wO (setQ ρ [] []) F = F ρ := rfl
theorem setQ_cons {is : List (List Nat)} {xs : List D} {F : Env → Prop} : wO (setQ ρ ([i] :: is) (d :: xs)) F = wO (setS ρ i (.fz d)) fun ρ1 => wO (setQ ρ1 is xs) F := by simp only [setQ, wO_bind]
theorem setQ_tup {is : List (List Nat)} {k l : Nat} {js : List Nat} {xs ds : List D} {F : Env → Prop} : wO (setQ ρ ((k :: l :: js) :: is) (.tup ds :: xs)) F = wO (setMany ρ (k :: l :: js) ds) fun ρ1 => wO (setQ ρ1 is xs) F := by simp only [setQ, wO_bind]
theorem prep_nil {k : List Bool} {F : List Val × Env → Prop} : wO (prep ρ k []) F = F ([], ρ) := rfl
theorem prep_nt {k : List Bool} {F : List Val × Env → Prop} : wO (prep ρ (true :: k) (.n d :: r)) F = wO (prep ρ k r) fun p => F (.n d :: p.1, p.2) := by simp only [prep, List.headD_cons, if_true, List.tail_cons, wO_map]
theorem prep_nf {k : List Bool} {F : List Val × Env → Prop} : wO (prep ρ (false :: k) (.n d :: r)) F = wO (prep ρ k r) fun p => F (.f d :: p.1, p.2) := by
  show wO ((prep ρ k r).map fun p => (.f d :: p.1, p.2)) F = _
  rw [wO_map]
theorem prep_f {w : Bool} {k : List Bool} {F : List Val × Env → Prop} : wO (prep ρ (w :: k) (.f d :: r)) F = wO (prep ρ k r) fun p => F (.f d :: p.1, p.2) := by
  show wO ((fr ρ (.f d)).bind fun q => (prep q.2 k r).map fun p => (.f q.1 :: p.1, p.2)) F = _
  simp only [fr, Option.bind, wO_map]
theorem prep_v {w : Bool} {k : List Bool} {F : List Val × Env → Prop} : wO (prep ρ (w :: k) (.v i :: r)) F = wD (.v i) ρ fun d ρ1 => wO (prep ρ1 k r) fun p => F (.f d :: p.1, p.2) := by
  show wO ((fr ρ (.v i)).bind fun q => (prep q.2 k r).map fun p => (.f q.1 :: p.1, p.2)) F = _
  simp only [wO_bind, wO_map]; rfl
theorem storeAll_nil {F : Env → Prop} : wO (storeAll ρ [] []) F = F ρ := rfl
theorem storeAll_f {is : List Nat} {F : Env → Prop} : wO (storeAll ρ (i :: is) (.f d :: r)) F = wO (setS ρ i (.fz d)) fun ρ1 => wO (storeAll ρ1 is r) F := by simp only [storeAll, put1, wO_bind]
theorem storeAll_n {is : List Nat} {F : Env → Prop} : wO (storeAll ρ (i :: is) (.n d :: r)) F = wO (setS ρ i (.ow d)) fun ρ1 => wO (storeAll ρ1 is r) F := by simp only [storeAll, put1, wO_bind]
/-! ### calls -/
theorem lend_nil {u : List Nat} {k : List Bool} {F : List Slot × Env → Prop} : wO (lend ρ u k []) F = F ([], ρ) := by cases k <;> rfl
theorem lend_f {u : List Nat} {k : List Bool} {F : List Slot × Env → Prop} : wO (lend ρ u k (.f d :: r)) F = wO (lend ρ u k.tail r) fun p => F (.fz d :: p.1, p.2) := by
  rw [lend, wO_map]
theorem lend_n {u : List Nat} {k : List Bool} {F : List Slot × Env → Prop} : wO (lend ρ u k (.n d :: r)) F = wO (lend ρ u k.tail r) fun p => F (.fz d :: p.1, p.2) := by
  rw [lend, wO_map]
def lendS (s : Slot) (ρ : Env) (u : List Nat) (k : List Bool) (i : Nat) (r : List Val) (F : List Slot × Env → Prop) : Prop := match s with
  | .ow d => i ∉ u ∧ wO (lend ρ (i :: u) k r) fun p => F (.ow d :: p.1, p.2)
  | .pw d => i ∉ u ∧ wO (lend ρ (i :: u) k r) fun p => F (.ow d :: p.1, p.2)
  | .fz d => wO (lend ρ u k r) fun p => F (.fz d :: p.1, p.2)
  | .no => False
theorem lend_vt {u : List Nat} {k : List Bool} {F : List Slot × Env → Prop} : wO (lend ρ u (true :: k) (.v i :: r)) F = lendS (slotAt ρ i) ρ u k i r F := by
  show wO (match slotAt ρ i with
      | .ow d => if i ∈ u then none else (lend ρ (i :: u) k r).map fun p => (.ow d :: p.1, p.2)
      | .pw d => if i ∈ u then none else (lend ρ (i :: u) k r).map fun p => (.ow d :: p.1, p.2)
      | .fz d => (lend ρ u k r).map fun p => (.fz d :: p.1, p.2)
      | .no => none) F = _
  unfold lendS
  cases slotAt ρ i with
  | ow d => by_cases h : i ∈ u <;> simp [h, wO_map, wO_none]
  | pw d => by_cases h : i ∈ u <;> simp [h, wO_map, wO_none]
  | fz d => simp [wO_map]
  | no => rfl
theorem lend_vx {u : List Nat} {k : List Bool} {F : List Slot × Env → Prop} : wO (if i ∈ u then none else match fr ρ (.v i) with
      | some (d, ρ1) => (lend ρ1 u k r).map fun p => (.fz d :: p.1, p.2)
      | none => none) F = (i ∉ u ∧ wD (.v i) ρ fun d ρ1 => wO (lend ρ1 u k r) fun p => F (.fz d :: p.1, p.2)) := by
  by_cases h : i ∈ u
  · simp [h, wO_none]
  · simp only [h, if_false, not_false_eq_true, true_and]
    unfold wD
    cases fr ρ (.v i) with
    | none => rfl
    | some p => simp only [wO_map, wO_some]
theorem lend_vf {u : List Nat} {k : List Bool} {F : List Slot × Env → Prop} : wO (lend ρ u (false :: k) (.v i :: r)) F = (i ∉ u ∧ wD (.v i) ρ fun d ρ1 => wO (lend ρ1 u k r) fun p => F (.fz d :: p.1, p.2)) := lend_vx
theorem lend_v0 {u : List Nat} {F : List Slot × Env → Prop} : wO (lend ρ u [] (.v i :: r)) F = (i ∉ u ∧ wD (.v i) ρ fun d ρ1 => wO (lend ρ1 u [] r) fun p => F (.fz d :: p.1, p.2)) := lend_vx
theorem lendS_ow {u : List Nat} {k : List Bool} {F : List Slot × Env → Prop} : lendS (.ow d) ρ u k i r F = (i ∉ u ∧ wO (lend ρ (i :: u) k r) fun p => F (.ow d :: p.1, p.2)) := rfl
theorem lendS_pw {u : List Nat} {k : List Bool} {F : List Slot × Env → Prop} : lendS (.pw d) ρ u k i r F = (i ∉ u ∧ wO (lend ρ (i :: u) k r) fun p => F (.ow d :: p.1, p.2)) := rfl
theorem lendS_fz {u : List Nat} {k : List Bool} {F : List Slot × Env → Prop} : lendS (.fz d) ρ u k i r F = wO (lend ρ u k r) fun p => F (.fz d :: p.1, p.2) := rfl
theorem back_nil {as os : List Slot} : back ρ [] as os = ρ := by cases as <;> cases os <;> rfl
theorem back_f {a o : Slot} {as os : List Slot} : back ρ (.f d :: r) (a :: as) (o :: os) = back ρ r as os := by cases a <;> rfl
theorem back_n {a o : Slot} {as os : List Slot} : back ρ (.n d :: r) (a :: as) (o :: os) = back ρ r as os := by cases a <;> rfl
theorem back_vf {o : Slot} {as os : List Slot} : back ρ (.v i :: r) (.fz d :: as) (o :: os) = back ρ r as os := rfl
theorem back_vo {o : Slot} {as os : List Slot} : back ρ (.v i :: r) (.ow d :: as) (o :: os) = back (backS ρ i o) r as os := rfl
def backT (s : Slot) (ρ : Env) (i : Nat) (d : D) : Env := match s with
  | .ow _ => ρ.set i (.ow d)
  | .pw _ => ρ.set i (.pw d)
  | _ => ρ
theorem backS_ow : backS ρ i (.ow d) = backT (slotAt ρ i) ρ i d := by
  unfold backS backT
  cases slotAt ρ i <;> rfl
theorem backT_ow {e : D} : backT (.ow e) ρ i d = ρ.set i (.ow d) := rfl
theorem backT_pw {e : D} : backT (.pw e) ρ i d = ρ.set i (.pw d) := rfl
theorem outS_fz : outS (.fz d) = .fz d := rfl
theorem outS_ow : outS (.ow d) = .ow d := rfl
theorem outS_pw : outS (.pw d) = .ow d := rfl
theorem outS_no : outS .no = .no := rfl
theorem inS_fz : inS (.fz d) = .fz d := rfl
theorem inS_ow : inS (.ow d) = .pw d := rfl
theorem isLst_lst {xs : List D} : isLst (some (.lst xs)) = True := rfl
/-! ### operations -/
theorem opAug_int {o : Op} {m n : Int} : opAug o (.int m) (.int n) = opD o [.int m, .int n] := rfl
theorem oEq_int {neg : Bool} {m n : Int} : oEq neg (.int m) (.int n) = some (.f (.bl (neg ^^ decide (m = n)))) := by
  simp only [oEq, D.eq3, D.eq2, flatE, D.flat, D.eqf, Option.bind, fD]
  rfl
theorem oEq_str {neg : Bool} {m n : Str} : oEq neg (.str m) (.str n) = some (.f (.bl (neg ^^ decide (m = n)))) := by
  simp only [oEq, D.eq3, D.eq2, flatE, D.flat, D.eqf, Option.bind, fD]
  rfl
theorem oEq_lnil {neg : Bool} {xs : List D} : oEq neg (.lst xs) (.lst []) = some (.f (.bl (neg ^^ xs.isEmpty))) := by
  cases xs with
  | nil => rfl
  | cons x r => rfl
theorem oEq_bl {neg p q : Bool} : oEq neg (.bl p) (.bl q) = some (.f (.bl (neg ^^ (p == q)))) := by
  simp only [oEq, D.eq3, D.eq2, flatE, D.flat, D.eqf, Option.bind, fD]
  rfl
end
theorem oq_add_int {m n : Int} : opD .add [.int m, .int n] = some (.f (.int (m + n))) := rfl
theorem oq_add_str {m n : Str} : opD .add [.str m, .str n] = if m.length + n.length ≤ LIM then some (.f (.str (m ++ n))) else none := rfl
theorem oq_add_lst {m n : List D} : opD .add [.lst m, .lst n] = if m.length + n.length ≤ LIM then some (.n (.lst (m ++ n))) else none := rfl
theorem oq_add_tup {m n : List D} : opD .add [.tup m, .tup n] = if m.length + n.length ≤ LIM then some (.f (.tup (m ++ n))) else none := rfl
theorem oq_sub_int {m n : Int} : opD .sub [.int m, .int n] = some (.f (.int (m - n))) := rfl
theorem oq_mul_int {m n : Int} : opD .mul [.int m, .int n] = if mulOk m n = true then some (.f (.int (m * n))) else none := rfl
theorem oq_mul_lst {m : List D} {n : Int} : opD .mul [.lst m, .int n] = if m.length * n.toNat ≤ LIM ∧ small n = true then some (.n (.lst (List.replicate n.toNat m).flatten)) else none := rfl
theorem oq_fdv_int {m n : Int} : opD .fdv [.int m, .int n] = if 0 < n ∧ n.natAbs.log2 < 9000 then some (.f (.int (m / n))) else none := rfl
theorem oq_mod_int {m n : Int} : opD .mod [.int m, .int n] = if 0 < n then some (.f (.int (m % n))) else none := rfl
theorem oq_pow_int {m n : Int} : opD .pow [.int m, .int n] = if 0 ≤ n ∧ ((m.natAbs.log2 + 1 : Nat) : Int) * n ≤ 1000000 then some (.f (.int (m ^ n.toNat))) else none := rfl
theorem oq_shl_int {m n : Int} : opD .shl [.int m, .int n] = if 0 ≤ n ∧ n ≤ 1000000 ∧ m.natAbs < 2 ^ 64 then some (.f (.int (m * 2 ^ n.toNat))) else none := rfl
theorem oq_neg_int {m : Int} : opD .neg [.int m] = some (.f (.int (-m))) := rfl
theorem oq_lt_int {m n : Int} : opD .lt [.int m, .int n] = some (.f (.bl (decide (m < n)))) := rfl
theorem oq_le_int {m n : Int} : opD .le [.int m, .int n] = some (.f (.bl (decide (m ≤ n)))) := rfl
theorem oq_gt_int {m n : Int} : opD .gt [.int m, .int n] = some (.f (.bl (decide (n < m)))) := rfl
theorem oq_ge_int {m n : Int} : opD .ge [.int m, .int n] = some (.f (.bl (decide (n ≤ m)))) := rfl
theorem oq_eq {m n : D} : opD .eq [m, n] = oEq false m n := rfl
theorem oq_ne {m n : D} : opD .ne [m, n] = oEq true m n := rfl
theorem oq_isN {m : D} : opD .isN [m] = some (.f (.bl (isNone m))) := rfl
theorem oq_isnN {m : D} : opD .isnN [m] = some (.f (.bl (!isNone m))) := rfl
theorem oq_in {m n : D} : opD .inn [m, n] = oIn false m n := rfl
theorem oq_nin {m n : D} : opD .nin [m, n] = oIn true m n := rfl
theorem oIn_lst {neg : Bool} {m : D} {xs : List D} : oIn neg m (.lst xs) = if (D.flat m && xs.all D.flat) = true then some (.f (.bl (neg ^^ xs.any fun x => D.eqf x m))) else none := by cases m <;> rfl
theorem oIn_tup {neg : Bool} {m : D} {xs : List D} : oIn neg m (.tup xs) = if (D.flat m && xs.all D.flat) = true then some (.f (.bl (neg ^^ xs.any fun x => D.eqf x m))) else none := by cases m <;> rfl
theorem oIn_dct {neg : Bool} {m : D} {kvs : List (Key × D)} : oIn neg m (.dct kvs) = (keyOf m).bind fun k => some (.f (.bl (neg ^^ (look kvs k).isSome))) := by cases m <;> rfl
theorem oIn_str {neg : Bool} {y z : Str} : oIn neg (.str y) (.str z) = if isSign y = true then some (.f (.bl (neg ^^ decide (y.cps.getD 0 0 ∈ z.cps.toList)))) else none := rfl
theorem keyOf_int {m : Int} : keyOf (.int m) = some (.inl m) := rfl
theorem keyOf_str {m : Str} : keyOf (.str m) = some (.inr m) := rfl
theorem oq_idx_lst {xs : List D} {m : Int} : opD .idx [.lst xs, .int m] = (at? xs m).map .f := rfl
theorem oq_idx_tup {xs : List D} {m : Int} : opD .idx [.tup xs, .int m] = (at? xs m).map .f := rfl
theorem oq_idx_dct {kvs : List (Key × D)} {m : D} : opD .idx [.dct kvs, m] = ((keyOf m).bind (look kvs)).map .f := by cases m <;> rfl
theorem oq_idx_str {z : Str} {m : Int} : opD .idx [.str z, .int m] = if z.length ≤ LIM then (at? z.cps.toList m).map fun c => .f (.str ⟨#[c]⟩) else none := rfl
theorem oq_rev_lst {xs : List D} : opD .rev [.lst xs] = some (.n (.lst xs.reverse)) := rfl
theorem oq_len_lst {xs : List D} : opD .len [.lst xs] = some (.f (.int xs.length)) := rfl
theorem oq_len_tup {xs : List D} : opD .len [.tup xs] = some (.f (.int xs.length)) := rfl
theorem oq_len_dct {xs : List (Key × D)} : opD .len [.dct xs] = some (.f (.int xs.length)) := rfl
theorem oq_len_str {z : Str} : opD .len [.str z] = if z.length ≤ LIM then some (.f (.int z.length)) else none := rfl
theorem oq_int_int {m : Int} : opD .int_ [.int m] = some (.f (.int m)) := rfl
theorem oq_int_bl {m : Bool} : opD .int_ [.bl m] = some (.f (.int (if m then 1 else 0))) := rfl
theorem oq_max2 {m n : Int} : opD .max2 [.int m, .int n] = some (.f (.int (if n > m then n else m))) := rfl
theorem oq_min2 {m n : Int} : opD .min2 [.int m, .int n] = some (.f (.int (if n < m then n else m))) := rfl
theorem oq_max1 {xs : List D} : opD .max1 [.lst xs] = (intsOf xs).bind fun is => (match is with | [] => none | i :: r => some (maxL i r)).bind fun i => some (.f (.int i)) := rfl
theorem oq_min1 {xs : List D} : opD .min1 [.lst xs] = (intsOf xs).bind fun is => (match is with | [] => none | i :: r => some (minL i r)).bind fun i => some (.f (.int i)) := rfl
theorem oq_sum {xs : List D} : opD .sum [.lst xs] = (intsOf xs).map fun is => .f (.int is.sum) := by
  show (intsOf xs).bind _ = _
  cases intsOf xs <;> rfl
theorem oq_list_lst {xs : List D} : opD .list_ [.lst xs] = some (.n (.lst xs)) := rfl
theorem oq_list_tup {xs : List D} : opD .list_ [.tup xs] = some (.n (.lst xs)) := rfl
theorem oq_list_dct {kvs : List (Key × D)} : opD .list_ [.dct kvs] = some (.n (.lst (kvs.map fun p => keyD p.1))) := rfl
theorem oq_tuple_lst {xs : List D} : opD .tuple_ [.lst xs] = some (.f (.tup xs)) := rfl
theorem oq_tuple_tup {xs : List D} : opD .tuple_ [.tup xs] = some (.f (.tup xs)) := rfl
theorem oq_sorted_dct {kvs : List (Key × D)} : opD .sorted_ [.dct kvs] = (sortD (kvs.map fun p => keyD p.1)).map fun ys => .n (.lst ys) := by
  show (sortD _).bind _ = _
  cases sortD (kvs.map fun p => keyD p.1) <;> rfl
theorem oq_sorted_lst {xs : List D} : opD .sorted_ [.lst xs] = (sortD xs).map fun ys => .n (.lst ys) := by
  show (sortD _).bind _ = _
  cases sortD xs <;> rfl
theorem oq_all {xs : List D} : opD .all_ [.lst xs] = (boolsOf xs).map fun is => .f (.bl (is.all id)) := by
  show (boolsOf xs).bind _ = _
  cases boolsOf xs <;> rfl
theorem oq_any {xs : List D} : opD .any_ [.lst xs] = (boolsOf xs).map fun is => .f (.bl (is.any id)) := by
  show (boolsOf xs).bind _ = _
  cases boolsOf xs <;> rfl
theorem oq_abs {m : Int} : opD .abs_ [.int m] = some (.f (.int (if m < 0 then -m else m))) := rfl
theorem oq_dvm {m n : Int} : opD .dvm [.int m, .int n] = if 0 < n ∧ n < 1073741824 then some (.f (.tup [.int (m / n), .int (m % n)])) else none := rfl
theorem oq_dictP_lst {xs : List D} : opD .dictP [.lst xs] = (pairsOf xs).map fun ps => .n (.dct (putAll [] ps)) := by
  show (pairsOf xs).bind _ = _
  cases pairsOf xs <;> rfl
theorem oq_dictP_dct {kvs : List (Key × D)} : opD .dictP [.dct kvs] = some (.n (.dct kvs)) := rfl
theorem oq_isInt {m : D} : opD .isInt [m] = oTy dInt m := rfl
theorem oq_isBool {m : D} : opD .isBool [m] = oTy dBool m := rfl
theorem oq_isStr {m : D} : opD .isStr [m] = oTy dStr m := rfl
theorem oq_isList {m : D} : opD .isList [m] = oTy dList m := rfl
theorem oq_isTuple {m : D} : opD .isTuple [m] = oTy dTuple m := rfl
theorem oq_isDict {m : D} : opD .isDict [m] = oTy dDict m := rfl
theorem oq_isObj {C : Nat} {m : D} : opD (.isObj C) [m] = oObj C m := rfl
theorem oObj_obj {B C : Nat} {fs : List (Nat × D)} : oObj C (.obj B fs) = if B = C then some (.f (.bl true)) else none := rfl
section
variable {p : D → Bool}
theorem oTy_non : oTy p .non = some (.f (.bl (p .non))) := rfl
theorem oTy_int {m : Int} : oTy p (.int m) = some (.f (.bl (p (.int m)))) := rfl
theorem oTy_bl {m : Bool} : oTy p (.bl m) = some (.f (.bl (p (.bl m)))) := rfl
theorem oTy_str {m : Str} : oTy p (.str m) = some (.f (.bl (p (.str m)))) := rfl
theorem oTy_lst {m : List D} : oTy p (.lst m) = some (.f (.bl (p (.lst m)))) := rfl
theorem oTy_tup {m : List D} : oTy p (.tup m) = some (.f (.bl (p (.tup m)))) := rfl
theorem oTy_dct {m : List (Key × D)} : oTy p (.dct m) = some (.f (.bl (p (.dct m)))) := rfl
end
theorem dInt_int {m : Int} : dInt (.int m) = true := rfl
theorem dInt_bl {m : Bool} : dInt (.bl m) = true := rfl
theorem dInt_str {m : Str} : dInt (.str m) = false := rfl
theorem dInt_lst {m : List D} : dInt (.lst m) = false := rfl
theorem dInt_non : dInt .non = false := rfl
theorem dBool_int {m : Int} : dBool (.int m) = false := rfl
theorem dBool_bl {m : Bool} : dBool (.bl m) = true := rfl
theorem dStr_str {m : Str} : dStr (.str m) = true := rfl
theorem dStr_int {m : Int} : dStr (.int m) = false := rfl
theorem dList_lst {m : List D} : dList (.lst m) = true := rfl
theorem dList_tup {m : List D} : dList (.tup m) = false := rfl
theorem dTuple_tup {m : List D} : dTuple (.tup m) = true := rfl
theorem dTuple_lst {m : List D} : dTuple (.lst m) = false := rfl
theorem dDict_dct {m : List (Key × D)} : dDict (.dct m) = true := rfl
theorem isNone_non : isNone .non = true := rfl
theorem isNone_int {m : Int} : isNone (.int m) = false := rfl
theorem isNone_lst {m : List D} : isNone (.lst m) = false := rfl
theorem isNone_tup {m : List D} : isNone (.tup m) = false := rfl
theorem isNone_str {m : Str} : isNone (.str m) = false := rfl
theorem at_0 {α : Type} {xs : List α} : at? xs 0 = xs[0]? := by
  cases xs with
  | nil => rfl
  | cons x r => simp [at?, ixOf]
theorem at_nat {α : Type} {xs : List α} {n : Nat} : at? xs (n : Int) = xs[n]? := by
  unfold at? ixOf
  rw [if_pos (by omega)]
  by_cases h : n < xs.length
  · rw [if_pos (by omega)]; rfl
  · rw [if_neg (by omega)]; simp at h; simp [h]
theorem at_1 {α : Type} {xs : List α} : at? xs 1 = xs[1]? := at_nat (n := 1)
theorem at_2 {α : Type} {xs : List α} : at? xs 2 = xs[2]? := at_nat (n := 2)
theorem at_3 {α : Type} {xs : List α} : at? xs 3 = xs[3]? := at_nat (n := 3)
theorem at_4 {α : Type} {xs : List α} : at? xs 4 = xs[4]? := at_nat (n := 4)
theorem at_m1 {α : Type} {xs : List α} : at? xs (-1) = xs.getLast? := by
  unfold at? ixOf
  rw [if_neg (by omega)]
  cases xs with
  | nil => rfl
  | cons x r =>
    rw [if_pos (by simp only [List.length_cons]; omega), List.getLast?_eq_getElem?]
    simp only [Option.bind]
    congr 1
    simp only [List.length_cons]
    omega
theorem at_some {α : Type} {xs : List α} {m : Int} {y : α} : at? xs m = some y ↔ ∃ k, ixOf xs.length m = some k ∧ xs[k]? = some y := by
  unfold at?
  cases ixOf xs.length m <;> simp
/-- o[k] = x by a written place -/
theorem ixOf_nat {n m : Nat} : ixOf n (m : Int) = if m < n then some m else none := by
  unfold ixOf
  rw [if_pos (by omega)]
  by_cases h : m < n
  · rw [if_pos (by omega), if_pos h]; rfl
  · rw [if_neg (by omega), if_neg h]
theorem ixOf_0 {n : Nat} : ixOf n 0 = if 0 < n then some 0 else none := ixOf_nat (m := 0)
theorem ixOf_1 {n : Nat} : ixOf n 1 = if 1 < n then some 1 else none := ixOf_nat (m := 1)
theorem ixOf_2 {n : Nat} : ixOf n 2 = if 2 < n then some 2 else none := ixOf_nat (m := 2)
theorem setD_lst {xs : List D} {m : Int} {y : D} : setD (.lst xs) (.int m) y = (ixOf xs.length m).map fun k => .lst (xs.set k y) := rfl
theorem setD_dct {kvs : List (Key × D)} {m y : D} : setD (.dct kvs) m y = (keyOf m).bind fun k => if kvs.length < LIM then some (.dct (putD k y kvs)) else none := rfl
theorem mut_append {xs : List D} {y : D} : mutD .append (.lst xs) [y] = if xs.length < LIM then some (.non, .lst (xs ++ [y])) else none := rfl
theorem mut_extend {xs ys : List D} : mutD .extend (.lst xs) [.lst ys] = if xs.length + ys.length ≤ LIM then some (.non, .lst (xs ++ ys)) else none := rfl
theorem mut_pop {xs : List D} : mutD .pop (.lst xs) [] = (xs[xs.length - 1]?).map fun x => (x, .lst xs.dropLast) := rfl
theorem mut_popAt {xs : List D} {m : Int} : mutD .popAt (.lst xs) [.int m] = if small m = true then (ixOf xs.length m).bind fun k => (xs[k]?).map fun x => (x, .lst (xs.eraseIdx k)) else none := rfl
theorem mut_clear {xs : List D} : mutD .clear (.lst xs) [] = some (.non, .lst []) := rfl
theorem spread_f {d : D} : spread false d = some [d] := rfl
theorem spread_lst {xs : List D} : spread true (.lst xs) = some xs := rfl
theorem spread_tup {xs : List D} : spread true (.tup xs) = some xs := rfl
theorem sliD_lst {lo hi : Option Int} {xs : List D} : sliD lo hi (.lst xs) = some (.n (.lst (cut xs lo hi))) := rfl
theorem sliD_tup {lo hi : Option Int} {xs : List D} : sliD lo hi (.tup xs) = some (.f (.tup (cut xs lo hi))) := rfl
theorem wipeE_nil {ρ : Env} : wipeE ρ [] = ρ := rfl
theorem wipeE_cons {ρ : Env} {i : Nat} {r : List Nat} : wipeE ρ (i :: r) = (wipeE ρ r).set i .no := rfl
theorem unwipe_nil {ρ ρ' : Env} : unwipe ρ ρ' [] = ρ' := rfl
theorem unwipe_cons {ρ ρ' : Env} {i : Nat} {r : List Nat} : unwipe ρ ρ' (i :: r) = (unwipe ρ ρ' r).set i (slotAt ρ i) := rfl
theorem wMut_eq {o : MOp} {i : Nat} {ds : List D} {ρ : Env} {Q : Val → Env → Prop} : wMut o i ds ρ Q = wO (ownAt ρ i) fun d => wO (mutD o d ds) fun p => putS (slotAt ρ i) ρ i p.2 fun ρ1 => Q (.f p.1) ρ1 := by
  unfold wMut
  simp only [putOwn_eq]
end PV

set_option Elab.async false
set_option linter.all false
set_option maxRecDepth 100000
set_option maxHeartbeats 1000000
/-! WpC: comprehensions by their items; lists of ints and bools. -/
namespace PV
open PySem
open L2 (Key)
section
variable {T : Tb} {ρ : Env} {QD : List D → Env → Prop} {e c k : CE} {t : CT} {own : List Nat} {items : List D}
theorem wG_imp {QD' : List D → Env → Prop} (h : wG T e c t own items ρ QD) (i : ∀ ds ρ, QD ds ρ → QD' ds ρ) : wG T e c t own items ρ QD' := by
  unfold wG at h ⊢
  exact Out.imp h i
/-- every item gives one value, nothing changes -/
theorem wG_map (g : D → D) (hx : ∀ x ∈ items, wO (tgt ρ t x) fun ρ1 => wE T c ρ1 fun b ρ2 => wB b fun k => k = true ∧ wE T e ρ2 fun v ρ3 => wD v ρ3 fun d ρ4 => d = g x ∧ wipeE ρ4 own = ρ) (hq : QD (items.map g) ρ) : wG T e c t own items ρ QD := by
  induction items generalizing QD with
  | nil => rw [wG_nil]; exact hq
  | cons x r ih =>
    rw [wG_cons]
    refine wO_imp (hx x List.mem_cons_self) fun ρ1 h => ?_
    refine wE_imp h fun b ρ2 h => ?_
    cases b with
    | f d =>
      cases d with
      | bl k =>
        simp only [wB_bl] at h ⊢
        obtain ⟨rfl, h⟩ := h
        rw [wK_t]
        refine wE_imp h fun v ρ3 h => ?_
        refine wO_imp h fun p ⟨h1, h2⟩ => ?_
        show wG _ _ _ _ _ _ (wipeE p.2 own) _
        rw [h2]
        exact ih (fun y hy => hx y (List.mem_cons_of_mem _ hy)) (by rw [h1]; exact hq)
      | _ => exact h.elim
    | _ => exact h.elim
theorem wG_mapL {β : Type} {l : List β} {f : β → D} (g : β → D) (hx : ∀ y ∈ l, wO (tgt ρ t (f y)) fun ρ1 => wE T c ρ1 fun b ρ2 => wB b fun k => k = true ∧ wE T e ρ2 fun v ρ3 => wD v ρ3 fun d ρ4 => d = g y ∧ wipeE ρ4 own = ρ) (hq : QD (l.map g) ρ) : wG T e c t own (l.map f) ρ QD := by
  induction l generalizing QD with
  | nil => rw [List.map_nil, wG_nil]; exact hq
  | cons x r ih =>
    rw [List.map_cons, wG_cons]
    refine wO_imp (hx x List.mem_cons_self) fun ρ1 h => ?_
    refine wE_imp h fun b ρ2 h => ?_
    cases b with
    | f d =>
      cases d with
      | bl k =>
        simp only [wB_bl] at h ⊢
        obtain ⟨rfl, h⟩ := h
        rw [wK_t]
        refine wE_imp h fun v ρ3 h => ?_
        refine wO_imp h fun p ⟨h1, h2⟩ => ?_
        show wG _ _ _ _ _ _ (wipeE p.2 own) _
        rw [h2]
        exact ih (fun y hy => hx y (List.mem_cons_of_mem _ hy)) (by rw [h1]; exact hq)
      | _ => exact h.elim
    | _ => exact h.elim
theorem wH_mapL {β : Type} {l : List β} {f : β → D} {Q : List (Key × D) → Env → Prop} (g : β → Key × D) (hx : ∀ y ∈ l, wO (tgt ρ t (f y)) fun ρ1 => wE T c ρ1 fun b ρ2 => wB b fun q => q = true ∧ wE T k ρ2 fun kv ρ3 => wE T e ρ3 fun v ρ4 => wO ((rd ρ4 kv).bind keyOf) fun key => wD v ρ4 fun d ρ5 => (key, d) = g y ∧ wipeE ρ5 own = ρ) (hq : Q (l.map g) ρ) : wH T k e c t own (l.map f) ρ Q := by
  induction l generalizing Q with
  | nil => rw [List.map_nil, wH_nil]; exact hq
  | cons x r ih =>
    rw [List.map_cons, wH_cons]
    refine wO_imp (hx x List.mem_cons_self) fun ρ1 h => ?_
    refine wE_imp h fun b ρ2 h => ?_
    cases b with
    | f d =>
      cases d with
      | bl q =>
        simp only [wB_bl] at h ⊢
        obtain ⟨rfl, h⟩ := h
        rw [wK_t]
        refine wE_imp h fun v ρ3 h => ?_
        refine wE_imp h fun v ρ4 h => ?_
        refine wO_imp h fun key h => ?_
        refine wO_imp h fun p ⟨h1, h2⟩ => ?_
        show wH _ _ _ _ _ _ _ (wipeE p.2 own) _
        rw [h2]
        exact ih (fun y hy => hx y (List.mem_cons_of_mem _ hy)) (by rw [h1]; exact hq)
      | _ => exact h.elim
    | _ => exact h.elim
/-- every item gives True -/
theorem wG_all (hx : ∀ x ∈ items, wO (tgt ρ t x) fun ρ1 => wE T c ρ1 fun b ρ2 => wB b fun k => k = true ∧ wE T e ρ2 fun v ρ3 => wD v ρ3 fun d ρ4 => d = .bl true ∧ wipeE ρ4 own = ρ) (hq : QD (List.replicate items.length (.bl true)) ρ) : wG T e c t own items ρ QD :=
  wG_map (fun _ => .bl true) hx (by rw [List.map_const']; exact hq)
/-- every item gives a value or nothing, nothing changes -/
theorem wG_filter (g : D → Option D) (hx : ∀ x ∈ items, wO (tgt ρ t x) fun ρ1 => wE T c ρ1 fun b ρ2 => wB b fun k => wK k (wE T e ρ2 fun v ρ3 => wD v ρ3 fun d ρ4 => g x = some d ∧ wipeE ρ4 own = ρ) (g x = none ∧ wipeE ρ2 own = ρ)) (hq : QD (items.filterMap g) ρ) : wG T e c t own items ρ QD := by
  induction items generalizing QD with
  | nil => rw [wG_nil]; exact hq
  | cons x r ih =>
    rw [wG_cons]
    refine wO_imp (hx x List.mem_cons_self) fun ρ1 h => ?_
    refine wE_imp h fun b ρ2 h => ?_
    cases b with
    | f d =>
      cases d with
      | bl k =>
        simp only [wB_bl] at h ⊢
        refine ⟨fun q => wE_imp (h.1 q) fun v ρ3 h => wO_imp h fun p ⟨h1, h2⟩ => ?_, fun q => ?_⟩
        · show wG _ _ _ _ _ _ (wipeE p.2 own) _
          rw [h2]
          exact ih (fun y hy => hx y (List.mem_cons_of_mem _ hy)) (by rw [List.filterMap_cons_some h1] at hq; exact hq)
        · obtain ⟨h1, h2⟩ := h.2 q
          rw [h2]
          exact ih (fun y hy => hx y (List.mem_cons_of_mem _ hy)) (by rw [List.filterMap_cons_none h1] at hq; exact hq)
      | _ => exact h.elim
    | _ => exact h.elim
/-- by what holds between two turns: what is left, what is made, the frame -/
theorem wG_inv (I : List D → List D → Env → Prop) (h0 : I items [] ρ) (hs : ∀ x r acc ρ, I (x :: r) acc ρ → wO (tgt ρ t x) fun ρ1 => wE T c ρ1 fun b ρ2 => wB b fun k => wK k (wE T e ρ2 fun v ρ3 => wD v ρ3 fun d ρ4 => I r (acc ++ [d]) (wipeE ρ4 own)) (I r acc (wipeE ρ2 own)))
    (h1 : ∀ acc ρ, I [] acc ρ → QD acc ρ) : wG T e c t own items ρ QD := by
  suffices h : ∀ (items acc : List D) (ρ : Env), I items acc ρ → wG T e c t own items ρ fun ds ρ => I [] (acc ++ ds) ρ from wG_imp (h items [] ρ h0) fun ds ρ h => h1 ds ρ h
  intro items
  induction items with
  | nil => intro acc ρ h; rw [wG_nil]; simpa using h
  | cons x r ih =>
    intro acc ρ h
    rw [wG_cons]
    refine wO_imp (hs x r acc ρ h) fun ρ1 h => ?_
    refine wE_imp h fun b ρ2 h => ?_
    cases b with
    | f d =>
      cases d with
      | bl k =>
        simp only [wB_bl] at h ⊢
        refine ⟨fun q => wE_imp (h.1 q) fun v ρ3 h => wO_imp h fun p h => ?_, fun q => ih _ _ (h.2 q)⟩
        exact wG_imp (ih _ _ h) fun ds ρ h => by simpa using h
      | _ => exact h.elim
    | _ => exact h.elim
theorem wH_imp {Q Q' : List (Key × D) → Env → Prop} (h : wH T k e c t own items ρ Q) (i : ∀ ds ρ, Q ds ρ → Q' ds ρ) : wH T k e c t own items ρ Q' := by
  unfold wH at h ⊢
  exact Out.imp h i
theorem wH_map {Q : List (Key × D) → Env → Prop} (g : D → Key × D) (hx : ∀ x ∈ items, wO (tgt ρ t x) fun ρ1 => wE T c ρ1 fun b ρ2 => wB b fun q => q = true ∧ wE T k ρ2 fun kv ρ3 => wE T e ρ3 fun v ρ4 => wO ((rd ρ4 kv).bind keyOf) fun key => wD v ρ4 fun d ρ5 => (key, d) = g x ∧ wipeE ρ5 own = ρ) (hq : Q (items.map g) ρ) : wH T k e c t own items ρ Q := by
  induction items generalizing Q with
  | nil => rw [wH_nil]; exact hq
  | cons x r ih =>
    rw [wH_cons]
    refine wO_imp (hx x List.mem_cons_self) fun ρ1 h => ?_
    refine wE_imp h fun b ρ2 h => ?_
    cases b with
    | f d =>
      cases d with
      | bl q =>
        simp only [wB_bl] at h ⊢
        obtain ⟨rfl, h⟩ := h
        rw [wK_t]
        refine wE_imp h fun v ρ3 h => ?_
        refine wE_imp h fun v ρ4 h => ?_
        refine wO_imp h fun key h => ?_
        refine wO_imp h fun p ⟨h1, h2⟩ => ?_
        show wH _ _ _ _ _ _ _ (wipeE p.2 own) _
        rw [h2]
        exact ih (fun y hy => hx y (List.mem_cons_of_mem _ hy)) (by rw [h1]; exact hq)
      | _ => exact h.elim
    | _ => exact h.elim
end
section
variable {T : Tb} {ρ : Env} {K : Kn} {t : CT} {x : CSs} {items : List D}
/-- a for whose turns keep J -/
theorem wFor_all (J : Env → Prop) (h0 : J ρ) (hs : ∀ d ∈ items, ∀ ρ, J ρ → wO (tgt ρ t d) fun ρ1 => wSs T x ρ1 { nx := J, ct := J, br := fun _ => False, rt := fun _ _ => False }) (h1 : ∀ ρ, J ρ → K.nx ρ) : wFor T t x items ρ K := by
  induction items generalizing ρ with
  | nil => rw [wFor_nil]; exact h1 ρ h0
  | cons d r ih =>
    rw [wFor_cons]
    exact wO_imp (hs d List.mem_cons_self ρ h0) fun ρ1 h => wSs_imp h ⟨fun ρ h => ih h fun d hd => hs d (List.mem_cons_of_mem _ hd), fun _ _ h => h.elim, fun _ h => h.elim, fun ρ h => ih h fun d hd => hs d (List.mem_cons_of_mem _ hd)⟩
end
/-! ### lists of ints, bools, texts -/
theorem intsOf_map (xs : List Int) : intsOf (xs.map .int) = some xs := by
  induction xs with
  | nil => rfl
  | cons x r ih => simp [intsOf, ih]
theorem boolsOf_map {α : Type} (f : α → Bool) (xs : List α) : boolsOf (xs.map fun x => .bl (f x)) = some (xs.map f) := by
  induction xs with
  | nil => rfl
  | cons x r ih => simp [boolsOf, ih]
theorem strsOf_map (xs : List Str) : strsOf (xs.map .str) = some xs := by
  induction xs with
  | nil => rfl
  | cons x r ih => simp [strsOf, ih]
theorem boolsOf_rep : ∀ n : Nat, boolsOf (List.replicate n (.bl true)) = some (List.replicate n true)
  | 0 => rfl
  | n + 1 => by simp [List.replicate_succ, boolsOf, boolsOf_rep n]
theorem all_rep (n : Nat) : ((List.replicate n true).all id) = true := by simp
theorem all_true {α : Type} (xs : List α) : ((xs.map fun _ => true).all id) = true := by simp
theorem map_mapRange {α : Type} (f : D → α) (a : Int) (n : Nat) : (mapRange a n).map f = (List.range n).map fun (i : Nat) => f (.int (a + (i : Int))) := by simp [mapRange]
theorem keyD_inl {i : Int} : keyD (.inl i) = .int i := rfl
theorem keyD_inr {i : Str} : keyD (.inr i) = .str i := rfl
theorem take_map_ {α β : Type} {f : α → β} {n : Nat} {l : List α} : (l.map f).take n = (l.take n).map f := List.map_take.symm
theorem drop_map_ {α β : Type} {f : α → β} {n : Nat} {l : List α} : (l.map f).drop n = (l.drop n).map f := List.map_drop.symm
theorem rev_map_ {α β : Type} {f : α → β} {l : List α} : (l.map f).reverse = l.reverse.map f := List.map_reverse.symm
theorem app_map_ {α β : Type} {f : α → β} {l m : List α} : l.map f ++ m.map f = (l ++ m).map f := List.map_append.symm
theorem snoc_int_ {l : List Int} {i : Int} : l.map D.int ++ [.int i] = (l ++ [i]).map D.int := by simp
theorem app_cons_map_ {l m : List Int} {i : Int} : l.map D.int ++ .int i :: m.map D.int = (l ++ i :: m).map D.int := by simp
/-! ### dicts of distinct keys -/
theorem putD_new {κ : Type} [DecidableEq κ] {k : κ} {x : D} : ∀ {kvs : List (κ × D)}, k ∉ kvs.map (·.1) → putD k x kvs = kvs ++ [(k, x)]
  | [], _ => rfl
  | (j, y) :: r, h => by
    simp only [List.map_cons, List.mem_cons, not_or] at h
    unfold putD
    rw [if_neg (fun e => h.1 e.symm), putD_new h.2]
    rfl
theorem putAll_new {κ : Type} [DecidableEq κ] : ∀ {ps acc : List (κ × D)}, ((acc ++ ps).map (·.1)).Nodup → putAll acc ps = acc ++ ps
  | [], acc, _ => by simp [putAll]
  | (k, x) :: r, acc, h => by
    unfold putAll
    have h' : k ∉ acc.map (·.1) := by
      intro hk
      rw [List.map_append, List.nodup_append] at h
      exact h.2.2 k hk k (by simp) rfl
    rw [putD_new h', putAll_new (by simpa using h)]
    simp
theorem putAll_nil {κ : Type} [DecidableEq κ] {ps : List (κ × D)} (h : (ps.map (·.1)).Nodup) : putAll [] ps = ps := by
  rw [putAll_new (by simpa using h)]; rfl
theorem look_some {κ : Type} [DecidableEq κ] {k : κ} {x : D} : ∀ {kvs : List (κ × D)}, (kvs.map (·.1)).Nodup → (k, x) ∈ kvs → look kvs k = some x
  | (j, y) :: r, nd, h => by
    unfold look
    by_cases e : j = k
    · subst e
      rw [List.find?_cons_of_pos (by simp)]
      rcases List.mem_cons.1 h with h | h
      · cases h; rfl
      · rw [List.map_cons, List.nodup_cons] at nd
        exact (nd.1 (List.mem_map_of_mem (f := (·.1)) h)).elim
    · rw [List.find?_cons_of_neg (by simpa using e)]
      rcases List.mem_cons.1 h with h | h
      · cases h; exact (e rfl).elim
      · rw [List.map_cons, List.nodup_cons] at nd
        exact look_some nd.2 h
end PV

set_option Elab.async false
set_option linter.all false
set_option maxRecDepth 100000
set_option maxHeartbeats 1000000
/-! WpD: == of plain data. -/
namespace PV
open PySem
open L2 (Key)
/-- None, an int, a text -/
def flt : D → Prop
  | .non => True
  | .int _ => True
  | .str _ => True
  | _ => False
/-- two data of like form, without bools, dicts, objects; nested at most n deep -/
def like : Nat → D → D → Prop
  | 0, a, b => flt a ∧ flt b
  | n + 1, .lst xs, .lst ys => ∀ x ∈ xs, ∀ y ∈ ys, like n x y
  | n + 1, .tup xs, .tup ys => ∀ x ∈ xs, ∀ y ∈ ys, like n x y
  | n + 1, a, b => flt a ∧ flt b
theorem like_flt {n : Nat} {a b : D} (ha : flt a) (hb : flt b) : like n a b := by
  cases n with
  | zero => exact ⟨ha, hb⟩
  | succ n => cases a <;> first | exact ha.elim | (cases b <;> first | exact hb.elim | exact ⟨ha, hb⟩)
theorem like_int {n : Nat} {i j : Int} : like n (.int i) (.int j) := like_flt trivial trivial
theorem like_str {n : Nat} {i j : Str} : like n (.str i) (.str j) := like_flt trivial trivial
theorem like_lst {n : Nat} {xs ys : List D} (h : ∀ x ∈ xs, ∀ y ∈ ys, like n x y) : like (n + 1) (.lst xs) (.lst ys) := h
theorem like_tup {n : Nat} {xs ys : List D} (h : ∀ x ∈ xs, ∀ y ∈ ys, like n x y) : like (n + 1) (.tup xs) (.tup ys) := h
theorem like_ints {n : Nat} {xs ys : List Int} : like (n + 1) (.lst (xs.map .int)) (.lst (ys.map .int)) := like_lst fun x hx y hy => by
  obtain ⟨i, _, rfl⟩ := List.mem_map.1 hx
  obtain ⟨j, _, rfl⟩ := List.mem_map.1 hy
  exact like_int
theorem like_tints {n : Nat} {xs ys : List Int} : like (n + 1) (.tup (xs.map .int)) (.tup (ys.map .int)) := like_tup fun x hx y hy => by
  obtain ⟨i, _, rfl⟩ := List.mem_map.1 hx
  obtain ⟨j, _, rfl⟩ := List.mem_map.1 hy
  exact like_int
theorem like_strs {n : Nat} {xs ys : List Str} : like (n + 1) (.lst (xs.map .str)) (.lst (ys.map .str)) := like_lst fun x hx y hy => by
  obtain ⟨i, _, rfl⟩ := List.mem_map.1 hx
  obtain ⟨j, _, rfl⟩ := List.mem_map.1 hy
  exact like_str
/-- says whether a = b -/
def Says (o : Option Bool) (p : Prop) : Prop := ∃ k, o = some k ∧ (k = true ↔ p)
theorem flatE_says {a b : D} (ha : flt a) (hb : flt b) : Says (flatE a b) (a = b) := by
  cases a <;> first | exact ha.elim | (cases b <;> first | exact hb.elim | (refine ⟨_, rfl, ?_⟩; simp [D.eqf]))
theorem allO_says {f : D → D → Option Bool} : ∀ {xs ys : List D}, xs.length = ys.length → (∀ x ∈ xs, ∀ y ∈ ys, Says (f x y) (x = y)) → Says (allO (List.zipWith f xs ys)) (xs = ys)
  | [], [], _, _ => ⟨true, rfl, by simp⟩
  | x :: xs, y :: ys, h, hs => by
    obtain ⟨k, e, i⟩ := hs x List.mem_cons_self y List.mem_cons_self
    obtain ⟨l, e', i'⟩ := allO_says (xs := xs) (ys := ys) (by simpa using h) fun x hx y hy => hs x (List.mem_cons_of_mem _ hx) y (List.mem_cons_of_mem _ hy)
    refine ⟨k && l, ?_, ?_⟩
    · simp [allO, e, e']
    · simp [i, i']
theorem allO_some {f : D → D → Option Bool} : ∀ {xs ys : List D}, (∀ x ∈ xs, ∀ y ∈ ys, Says (f x y) (x = y)) → ∃ k, allO (List.zipWith f xs ys) = some k
  | [], _, _ => ⟨true, rfl⟩
  | _ :: _, [], _ => ⟨true, rfl⟩
  | x :: xs, y :: ys, hs => by
    obtain ⟨k, e, i⟩ := hs x List.mem_cons_self y List.mem_cons_self
    obtain ⟨l, e'⟩ := allO_some (xs := xs) (ys := ys) fun x hx y hy => hs x (List.mem_cons_of_mem _ hx) y (List.mem_cons_of_mem _ hy)
    exact ⟨k && l, by simp [allO, e, e']⟩
theorem zip_says {f : D → D → Option Bool} {xs ys : List D} (hs : ∀ x ∈ xs, ∀ y ∈ ys, Says (f x y) (x = y)) : Says (if xs.length = ys.length then allO (List.zipWith f xs ys) else some false) (xs = ys) := by
  by_cases h : xs.length = ys.length
  · rw [if_pos h]
    exact allO_says h hs
  · rw [if_neg h]
    exact ⟨false, rfl, by simp; exact fun e => h (by rw [e])⟩
theorem zip_says2 {f : D → D → Option Bool} {xs ys : List D} (hs : ∀ x ∈ xs, ∀ y ∈ ys, Says (f x y) (x = y)) : Says (if xs.length = ys.length then allO (List.zipWith f xs ys) else (allO (List.zipWith f xs ys)).map fun _ => false) (xs = ys) := by
  by_cases h : xs.length = ys.length
  · rw [if_pos h]
    exact allO_says h hs
  · rw [if_neg h]
    obtain ⟨k, e⟩ := allO_some hs
    rw [e]
    exact ⟨false, rfl, by simp; exact fun e => h (by rw [e])⟩
theorem eq2_says : ∀ (n : Nat) {a b : D}, like n a b → Says (D.eq2 n a b) (a = b)
  | 0, a, b, h => flatE_says h.1 h.2
  | n + 1, a, b, h => by
    cases a with
    | lst xs =>
      cases b with
      | lst ys =>
        obtain ⟨k, e, i⟩ := zip_says fun x hx y hy => eq2_says n (h x hx y hy)
        exact ⟨k, e, by rw [i]; simp⟩
      | _ => exact h.1.elim
    | tup xs =>
      cases b with
      | tup ys =>
        obtain ⟨k, e, i⟩ := zip_says2 fun x hx y hy => eq2_says n (h x hx y hy)
        exact ⟨k, e, by rw [i]; simp⟩
      | _ => exact h.1.elim
    | bl _ => exact h.1.elim
    | dct _ => exact h.1.elim
    | dcT _ => exact h.1.elim
    | obj _ _ => exact h.1.elim
    | _ => cases b <;> first | exact h.2.elim | exact flatE_says h.1 h.2
theorem eq3_says : ∀ (n : Nat) {a b : D}, like n a b → Says (D.eq3 (n + 1) a b) (a = b)
  | 0, a, b, h => by
    cases a <;> first | exact h.1.elim | (cases b <;> first | exact h.2.elim | exact flatE_says h.1 h.2)
  | n + 1, a, b, h => by
    cases a with
    | lst xs =>
      cases b with
      | lst ys =>
        obtain ⟨k, e, i⟩ := zip_says fun x hx y hy => eq3_says n (h x hx y hy)
        exact ⟨k, e, by rw [i]; simp⟩
      | _ => exact h.1.elim
    | tup xs =>
      cases b with
      | tup ys => exact eq2_says (n + 1) h
      | _ => exact h.1.elim
    | bl _ => exact h.1.elim
    | dct _ => exact h.1.elim
    | dcT _ => exact h.1.elim
    | obj _ _ => exact h.1.elim
    | _ => cases b <;> first | exact h.2.elim | exact eq2_says (n + 1) h
/-- == of like data -/
theorem oEq_like {neg : Bool} {a b : D} (h : like 39 a b) : ∃ k, oEq neg a b = some (.f (.bl (neg ^^ k))) ∧ (k = true ↔ a = b) := by
  obtain ⟨k, e, i⟩ := eq3_says 39 h
  exact ⟨k, by unfold oEq; rw [e]; rfl, i⟩
theorem ints_inj {xs ys : List Int} : xs.map D.int = ys.map D.int ↔ xs = ys := by
  constructor
  · intro e
    have := congrArg intsOf e
    rw [intsOf_map, intsOf_map] at this
    simpa using this
  · rintro rfl; rfl
theorem strs_inj {xs ys : List Str} : xs.map D.str = ys.map D.str ↔ xs = ys := by
  constructor
  · intro e
    have := congrArg strsOf e
    rw [strsOf_map, strsOf_map] at this
    simpa using this
  · rintro rfl; rfl
theorem oEq_ints {neg : Bool} {xs ys : List Int} : oEq neg (.lst (xs.map .int)) (.lst (ys.map .int)) = some (.f (.bl (neg ^^ decide (xs = ys)))) := by
  obtain ⟨k, e, i⟩ := oEq_like (neg := neg) (like_ints (n := 38) (xs := xs) (ys := ys))
  rw [D.lst.injEq, ints_inj] at i
  rw [e, show k = decide (xs = ys) from by cases k <;> simp_all]
theorem oEq_tints {neg : Bool} {xs ys : List Int} : oEq neg (.tup (xs.map .int)) (.tup (ys.map .int)) = some (.f (.bl (neg ^^ decide (xs = ys)))) := by
  obtain ⟨k, e, i⟩ := oEq_like (neg := neg) (like_tints (n := 38) (xs := xs) (ys := ys))
  rw [D.tup.injEq, ints_inj] at i
  rw [e, show k = decide (xs = ys) from by cases k <;> simp_all]
theorem oEq_strs {neg : Bool} {xs ys : List Str} : oEq neg (.lst (xs.map .str)) (.lst (ys.map .str)) = some (.f (.bl (neg ^^ decide (xs = ys)))) := by
  obtain ⟨k, e, i⟩ := oEq_like (neg := neg) (like_strs (n := 38) (xs := xs) (ys := ys))
  rw [D.lst.injEq, strs_inj] at i
  rw [e, show k = decide (xs = ys) from by cases k <;> simp_all]
theorem sortD_strs {xs : List Str} (h : xs.length < 64) : sortD (xs.map .str) = some ((sortStr xs).map .str) := by
  unfold sortD
  rw [strsOf_map]
  simp [h]
theorem sortD_ints {xs : List Int} (h : xs.length < 64) : sortD (xs.map .int) = some ((sortInt xs).map .int) := by
  unfold sortD
  cases xs with
  | nil => rfl
  | cons x r =>
    rw [show strsOf ((x :: r).map .int) = none from rfl, intsOf_map]
    simp at h
    simp [h]
/-! ### dicts -/
/-- the value at a key -/
def lk {β : Type} (ks : List (Str × β)) (k : Str) : Option β := (ks.find? fun p => decide (p.1 = k)).map (·.2)
/-- the same dict -/
def sameD {β : Type} [DecidableEq β] (ks ls : List (Str × β)) : Bool := decide (ks.length = ls.length) && ks.all fun p => decide (lk ls p.1 = some p.2)
theorem look_map {β : Type} (f : β → D) (ls : List (Str × β)) (k : Str) : look (ls.map fun p => ((.inr p.1, f p.2) : Key × D)) (.inr k) = (lk ls k).map f := by
  unfold look lk
  induction ls with
  | nil => rfl
  | cons p r ih =>
    rw [List.map_cons, List.find?_cons, List.find?_cons]
    by_cases e : p.1 = k
    · simp [e]
    · simp only [e, decide_false, Sum.inr.injEq]
      exact ih
theorem hits_says {β : Type} [DecidableEq β] {f : β → D} {g : D → D → Option Bool} (hg : ∀ x y, g (f x) (f y) = some (decide (x = y))) (ls : List (Str × β)) : ∀ ks : List (Str × β),
    hitsO g (ls.map fun p => ((.inr p.1, f p.2) : Key × D)) (ks.map fun p => (.inr p.1, f p.2)) = some (ks.all fun p => decide (lk ls p.1 = some p.2))
  | [] => rfl
  | p :: r => by
    have ih := hits_says hg ls r
    simp only [List.map_cons, hitsO, look_map, List.all_cons]
    cases e : lk ls p.1 with
    | none => simp
    | some y =>
      simp only [Option.map_some, hg, ih]
      by_cases h : p.2 = y
      · simp [h]
      · have h' : ¬ y = p.2 := fun z => h z.symm
        simp [h, h']
theorem oEq_dct {β : Type} [DecidableEq β] {neg : Bool} {f : β → D} (hg : ∀ x y, D.eq3 39 (f x) (f y) = some (decide (x = y))) (ks ls : List (Str × β)) :
    oEq neg (.dct (ks.map fun p => (.inr p.1, f p.2))) (.dct (ls.map fun p => (.inr p.1, f p.2))) = some (.f (.bl (neg ^^ sameD ks ls))) := by
  unfold oEq
  rw [show D.eq3 40 (.dct (ks.map fun p => ((.inr p.1, f p.2) : Key × D))) (.dct (ls.map fun p => (.inr p.1, f p.2))) = if (ks.map fun p => ((.inr p.1, f p.2) : Key × D)).length = (ls.map fun p => ((.inr p.1, f p.2) : Key × D)).length then hitsO (D.eq3 39) (ls.map fun p => ((.inr p.1, f p.2) : Key × D)) (ks.map fun p => (.inr p.1, f p.2)) else some false from rfl, hits_says hg]
  unfold sameD
  simp only [List.length_map]
  by_cases h : ks.length = ls.length
  · rw [if_pos h]; simp [h, fD]
  · rw [if_neg h]; simp [h, fD]
theorem eq3_tints {n : Nat} {xs ys : List Int} : D.eq3 (n + 2) (.tup (xs.map .int)) (.tup (ys.map .int)) = some (decide (xs = ys)) := by
  obtain ⟨k, e, i⟩ := eq3_says (n + 1) (like_tints (n := n) (xs := xs) (ys := ys))
  rw [D.tup.injEq, ints_inj] at i
  rw [e, show k = decide (xs = ys) from by cases k <;> simp_all]
theorem eq3_ints {n : Nat} {xs ys : List Int} : D.eq3 (n + 2) (.lst (xs.map .int)) (.lst (ys.map .int)) = some (decide (xs = ys)) := by
  obtain ⟨k, e, i⟩ := eq3_says (n + 1) (like_ints (n := n) (xs := xs) (ys := ys))
  rw [D.lst.injEq, ints_inj] at i
  rw [e, show k = decide (xs = ys) from by cases k <;> simp_all]
theorem lk_some {β : Type} : ∀ {ks : List (Str × β)} {k : Str} {x : β}, (ks.map (·.1)).Nodup → (k, x) ∈ ks → lk ks k = some x
  | (j, y) :: r, k, x, nd, h => by
    unfold lk
    by_cases e : j = k
    · subst e
      rw [List.find?_cons_of_pos (by simp)]
      rcases List.mem_cons.1 h with h | h
      · cases h; rfl
      · rw [List.map_cons, List.nodup_cons] at nd
        exact (nd.1 (List.mem_map_of_mem (f := (·.1)) h)).elim
    · rw [List.find?_cons_of_neg (by simpa using e)]
      rcases List.mem_cons.1 h with h | h
      · cases h; exact (e rfl).elim
      · rw [List.map_cons, List.nodup_cons] at nd
        exact lk_some nd.2 h
/-- the same pairs in any sequence -/
theorem sameD_perm {β : Type} [DecidableEq β] {ks ls : List (Str × β)} (nd : (ls.map (·.1)).Nodup) (p : ks.Perm ls) : sameD ks ls = true := by
  unfold sameD
  simp only [p.length_eq, decide_true, Bool.true_and, List.all_eq_true, decide_eq_true_eq]
  exact fun x hx => lk_some nd (p.mem_iff.1 hx)
theorem sameD_refl {β : Type} [DecidableEq β] {ks : List (Str × β)} (nd : (ks.map (·.1)).Nodup) : sameD ks ks = true := sameD_perm nd (List.Perm.refl _)
/-! ### sorted texts -/
theorem sS_iff {a b : Str} : leStr a b = true ↔ a.cps.toList ≤ b.cps.toList := by
  unfold leStr
  simp only [Bool.not_eq_true', decide_eq_false_iff_not]
  rfl
theorem sS_total (a b : Str) : leStr a b = true ∨ leStr b a = true := by
  rw [sS_iff, sS_iff]; exact List.le_total _ _
theorem sS_trans {a b c : Str} (h : leStr a b = true) (g : leStr b c = true) : leStr a c = true := by
  rw [sS_iff] at *; exact List.le_trans h g
theorem sS_anti {a b : Str} (h : leStr a b = true) (g : leStr b a = true) : a = b := by
  rw [sS_iff] at h g
  have e := List.le_antisymm h g
  obtain ⟨⟨x⟩⟩ := a
  obtain ⟨⟨y⟩⟩ := b
  simp only at e
  rw [e]
theorem sS_comm (x y : Str) : ∀ l : List Str, insStr x (insStr y l) = insStr y (insStr x l)
  | [] => by
    simp only [insStr]
    by_cases h : leStr x y = true
    · rw [if_pos h]
      by_cases g : leStr y x = true
      · rw [if_pos g, sS_anti h g]
      · rw [if_neg g]
    · rw [if_neg h, if_pos ((sS_total x y).resolve_left h)]
  | z :: r => by
    have ih := sS_comm x y r
    by_cases h1 : leStr x z = true <;> by_cases h2 : leStr y z = true
    · simp only [insStr, if_pos h1, if_pos h2]
      by_cases h : leStr x y = true
      · rw [if_pos h]
        by_cases g : leStr y x = true
        · rw [if_pos g, sS_anti h g]
        · rw [if_neg g]
      · rw [if_neg h, if_pos ((sS_total x y).resolve_left h)]
    · have q : ¬ leStr y x = true := fun e => h2 (sS_trans e h1)
      simp only [insStr, if_pos h1, if_neg h2, if_neg q]
    · have q : ¬ leStr x y = true := fun e => h1 (sS_trans e h2)
      simp only [insStr, if_neg h1, if_pos h2, if_neg q]
    · simp only [insStr, if_neg h1, if_neg h2, ih]
theorem sS_perm {xs ys : List Str} (p : xs.Perm ys) : sortStr xs = sortStr ys := by
  induction p with
  | nil => rfl
  | cons x _ ih => simp only [sortStr, ih]
  | swap x y l => simp only [sortStr, sS_comm]
  | trans _ _ a b => exact a.trans b
end PV

set_option Elab.async false
set_option linter.all false
set_option maxRecDepth 100000
set_option maxHeartbeats 4000000
namespace LN
open PV
/-- 0: is_int(value) -/
abbrev c_is_int : CSs := (.cons (.ret (.and_ (.op .isInt (.cons (.var 0) .nil)) (.not_ (.op .isBool (.cons (.var 0) .nil))))) .nil)
/-- 1: is_whole(value, low, high) -/
abbrev c_is_whole : CSs := (.cons (.ret (.and_ (.call 0 [] (.cons (.var 0) .nil)) (.chn .le .le (.var 1) (.var 0) (.var 2)))) .nil)
/-- 2: is_time(value) -/
abbrev c_is_time : CSs := (.cons (.ret (.call 1 [] (.cons (.var 0) (.cons (.cst (.int 0)) (.cons (.glb 0) .nil))))) .nil)
/-- 3: is_name(value, letter) -/
abbrev c_is_name : CSs := (.cons (.ifs (.or_ (.not_ (.op .isStr (.cons (.var 0) .nil))) (.not_ (.chn .le .le (.cst (.int 1)) (.op .len (.cons (.var 0) .nil)) (.cst (.int 8))))) (.cons (.ret (.cst (.bl false))) .nil) .nil) (.cons (.ret (.op .all_ (.cons (.lc (.op .inn (.cons (.var 1) (.cons (.cst (.str "abcdefghijklmnopqrstuvwxyz")) .nil))) (.nm 1) (.seq (.var 0)) (.cst (.bl true)) [1]) .nil))) .nil))
/-- 4: valid_places(value, number) -/
abbrev c_valid_places : CSs := (.cons (.ifs (.or_ (.not_ (.op .isList (.cons (.var 0) .nil))) (.op .ge (.cons (.op .len (.cons (.var 0) .nil)) (.cons (.glb 1) .nil)))) (.cons (.ret (.cst (.bl false))) .nil) .nil) (.cons (.ifs (.not_ (.op .all_ (.cons (.lc (.call 1 [] (.cons (.var 1) (.cons (.cst (.int 0)) (.cons (.glb 2) .nil)))) (.nm 1) (.seq (.var 0)) (.cst (.bl true)) [1]) .nil))) (.cons (.ret (.cst (.bl false))) .nil) .nil) (.cons (.ret (.op .le (.cons (.op .add (.cons (.op .add (.cons (.op .len (.cons (.var 0) .nil)) (.cons (.cst (.int 1)) .nil))) (.cons (.op .sum (.cons (.var 0) .nil)) .nil))) (.cons (.glb 3) .nil)))) .nil)))
/-- 5: require_kinds(value, stations, key, times, time) -/
abbrev c_require_kinds : CSs := (.cons (.ifs (.or_ (.not_ (.op .isDict (.cons (.var 0) .nil))) (.not_ (.chn .le .le (.cst (.int 1)) (.op .len (.cons (.var 0) .nil)) (.glb 4)))) (.cons .wall .nil) .nil) (.cons (.fors (.tp [2, 3]) (.itm (.var 0)) (.cons (.ifs (.or_ (.not_ (.call 3 [] (.cons (.var 2) .nil))) (.or_ (.not_ (.op .isList (.cons (.var 3) .nil))) (.op .ne (.cons (.op .len (.cons (.var 3) .nil)) (.cons (.var 1) .nil))))) (.cons .wall .nil) .nil) (.cons (.ifs (.not_ (.op .all_ (.cons (.lc (.call 2 [] (.cons (.var 4) .nil)) (.nm 4) (.seq (.var 3)) (.cst (.bl true)) [4]) .nil))) (.cons .wall .nil) .nil) .nil))) .nil))
/-- 6: Line.__init__(self, places, kinds, name, times) -/
abbrev c_Line_init : CSs := (.cons (.ifs (.not_ (.call 4 [] (.cons (.var 1) .nil))) (.cons .wall .nil) .nil) (.cons (.exp (.call 5 [] (.cons (.var 2) (.cons (.op .add (.cons (.op .len (.cons (.var 1) .nil)) (.cons (.cst (.int 1)) .nil))) .nil)))) (.cons (.fset 0 0 (.op .tuple_ (.cons (.var 1) .nil))) (.cons (.fset 0 1 (.dc (.var 3) (.op .tuple_ (.cons (.var 4) .nil)) (.tp [3, 4]) (.itm (.var 2)) (.cst (.bl true)) [3, 4])) .nil))))
/-- 7: Line.places(self) -/
abbrev c_Line_places : CSs := (.cons (.ret (.op .list_ (.cons (.fld 0 (.var 0)) .nil))) .nil)
/-- 8: Line.kinds(self, name, times) -/
abbrev c_Line_kinds : CSs := (.cons (.ret (.dc (.var 1) (.op .list_ (.cons (.var 2) .nil)) (.tp [1, 2]) (.itm (.fld 1 (.var 0))) (.cst (.bl true)) [1, 2])) .nil)
/-- 11: Line.__eq__(self, other) -/
abbrev c_Line_eq : CSs := (.cons (.ifs (.not_ (.op (.isObj 0) (.cons (.var 1) .nil))) (.cons (.ret (.cst (.bl false))) .nil) .nil) (.cons (.ret (.and_ (.op .eq (.cons (.fld 0 (.var 0)) (.cons (.fld 0 (.var 1)) .nil))) (.op .eq (.cons (.fld 1 (.var 0)) (.cons (.fld 1 (.var 1)) .nil))))) .nil))
/-- 26: require_line(value) -/
abbrev c_require_line : CSs := (.cons (.ifs (.not_ (.op (.isObj 0) (.cons (.var 0) .nil))) (.cons .wall .nil) .nil) .nil)
/-- 9: Line.names(self) -/
abbrev c_Line_names : CSs := (.cons (.ret (.op .sorted_ (.cons (.fld 1 (.var 0)) .nil))) .nil)
/-- 10: Line.stations(self) -/
abbrev c_Line_stations : CSs := (.cons (.ret (.op .add (.cons (.op .len (.cons (.fld 0 (.var 0)) .nil)) (.cons (.cst (.int 1)) .nil)))) .nil)
/-- the defs stand in the program -/
structure Has (P : Pg) : Prop where
  is_int : P.fd 0 = some (.body 1 1 c_is_int)
  is_whole : P.fd 1 = some (.body 3 3 c_is_whole)
  is_time : P.fd 2 = some (.body 1 1 c_is_time)
  is_name : P.fd 3 = some (.body 1 2 c_is_name)
  valid_places : P.fd 4 = some (.body 1 2 c_valid_places)
  require_kinds : P.fd 5 = some (.body 2 5 c_require_kinds)
  Line_init : P.fd 6 = some (.body 3 5 c_Line_init)
  Line_places : P.fd 7 = some (.body 1 1 c_Line_places)
  Line_kinds : P.fd 8 = some (.body 1 3 c_Line_kinds)
  Line_eq : P.fd 11 = some (.body 2 2 c_Line_eq)
  require_line : P.fd 26 = some (.body 1 1 c_require_line)
end LN

set_option Elab.async false
set_option linter.all false
set_option maxRecDepth 100000
set_option maxHeartbeats 4000000
namespace LN
open PySem
open PV
open L2 (Key)
local macro_rules | `(tactic| walk_at "pv") => `(tactic| simp (config := { decide := false, implicitDefEqProofs := false, maxSteps := 1000000 }) only [intsOf_map, strsOf_map, boolsOf_rep, all_rep, List.length_replicate, List.length_map, wEqo_obj, setF, getF, keyD_inl, keyD_inr, keyOf_int, List.set_cons_zero, List.set_cons_succ, List.set_nil, wC, wNew, wNw_ok, back_nil, back_f, back_n, back_vf, back_vo, backS_ow, backT_ow, backT_pw, notV_f, notV_n, wp_fok, wMut_eq, wE_cst, wE_var, wE_glb, wEs_nil, wEs_cons, wE_op, wE_and, wE_or, wE_not, wE_ite, wE_chn, wE_lst, wE_tup, wE_lstS, wA_nil, wA_cons, wE_dctN, wE_dct, wE_fld, wE_call, wE_prp, wE_mth, wE_new, wE_eqo, wE_eql, wE_sli, wE_mut, wE_lc, wE_dc, wI_seq, wI_rng, wI_rng2, wI_itm, wI_val, wI_zip, wI_enm, wBd_non, wBd_int, wBd_var, wBd_op, wPart_int, wInt_int, wIt_lst, wIt_tup, wIt_dct, wIt_str, wDct_dct, wLst_lst, wFld_obj, wM_obj, wEqo_obj, wEql_n, wO_some, wO_none, wO_bind, wO_map, wO_ite, wSs_nil, wB_bl, wK_t, wK_f, wV_fz, wV_ow, wV_pw, wV_no, wD_f, wD_n, wD_v, wDv_ow, wDv_fz, wDs_nil, wDs_cons, wRet_f, wRet_n, wRet_v, wRv_ow, wRv_fz, wAug_f, wFz_fz, wFset_obj, slotAt_nil, slotAt_zero, slotAt_succ, set_zero, set_succ, set_nil, rd_f, rd_n, rd_v, rdS_ow, rdS_pw, rdS_fz, rds_nil, rds_cons, ownAt_eq, ownS_ow, ownS_pw, putOwn_eq, putS_ow, putS_pw, setS_eq, npw_fz, npw_ow, npw_no, npw_pw, store_n, store_f, store_nf, store_v, tgt_nm, tgt_tp, tgt_tq, setMany_nil, setMany_cons, setQ_nil, setQ_cons, setQ_tup, prep_nil, prep_nt, prep_nf, prep_f, prep_v, storeAll_nil, storeAll_f, storeAll_n, lend_nil, lend_f, lend_n, lend_vt, lend_vf, lend_v0, lendS_ow, lendS_pw, lendS_fz, isLst_lst, opAug_int, oEq_int, oEq_str, oEq_lnil, oEq_bl, oq_add_int, oq_add_str, oq_add_lst, oq_add_tup, oq_sub_int, oq_mul_int, oq_mul_lst, oq_fdv_int, oq_mod_int, oq_pow_int, oq_shl_int, oq_neg_int, oq_lt_int, oq_le_int, oq_gt_int, oq_ge_int, oq_eq, oq_ne, oq_isN, oq_isnN, oq_in, oq_nin, oIn_lst, oIn_tup, oIn_dct, oIn_str, keyOf_int, keyOf_str, oq_idx_lst, oq_idx_tup, oq_idx_dct, oq_idx_str, oq_rev_lst, oq_len_lst, oq_len_tup, oq_len_dct, oq_len_str, oq_int_int, oq_int_bl, oq_max2, oq_min2, oq_sum, oq_list_lst, oq_list_tup, oq_list_dct, oq_tuple_lst, oq_tuple_tup, oq_sorted_dct, oq_sorted_lst, oq_all, oq_any, oq_abs, oq_dvm, oq_dictP_lst, oq_dictP_dct, oq_isInt, oq_isBool, oq_isStr, oq_isList, oq_isTuple, oq_isDict, oq_isObj, oObj_obj, oTy_non, oTy_int, oTy_bl, oTy_str, oTy_lst, oTy_tup, oTy_dct, dInt_int, dInt_bl, dInt_str, dInt_lst, dInt_non, dBool_int, dBool_bl, dStr_str, dStr_int, dList_lst, dList_tup, dTuple_tup, dTuple_lst, dDict_dct, isNone_non, isNone_int, isNone_lst, isNone_tup, isNone_str, at_0, at_1, at_2, at_3, at_4, ixOf_0, ixOf_1, ixOf_2, setD_lst, setD_dct, mut_append, mut_extend, mut_pop, mut_popAt, mut_clear, spread_f, spread_lst, spread_tup, sliD_lst, sliD_tup, wipeE_nil, wipeE_cons, unwipe_nil, unwipe_cons, wMut_eq, at_m1, List.getElem?_cons_zero, List.getElem?_cons_succ, List.headD_cons, List.headD_nil, List.tail_cons, List.tail_nil, List.nil_append, List.cons_append, List.append_nil, List.length_cons, List.length_nil, List.not_mem_nil, List.mem_cons, not_false_eq_true, true_and, and_true, if_true, if_false, reduceIte, reduceCtorEq, Bool.not_true, Bool.not_false, Nat.reduceAdd, Nat.reduceLT, Nat.reduceLeDiff, Option.isSome_some, or_false, false_or, Nat.reduceEqDiff, Bool.false_xor, Bool.true_xor, and_self, decide_true, decide_false])
local macro_rules | `(tactic| walk_at "pvs") => `(tactic| simp (config := { decide := false, implicitDefEqProofs := false, maxSteps := 1000000 }) only [wSs_cons, wS_asg, wS_asgT, wS_asgQ, wS_par, wS_aug, wS_sset, wS_fset, wS_exp, wS_ret, wS_retN, wS_ifs, wS_pass, wS_brk, wS_cnt, wS_wall, wS_fors, wS_whl, wFor_nil, kOf_nx, kOf_rt, List.take_succ_cons, List.take_zero, List.map_cons, List.map_nil, outS_fz, outS_ow, outS_pw, outS_no, intsOf_map, strsOf_map, boolsOf_rep, all_rep, List.length_replicate, List.length_map, wEqo_obj, setF, getF, keyD_inl, keyD_inr, keyOf_int, List.set_cons_zero, List.set_cons_succ, List.set_nil, wC, wNew, wNw_ok, back_nil, back_f, back_n, back_vf, back_vo, backS_ow, backT_ow, backT_pw, notV_f, notV_n, wp_fok, wMut_eq, wE_cst, wE_var, wE_glb, wEs_nil, wEs_cons, wE_op, wE_and, wE_or, wE_not, wE_ite, wE_chn, wE_lst, wE_tup, wE_lstS, wA_nil, wA_cons, wE_dctN, wE_dct, wE_fld, wE_call, wE_prp, wE_mth, wE_new, wE_eqo, wE_eql, wE_sli, wE_mut, wE_lc, wE_dc, wI_seq, wI_rng, wI_rng2, wI_itm, wI_val, wI_zip, wI_enm, wBd_non, wBd_int, wBd_var, wBd_op, wPart_int, wInt_int, wIt_lst, wIt_tup, wIt_dct, wIt_str, wDct_dct, wLst_lst, wFld_obj, wM_obj, wEqo_obj, wEql_n, wO_some, wO_none, wO_bind, wO_map, wO_ite, wSs_nil, wB_bl, wK_t, wK_f, wV_fz, wV_ow, wV_pw, wV_no, wD_f, wD_n, wD_v, wDv_ow, wDv_fz, wDs_nil, wDs_cons, wRet_f, wRet_n, wRet_v, wRv_ow, wRv_fz, wAug_f, wFz_fz, wFset_obj, slotAt_nil, slotAt_zero, slotAt_succ, set_zero, set_succ, set_nil, rd_f, rd_n, rd_v, rdS_ow, rdS_pw, rdS_fz, rds_nil, rds_cons, ownAt_eq, ownS_ow, ownS_pw, putOwn_eq, putS_ow, putS_pw, setS_eq, npw_fz, npw_ow, npw_no, npw_pw, store_n, store_f, store_nf, store_v, tgt_nm, tgt_tp, tgt_tq, setMany_nil, setMany_cons, setQ_nil, setQ_cons, setQ_tup, prep_nil, prep_nt, prep_nf, prep_f, prep_v, storeAll_nil, storeAll_f, storeAll_n, lend_nil, lend_f, lend_n, lend_vt, lend_vf, lend_v0, lendS_ow, lendS_pw, lendS_fz, isLst_lst, opAug_int, oEq_int, oEq_str, oEq_lnil, oEq_bl, oq_add_int, oq_add_str, oq_add_lst, oq_add_tup, oq_sub_int, oq_mul_int, oq_mul_lst, oq_fdv_int, oq_mod_int, oq_pow_int, oq_shl_int, oq_neg_int, oq_lt_int, oq_le_int, oq_gt_int, oq_ge_int, oq_eq, oq_ne, oq_isN, oq_isnN, oq_in, oq_nin, oIn_lst, oIn_tup, oIn_dct, oIn_str, keyOf_int, keyOf_str, oq_idx_lst, oq_idx_tup, oq_idx_dct, oq_idx_str, oq_rev_lst, oq_len_lst, oq_len_tup, oq_len_dct, oq_len_str, oq_int_int, oq_int_bl, oq_max2, oq_min2, oq_sum, oq_list_lst, oq_list_tup, oq_list_dct, oq_tuple_lst, oq_tuple_tup, oq_sorted_dct, oq_sorted_lst, oq_all, oq_any, oq_abs, oq_dvm, oq_dictP_lst, oq_dictP_dct, oq_isInt, oq_isBool, oq_isStr, oq_isList, oq_isTuple, oq_isDict, oq_isObj, oObj_obj, oTy_non, oTy_int, oTy_bl, oTy_str, oTy_lst, oTy_tup, oTy_dct, dInt_int, dInt_bl, dInt_str, dInt_lst, dInt_non, dBool_int, dBool_bl, dStr_str, dStr_int, dList_lst, dList_tup, dTuple_tup, dTuple_lst, dDict_dct, isNone_non, isNone_int, isNone_lst, isNone_tup, isNone_str, at_0, at_1, at_2, at_3, at_4, ixOf_0, ixOf_1, ixOf_2, setD_lst, setD_dct, mut_append, mut_extend, mut_pop, mut_popAt, mut_clear, spread_f, spread_lst, spread_tup, sliD_lst, sliD_tup, wipeE_nil, wipeE_cons, unwipe_nil, unwipe_cons, wMut_eq, at_m1, List.getElem?_cons_zero, List.getElem?_cons_succ, List.headD_cons, List.headD_nil, List.tail_cons, List.tail_nil, List.nil_append, List.cons_append, List.append_nil, List.length_cons, List.length_nil, List.not_mem_nil, List.mem_cons, not_false_eq_true, true_and, and_true, if_true, if_false, reduceIte, reduceCtorEq, Bool.not_true, Bool.not_false, Nat.reduceAdd, Nat.reduceLT, Nat.reduceLeDiff, Option.isSome_some, or_false, false_or, Nat.reduceEqDiff, Bool.false_xor, Bool.true_xor, and_self, decide_true, decide_false])
local macro_rules | `(tactic| walk_at "pv0") => `(tactic| simp (config := { decide := false, implicitDefEqProofs := false, maxSteps := 1000000 }) only [List.map_cons, List.map_nil, inS_ow, inS_fz, List.length_cons, List.length_nil, List.replicate_succ, List.replicate_zero, Nat.reduceAdd, Nat.reduceSub, List.cons_append, List.nil_append, Nat.zero_add])
local macro_rules | `(tactic| wp_walk using $ts,*) => `(tactic| simp (config := { decide := false, implicitDefEqProofs := false, maxSteps := 1000000 }) only [wSs_cons, wS_asg, wS_asgT, wS_asgQ, wS_par, wS_aug, wS_sset, wS_fset, wS_exp, wS_ret, wS_retN, wS_ifs, wS_pass, wS_brk, wS_cnt, wS_wall, wS_fors, wS_whl, wFor_nil, kOf_nx, kOf_rt, List.take_succ_cons, List.take_zero, List.map_cons, List.map_nil, outS_fz, outS_ow, outS_pw, outS_no, intsOf_map, strsOf_map, boolsOf_rep, all_rep, List.length_replicate, List.length_map, wEqo_obj, setF, getF, keyD_inl, keyD_inr, keyOf_int, List.set_cons_zero, List.set_cons_succ, List.set_nil, wC, wNew, wNw_ok, back_nil, back_f, back_n, back_vf, back_vo, backS_ow, backT_ow, backT_pw, notV_f, notV_n, wp_fok, wMut_eq, wE_cst, wE_var, wE_glb, wEs_nil, wEs_cons, wE_op, wE_and, wE_or, wE_not, wE_ite, wE_chn, wE_lst, wE_tup, wE_lstS, wA_nil, wA_cons, wE_dctN, wE_dct, wE_fld, wE_call, wE_prp, wE_mth, wE_new, wE_eqo, wE_eql, wE_sli, wE_mut, wE_lc, wE_dc, wI_seq, wI_rng, wI_rng2, wI_itm, wI_val, wI_zip, wI_enm, wBd_non, wBd_int, wBd_var, wBd_op, wPart_int, wInt_int, wIt_lst, wIt_tup, wIt_dct, wIt_str, wDct_dct, wLst_lst, wFld_obj, wM_obj, wEqo_obj, wEql_n, wO_some, wO_none, wO_bind, wO_map, wO_ite, wSs_nil, wB_bl, wK_t, wK_f, wV_fz, wV_ow, wV_pw, wV_no, wD_f, wD_n, wD_v, wDv_ow, wDv_fz, wDs_nil, wDs_cons, wRet_f, wRet_n, wRet_v, wRv_ow, wRv_fz, wAug_f, wFz_fz, wFset_obj, slotAt_nil, slotAt_zero, slotAt_succ, set_zero, set_succ, set_nil, rd_f, rd_n, rd_v, rdS_ow, rdS_pw, rdS_fz, rds_nil, rds_cons, ownAt_eq, ownS_ow, ownS_pw, putOwn_eq, putS_ow, putS_pw, setS_eq, npw_fz, npw_ow, npw_no, npw_pw, store_n, store_f, store_nf, store_v, tgt_nm, tgt_tp, tgt_tq, setMany_nil, setMany_cons, setQ_nil, setQ_cons, setQ_tup, prep_nil, prep_nt, prep_nf, prep_f, prep_v, storeAll_nil, storeAll_f, storeAll_n, lend_nil, lend_f, lend_n, lend_vt, lend_vf, lend_v0, lendS_ow, lendS_pw, lendS_fz, isLst_lst, opAug_int, oEq_int, oEq_str, oEq_lnil, oEq_bl, oq_add_int, oq_add_str, oq_add_lst, oq_add_tup, oq_sub_int, oq_mul_int, oq_mul_lst, oq_fdv_int, oq_mod_int, oq_pow_int, oq_shl_int, oq_neg_int, oq_lt_int, oq_le_int, oq_gt_int, oq_ge_int, oq_eq, oq_ne, oq_isN, oq_isnN, oq_in, oq_nin, oIn_lst, oIn_tup, oIn_dct, oIn_str, keyOf_int, keyOf_str, oq_idx_lst, oq_idx_tup, oq_idx_dct, oq_idx_str, oq_rev_lst, oq_len_lst, oq_len_tup, oq_len_dct, oq_len_str, oq_int_int, oq_int_bl, oq_max2, oq_min2, oq_sum, oq_list_lst, oq_list_tup, oq_list_dct, oq_tuple_lst, oq_tuple_tup, oq_sorted_dct, oq_sorted_lst, oq_all, oq_any, oq_abs, oq_dvm, oq_dictP_lst, oq_dictP_dct, oq_isInt, oq_isBool, oq_isStr, oq_isList, oq_isTuple, oq_isDict, oq_isObj, oObj_obj, oTy_non, oTy_int, oTy_bl, oTy_str, oTy_lst, oTy_tup, oTy_dct, dInt_int, dInt_bl, dInt_str, dInt_lst, dInt_non, dBool_int, dBool_bl, dStr_str, dStr_int, dList_lst, dList_tup, dTuple_tup, dTuple_lst, dDict_dct, isNone_non, isNone_int, isNone_lst, isNone_tup, isNone_str, at_0, at_1, at_2, at_3, at_4, ixOf_0, ixOf_1, ixOf_2, setD_lst, setD_dct, mut_append, mut_extend, mut_pop, mut_popAt, mut_clear, spread_f, spread_lst, spread_tup, sliD_lst, sliD_tup, wipeE_nil, wipeE_cons, unwipe_nil, unwipe_cons, wMut_eq, at_m1, List.getElem?_cons_zero, List.getElem?_cons_succ, List.headD_cons, List.headD_nil, List.tail_cons, List.tail_nil, List.nil_append, List.cons_append, List.append_nil, List.length_cons, List.length_nil, List.not_mem_nil, List.mem_cons, not_false_eq_true, true_and, and_true, if_true, if_false, reduceIte, reduceCtorEq, Bool.not_true, Bool.not_false, Nat.reduceAdd, Nat.reduceLT, Nat.reduceLeDiff, Option.isSome_some, or_false, false_or, Nat.reduceEqDiff, Bool.false_xor, Bool.true_xor, and_self, decide_true, decide_false, $[$ts:term],*])
local macro_rules | `(tactic| walk_at "pv1") => `(tactic| simp (config := { decide := false, implicitDefEqProofs := false, maxSteps := 1000000 }) only [wS_asg, wS_asgT, wS_asgQ, wS_par, wS_aug, wS_sset, wS_fset, wS_exp, wS_ret, wS_retN, wS_ifs, wS_pass, wS_brk, wS_cnt, wS_wall, wS_fors, wS_whl, wFor_nil, kOf_nx, kOf_rt, List.take_succ_cons, List.take_zero, List.map_cons, List.map_nil, outS_fz, outS_ow, outS_pw, outS_no, intsOf_map, strsOf_map, boolsOf_rep, all_rep, List.length_replicate, List.length_map, wEqo_obj, setF, getF, keyD_inl, keyD_inr, keyOf_int, List.set_cons_zero, List.set_cons_succ, List.set_nil, wC, wNew, wNw_ok, back_nil, back_f, back_n, back_vf, back_vo, backS_ow, backT_ow, backT_pw, notV_f, notV_n, wp_fok, wMut_eq, wE_cst, wE_var, wE_glb, wEs_nil, wEs_cons, wE_op, wE_and, wE_or, wE_not, wE_ite, wE_chn, wE_lst, wE_tup, wE_lstS, wA_nil, wA_cons, wE_dctN, wE_dct, wE_fld, wE_call, wE_prp, wE_mth, wE_new, wE_eqo, wE_eql, wE_sli, wE_mut, wE_lc, wE_dc, wI_seq, wI_rng, wI_rng2, wI_itm, wI_val, wI_zip, wI_enm, wBd_non, wBd_int, wBd_var, wBd_op, wPart_int, wInt_int, wIt_lst, wIt_tup, wIt_dct, wIt_str, wDct_dct, wLst_lst, wFld_obj, wM_obj, wEqo_obj, wEql_n, wO_some, wO_none, wO_bind, wO_map, wO_ite, wSs_nil, wB_bl, wK_t, wK_f, wV_fz, wV_ow, wV_pw, wV_no, wD_f, wD_n, wD_v, wDv_ow, wDv_fz, wDs_nil, wDs_cons, wRet_f, wRet_n, wRet_v, wRv_ow, wRv_fz, wAug_f, wFz_fz, wFset_obj, slotAt_nil, slotAt_zero, slotAt_succ, set_zero, set_succ, set_nil, rd_f, rd_n, rd_v, rdS_ow, rdS_pw, rdS_fz, rds_nil, rds_cons, ownAt_eq, ownS_ow, ownS_pw, putOwn_eq, putS_ow, putS_pw, setS_eq, npw_fz, npw_ow, npw_no, npw_pw, store_n, store_f, store_nf, store_v, tgt_nm, tgt_tp, tgt_tq, setMany_nil, setMany_cons, setQ_nil, setQ_cons, setQ_tup, prep_nil, prep_nt, prep_nf, prep_f, prep_v, storeAll_nil, storeAll_f, storeAll_n, lend_nil, lend_f, lend_n, lend_vt, lend_vf, lend_v0, lendS_ow, lendS_pw, lendS_fz, isLst_lst, opAug_int, oEq_int, oEq_str, oEq_lnil, oEq_bl, oq_add_int, oq_add_str, oq_add_lst, oq_add_tup, oq_sub_int, oq_mul_int, oq_mul_lst, oq_fdv_int, oq_mod_int, oq_pow_int, oq_shl_int, oq_neg_int, oq_lt_int, oq_le_int, oq_gt_int, oq_ge_int, oq_eq, oq_ne, oq_isN, oq_isnN, oq_in, oq_nin, oIn_lst, oIn_tup, oIn_dct, oIn_str, keyOf_int, keyOf_str, oq_idx_lst, oq_idx_tup, oq_idx_dct, oq_idx_str, oq_rev_lst, oq_len_lst, oq_len_tup, oq_len_dct, oq_len_str, oq_int_int, oq_int_bl, oq_max2, oq_min2, oq_sum, oq_list_lst, oq_list_tup, oq_list_dct, oq_tuple_lst, oq_tuple_tup, oq_sorted_dct, oq_sorted_lst, oq_all, oq_any, oq_abs, oq_dvm, oq_dictP_lst, oq_dictP_dct, oq_isInt, oq_isBool, oq_isStr, oq_isList, oq_isTuple, oq_isDict, oq_isObj, oObj_obj, oTy_non, oTy_int, oTy_bl, oTy_str, oTy_lst, oTy_tup, oTy_dct, dInt_int, dInt_bl, dInt_str, dInt_lst, dInt_non, dBool_int, dBool_bl, dStr_str, dStr_int, dList_lst, dList_tup, dTuple_tup, dTuple_lst, dDict_dct, isNone_non, isNone_int, isNone_lst, isNone_tup, isNone_str, at_0, at_1, at_2, at_3, at_4, ixOf_0, ixOf_1, ixOf_2, setD_lst, setD_dct, mut_append, mut_extend, mut_pop, mut_popAt, mut_clear, spread_f, spread_lst, spread_tup, sliD_lst, sliD_tup, wipeE_nil, wipeE_cons, unwipe_nil, unwipe_cons, wMut_eq, at_m1, List.getElem?_cons_zero, List.getElem?_cons_succ, List.headD_cons, List.headD_nil, List.tail_cons, List.tail_nil, List.nil_append, List.cons_append, List.append_nil, List.length_cons, List.length_nil, List.not_mem_nil, List.mem_cons, not_false_eq_true, true_and, and_true, if_true, if_false, reduceIte, reduceCtorEq, Bool.not_true, Bool.not_false, Nat.reduceAdd, Nat.reduceLT, Nat.reduceLeDiff, Option.isSome_some, or_false, false_or, Nat.reduceEqDiff, Bool.false_xor, Bool.true_xor, and_self, decide_true, decide_false])
local macro_rules | `(tactic| wp_walk using 1, $ts,*) => `(tactic| simp (config := { decide := false, implicitDefEqProofs := false, maxSteps := 1000000 }) only [wS_asg, wS_asgT, wS_asgQ, wS_par, wS_aug, wS_sset, wS_fset, wS_exp, wS_ret, wS_retN, wS_ifs, wS_pass, wS_brk, wS_cnt, wS_wall, wS_fors, wS_whl, wFor_nil, kOf_nx, kOf_rt, List.take_succ_cons, List.take_zero, List.map_cons, List.map_nil, outS_fz, outS_ow, outS_pw, outS_no, intsOf_map, strsOf_map, boolsOf_rep, all_rep, List.length_replicate, List.length_map, wEqo_obj, setF, getF, keyD_inl, keyD_inr, keyOf_int, List.set_cons_zero, List.set_cons_succ, List.set_nil, wC, wNew, wNw_ok, back_nil, back_f, back_n, back_vf, back_vo, backS_ow, backT_ow, backT_pw, notV_f, notV_n, wp_fok, wMut_eq, wE_cst, wE_var, wE_glb, wEs_nil, wEs_cons, wE_op, wE_and, wE_or, wE_not, wE_ite, wE_chn, wE_lst, wE_tup, wE_lstS, wA_nil, wA_cons, wE_dctN, wE_dct, wE_fld, wE_call, wE_prp, wE_mth, wE_new, wE_eqo, wE_eql, wE_sli, wE_mut, wE_lc, wE_dc, wI_seq, wI_rng, wI_rng2, wI_itm, wI_val, wI_zip, wI_enm, wBd_non, wBd_int, wBd_var, wBd_op, wPart_int, wInt_int, wIt_lst, wIt_tup, wIt_dct, wIt_str, wDct_dct, wLst_lst, wFld_obj, wM_obj, wEqo_obj, wEql_n, wO_some, wO_none, wO_bind, wO_map, wO_ite, wSs_nil, wB_bl, wK_t, wK_f, wV_fz, wV_ow, wV_pw, wV_no, wD_f, wD_n, wD_v, wDv_ow, wDv_fz, wDs_nil, wDs_cons, wRet_f, wRet_n, wRet_v, wRv_ow, wRv_fz, wAug_f, wFz_fz, wFset_obj, slotAt_nil, slotAt_zero, slotAt_succ, set_zero, set_succ, set_nil, rd_f, rd_n, rd_v, rdS_ow, rdS_pw, rdS_fz, rds_nil, rds_cons, ownAt_eq, ownS_ow, ownS_pw, putOwn_eq, putS_ow, putS_pw, setS_eq, npw_fz, npw_ow, npw_no, npw_pw, store_n, store_f, store_nf, store_v, tgt_nm, tgt_tp, tgt_tq, setMany_nil, setMany_cons, setQ_nil, setQ_cons, setQ_tup, prep_nil, prep_nt, prep_nf, prep_f, prep_v, storeAll_nil, storeAll_f, storeAll_n, lend_nil, lend_f, lend_n, lend_vt, lend_vf, lend_v0, lendS_ow, lendS_pw, lendS_fz, isLst_lst, opAug_int, oEq_int, oEq_str, oEq_lnil, oEq_bl, oq_add_int, oq_add_str, oq_add_lst, oq_add_tup, oq_sub_int, oq_mul_int, oq_mul_lst, oq_fdv_int, oq_mod_int, oq_pow_int, oq_shl_int, oq_neg_int, oq_lt_int, oq_le_int, oq_gt_int, oq_ge_int, oq_eq, oq_ne, oq_isN, oq_isnN, oq_in, oq_nin, oIn_lst, oIn_tup, oIn_dct, oIn_str, keyOf_int, keyOf_str, oq_idx_lst, oq_idx_tup, oq_idx_dct, oq_idx_str, oq_rev_lst, oq_len_lst, oq_len_tup, oq_len_dct, oq_len_str, oq_int_int, oq_int_bl, oq_max2, oq_min2, oq_sum, oq_list_lst, oq_list_tup, oq_list_dct, oq_tuple_lst, oq_tuple_tup, oq_sorted_dct, oq_sorted_lst, oq_all, oq_any, oq_abs, oq_dvm, oq_dictP_lst, oq_dictP_dct, oq_isInt, oq_isBool, oq_isStr, oq_isList, oq_isTuple, oq_isDict, oq_isObj, oObj_obj, oTy_non, oTy_int, oTy_bl, oTy_str, oTy_lst, oTy_tup, oTy_dct, dInt_int, dInt_bl, dInt_str, dInt_lst, dInt_non, dBool_int, dBool_bl, dStr_str, dStr_int, dList_lst, dList_tup, dTuple_tup, dTuple_lst, dDict_dct, isNone_non, isNone_int, isNone_lst, isNone_tup, isNone_str, at_0, at_1, at_2, at_3, at_4, ixOf_0, ixOf_1, ixOf_2, setD_lst, setD_dct, mut_append, mut_extend, mut_pop, mut_popAt, mut_clear, spread_f, spread_lst, spread_tup, sliD_lst, sliD_tup, wipeE_nil, wipeE_cons, unwipe_nil, unwipe_cons, wMut_eq, at_m1, List.getElem?_cons_zero, List.getElem?_cons_succ, List.headD_cons, List.headD_nil, List.tail_cons, List.tail_nil, List.nil_append, List.cons_append, List.append_nil, List.length_cons, List.length_nil, List.not_mem_nil, List.mem_cons, not_false_eq_true, true_and, and_true, if_true, if_false, reduceIte, reduceCtorEq, Bool.not_true, Bool.not_false, Nat.reduceAdd, Nat.reduceLT, Nat.reduceLeDiff, Option.isSome_some, or_false, false_or, Nat.reduceEqDiff, Bool.false_xor, Bool.true_xor, and_self, decide_true, decide_false, $[$ts:term],*])

/-- what of the tables is asked -/
structure Ok (P : Pg) : Prop extends Has P where
  g0 : P.gl 0 = .int 1000000000000000000000000000000
  g1 : P.gl 1 = .int 5
  g2 : P.gl 2 = .int 3
  g3 : P.gl 3 = .int 10
  g4 : P.gl 4 = .int 6
  m0 : P.mt 0 0 = some 6
  m1 : P.mt 0 1 = some 11
  m2 : P.mt 0 2 = some 7
  m3 : P.mt 0 3 = some 8
  f0 : P.fl 0 0 = true
  f1 : P.fl 0 1 = true
structure OkN (P : Pg) : Prop extends Ok P where
  Line_names : P.fd 9 = some (.body 1 1 c_Line_names)
  m4 : P.mt 0 4 = some 9
structure OkS (P : Pg) : Prop extends Ok P where
  Line_stations : P.fd 10 = some (.body 1 1 c_Line_stations)
  m5 : P.mt 0 5 = some 10
abbrev tI (xs : List Int) : D := .tup (xs.map .int)
abbrev lI (xs : List Int) : D := .lst (xs.map .int)
abbrev Kinds := List (Str × List Int)
abbrev kL (ks : Kinds) : List (Key × D) := ks.map fun p => (.inr p.1, lI p.2)
abbrev kT (ks : Kinds) : List (Key × D) := ks.map fun p => (.inr p.1, tI p.2)
abbrev lineD (ps : List Int) (ks : Kinds) : D := .obj 0 [(0, tI ps), (1, .dct (kT ks))]
abbrev MAX : Int := 1000000000000000000000000000000
structure OkP (ps : List Int) : Prop where
  len : ps.length < 5
  rng : ∀ x ∈ ps, 0 ≤ x ∧ x ≤ 3
  sum : (ps.length : Int) + 1 + ps.sum ≤ 10
structure OkName (s : Str) : Prop where
  lo : 1 ≤ s.length
  hi : s.length ≤ 8
  az : ∀ c ∈ s.cps.toList, c ∈ ("abcdefghijklmnopqrstuvwxyz" : Str).cps.toList
structure OkK (ks : Kinds) (n : Nat) : Prop where
  lo : 1 ≤ ks.length
  hi : ks.length ≤ 6
  nd : (ks.map (·.1)).Nodup
  nm : ∀ p ∈ ks, OkName p.1
  tl : ∀ p ∈ ks, p.2.length = n
  tr : ∀ p ∈ ks, ∀ t ∈ p.2, 0 ≤ t ∧ t ≤ MAX
theorem k_nd {f : List Int → D} {ks : Kinds} {m : Nat} (hk : OkK ks m) : ((ks.map fun p => ((.inr p.1, f p.2) : Key × D)).map (·.1)).Nodup := by
  have := hk.nd
  unfold List.Nodup at this ⊢
  rw [List.pairwise_map] at this
  rw [List.pairwise_map, List.pairwise_map]
  exact this.imp fun h e => h (by simpa using e)
/-- == of lines -/
def eqLine (ps qs : List Int) (ks ls : Kinds) : Bool := decide (ps = qs) && sameD ks ls
section
variable {P : Pg} (h : Ok P) {n : Nat}
include h
theorem is_int {i : Int} : runF P (n + 1) 0 [.fz (.int i)] = .ok (.f (.bl true)) [.fz (.int i)] := by
  refine FOut.get (wp_runF h.is_int rfl ?_)
  walk_at "pv0"
  walk_at "pvs"
theorem is_whole {i lo hi : Int} (h1 : lo ≤ i) (h2 : i ≤ hi) : runF P (n + 2) 1 [.fz (.int i), .fz (.int lo), .fz (.int hi)] = .ok (.f (.bl true)) [.fz (.int i), .fz (.int lo), .fz (.int hi)] := by
  refine FOut.get (wp_runF h.is_whole rfl ?_)
  walk_at "pv0"
  wp_walk using is_int h
  simp [wK, h1, h2]
theorem is_time {i : Int} (h1 : 0 ≤ i) (h2 : i ≤ MAX) : runF P (n + 3) 2 [.fz (.int i)] = .ok (.f (.bl true)) [.fz (.int i)] := by
  refine FOut.get (wp_runF h.is_time rfl ?_)
  walk_at "pv0"
  wp_walk using is_whole h h1 h2, h.g0
theorem is_name {x : Str} (hx : OkName x) : runF P (n + 1) 3 [.fz (.str x)] = .ok (.f (.bl true)) [.fz (.str x)] := by
  refine FOut.get (wp_runF h.is_name rfl ?_)
  walk_at "pv0"
  walk_at "pvs"
  have a1 : (1 : Int) ≤ x.length := by have := hx.lo; omega
  have a2 : (x.length : Int) ≤ 8 := by have := hx.hi; omega
  have a3 : x.length ≤ LIM := by have := hx.hi; simp only [LIM]; omega
  simp only [a1, a2, a3, decide_true]
  walk_at "pvs"
  refine wG_all (fun d hd => ?_) ?_
  · obtain ⟨c, hc, rfl⟩ := List.mem_map.1 hd
    walk_at "pvs"
    have := hx.az c hc
    refine ⟨rfl, ?_⟩
    simp only [D.bl.injEq, decide_eq_true_eq]
    exact this
  · walk_at "pvs"
    simp only [Array.length_toList]
    exact a3
theorem valid_places {ps : List Int} (hp : OkP ps) : runF P (n + 3) 4 [.fz (lI ps)] = .ok (.f (.bl true)) [.fz (lI ps)] := by
  refine FOut.get (wp_runF h.valid_places rfl ?_)
  walk_at "pv0"
  wp_walk using h.g1, h.g2, h.g3
  have a1 := hp.len
  have a2 : ¬ (5 : Int) ≤ ps.length := by omega
  have a3 := hp.sum
  have a4 : ps.length ≤ LIM := by simp only [LIM]; omega
  simp only [a2, decide_false]
  wp_walk using h.g1, h.g2, h.g3
  refine wG_all (fun d hd => ?_) ?_
  · obtain ⟨i, hi, rfl⟩ := List.mem_map.1 hd
    have := hp.rng i hi
    wp_walk using h.g2, is_whole h this.1 this.2
  · wp_walk using h.g3
    simp [a3, a4]
theorem require_kinds {ks : Kinds} {k : Nat} (hk : OkK ks k) {m : Int} (em : m = k) (hm : k ≤ 5) : runF P (n + 4) 5 [.fz (.dct (kL ks)), .fz (.int m)] = .ok (.f .non) [.fz (.dct (kL ks)), .fz (.int m)] := by
  subst em
  refine FOut.get (wp_runF h.require_kinds rfl ?_)
  walk_at "pv0"
  wp_walk using h.g4
  have a1 : (1 : Int) ≤ ks.length := by have := hk.lo; omega
  have a2 : (ks.length : Int) ≤ 6 := by have := hk.hi; omega
  simp only [a1, a2, decide_true]
  walk_at "pvs"
  refine wFor_all (fun ρ => ∃ s1 s2 s3, ρ = [.fz (.dct (kL ks)), .fz (.int k), s1, s2, s3] ∧ npw s1 ∧ npw s2 ∧ npw s3) ⟨_, _, _, rfl, trivial, trivial, trivial⟩ (fun d hd ρ => ?_) ?_
  · obtain ⟨q, hq, rfl⟩ := List.mem_map.1 hd
    obtain ⟨p, hp, rfl⟩ := List.mem_map.1 hq
    rintro ⟨s1, s2, s3, rfl, n1, n2, n3⟩
    have e := hk.tl p hp
    wp_walk using n1, n2, n3, is_name h (hk.nm p hp), e
    refine wG_all (fun d hd => ?_) ?_
    · obtain ⟨i, hi, rfl⟩ := List.mem_map.1 hd
      have := hk.tr p hp i hi
      wp_walk using is_time h this.1 this.2
    · wp_walk using n3
      exact ⟨by simp only [LIM]; omega, _, _, _, rfl, trivial, trivial, n3⟩
  · rintro ρ ⟨s1, s2, s3, rfl, n1, n2, n3⟩
    walk_at "pvs"
theorem Line_init {ps : List Int} {ks : Kinds} (hp : OkP ps) (hk : OkK ks (ps.length + 1)) :
    runF P (n + 5) 6 [.ow (.obj 0 []), .fz (lI ps), .fz (.dct (kL ks))] = .ok (.f .non) [.ow (lineD ps ks), .fz (lI ps), .fz (.dct (kL ks))] := by
  refine FOut.get (wp_runF h.Line_init rfl ?_)
  walk_at "pv0"
  wp_walk using valid_places h hp, require_kinds h hk (m := ps.length + 1) (by omega) (by have := hp.len; omega), h.f0, h.f1
  refine wH_mapL (fun q => (q.1, match q.2 with | .lst xs => .tup xs | d => d)) (fun q hq => ?_) ?_
  · obtain ⟨p, hp, rfl⟩ := List.mem_map.1 hq
    walk_at "pvs"
  · have e : (kL ks).map (fun q => (q.1, match q.2 with | .lst xs => D.tup xs | d => d)) = kT ks := by rw [List.map_map]; rfl
    rw [e, putAll_nil (k_nd hk)]
    wp_walk using h.f1
    have := hk.hi
    simp only [LIM]
    first | exact ⟨by omega, rfl⟩ | omega
theorem Line_places {ps : List Int} {ks : Kinds} : runF P (n + 1) 7 [.fz (lineD ps ks)] = .ok (.n (lI ps)) [.fz (lineD ps ks)] := by
  refine FOut.get (wp_runF h.Line_places rfl ?_)
  walk_at "pv0"
  wp_walk using h.f0
theorem Line_kinds {ps : List Int} {ks : Kinds} {m : Nat} (hk : OkK ks m) : runF P (n + 1) 8 [.fz (lineD ps ks)] = .ok (.n (.dct (kL ks))) [.fz (lineD ps ks)] := by
  refine FOut.get (wp_runF h.Line_kinds rfl ?_)
  walk_at "pv0"
  wp_walk using h.f1
  refine wH_mapL (fun q => (q.1, match q.2 with | .tup xs => .lst xs | d => d)) (fun q hq => ?_) ?_
  · obtain ⟨p, hp, rfl⟩ := List.mem_map.1 hq
    walk_at "pvs"
  · have e : (kT ks).map (fun q => (q.1, match q.2 with | .tup xs => D.lst xs | d => d)) = kL ks := by rw [List.map_map]; rfl
    rw [e, putAll_nil (k_nd hk)]
    walk_at "pvs"
    have := hk.hi
    simp only [LIM]
    first | exact ⟨by omega, rfl, rfl⟩ | omega
theorem Line_eq {ps qs : List Int} {ks ls : Kinds} : runF P (n + 1) 11 [.fz (lineD ps ks), .fz (lineD qs ls)] = .ok (.f (.bl (eqLine ps qs ks ls))) [.fz (lineD ps ks), .fz (lineD qs ls)] := by
  refine FOut.get (wp_runF h.Line_eq rfl ?_)
  walk_at "pv0"
  wp_walk using h.f0, h.f1, oEq_tints, oEq_dct (fun x y => eq3_tints)
  unfold eqLine
  by_cases e : ps = qs <;> simp [wK, e]
theorem require_line {ps : List Int} {ks : Kinds} : runF P (n + 1) 26 [.fz (lineD ps ks)] = .ok (.f .non) [.fz (lineD ps ks)] := by
  refine FOut.get (wp_runF h.require_line rfl ?_)
  walk_at "pv0"
  walk_at "pvs"
end
theorem Line_stations {P : Pg} (h : OkS P) {n : Nat} {ps : List Int} {ks : Kinds} : runF P (n + 1) 10 [.fz (lineD ps ks)] = .ok (.f (.int (ps.length + 1))) [.fz (lineD ps ks)] := by
  refine FOut.get (wp_runF h.Line_stations rfl ?_)
  walk_at "pv0"
  wp_walk using h.f0
theorem Line_names {P : Pg} (h : OkN P) {n : Nat} {ps : List Int} {ks : Kinds} {m : Nat} (hk : OkK ks m) : runF P (n + 1) 9 [.fz (lineD ps ks)] = .ok (.n (.lst ((sortStr (ks.map (·.1))).map .str))) [.fz (lineD ps ks)] := by
  refine FOut.get (wp_runF h.Line_names rfl ?_)
  walk_at "pv0"
  wp_walk using h.f1
  rw [show List.map (fun p => keyD p.1) (kT ks) = (ks.map (·.1)).map D.str from by simp [keyD], sortD_strs (by have := hk.hi; simp; omega)]
  walk_at "pvs"
end LN

set_option Elab.async false
set_option linter.all false
set_option maxRecDepth 100000
set_option maxHeartbeats 4000000
namespace RL
open PV
/-- 16: _law_wound(_law_script, _law_k, _law_cell) -/
abbrev c_law_wound : CSs := (.cons (.asg (.nm 2) false (.cst (.int 0))) (.cons (.ifs (.op .lt (.cons (.var 1) (.cons (.op .len (.cons (.var 0) .nil)) .nil))) (.cons (.asg (.nm 2) false (.op .idx (.cons (.var 0) (.cons (.var 1) .nil)))) .nil) .nil) (.cons (.ret (.lst (.cons (.op .max2 (.cons (.cst (.int 0)) (.cons (.op .sub (.cons (.var 2) (.cons (.op .pow (.cons (.cst (.int 10)) (.cons (.cst (.int 18)) .nil))) .nil))) .nil))) (.cons (.op .add (.cons (.op .add (.cons (.op .mul (.cons (.op .mod (.cons (.op .int_ (.cons (.var 2) .nil)) (.cons (.op .add (.cons (.op .pow (.cons (.cst (.int 10)) (.cons (.cst (.int 38)) .nil))) (.cons (.cst (.int 133)) .nil))) .nil))) (.cons (.cst (.int 67)) .nil))) (.cons (.op .mul (.cons (.cst (.int 141650939)) (.cons (.var 1) .nil))) .nil))) (.cons (.cst (.int 23)) .nil))) (.cons (.cst (.int 0)) .nil))))) .nil)))
/-- 17: _law_spin(_law_reel, _law_many, _law_drawn, _law_mixed_here) -/
abbrev c_law_spin : CSs := (.cons (.ifs (.op .gt (.cons (.op .idx (.cons (.var 0) (.cons (.cst (.int 0)) .nil))) (.cons (.cst (.int 0)) .nil))) (.cons (.asg (.nm 2) false (.op .mod (.cons (.op .int_ (.cons (.op .idx (.cons (.var 0) (.cons (.cst (.int 0)) .nil))) .nil)) (.cons (.var 1) .nil)))) (.cons (.sset 0 (.cst (.int 0)) (.op .fdv (.cons (.op .idx (.cons (.var 0) (.cons (.cst (.int 0)) .nil))) (.cons (.var 1) .nil)))) (.cons (.ret (.var 2)) .nil))) .nil) (.cons (.sset 0 (.cst (.int 2)) (.op .add (.cons (.op .idx (.cons (.var 0) (.cons (.cst (.int 2)) .nil))) (.cons (.cst (.int 1)) .nil)))) (.cons (.asg (.nm 3) false (.op .mod (.cons (.op .int_ (.cons (.op .pow (.cons (.op .add (.cons (.op .idx (.cons (.var 0) (.cons (.cst (.int 1)) .nil))) (.cons (.op .mul (.cons (.cst (.int 86028121)) (.cons (.op .idx (.cons (.var 0) (.cons (.cst (.int 2)) .nil))) .nil))) .nil))) (.cons (.cst (.int 3)) .nil))) .nil)) (.cons (.op .add (.cons (.op .pow (.cons (.cst (.int 10)) (.cons (.cst (.int 42)) .nil))) (.cons (.cst (.int 63)) .nil))) .nil)))) (.cons (.asg (.nm 3) false (.op .mod (.cons (.op .int_ (.cons (.op .pow (.cons (.op .add (.cons (.var 3) (.cons (.op .mul (.cons (.cst (.int 67867967)) (.cons (.op .idx (.cons (.var 0) (.cons (.cst (.int 2)) .nil))) .nil))) .nil))) (.cons (.cst (.int 3)) .nil))) .nil)) (.cons (.op .add (.cons (.op .pow (.cons (.cst (.int 10)) (.cons (.cst (.int 44)) .nil))) (.cons (.cst (.int 57)) .nil))) .nil)))) (.cons (.ret (.op .mod (.cons (.op .int_ (.cons (.op .fdv (.cons (.var 3) (.cons (.cst (.int 655331)) .nil))) .nil)) (.cons (.var 1) .nil)))) .nil)))))
/-- 18: _law_mixed(_law_reel, _law_items, _law_left, _law_found) -/
abbrev c_law_mixed : CSs := (.cons (.par [2, 3] [true, true] (.cons (.op .list_ (.cons (.var 1) .nil)) (.cons (.lst .nil) .nil))) (.cons (.whl (.op .ne (.cons (.var 2) (.cons (.lst .nil) .nil))) (.cons (.exp (.mut .append 3 (.cons (.mut .popAt 2 (.cons (.call 17 [true, false] (.cons (.var 0) (.cons (.op .len (.cons (.var 2) .nil)) .nil))) .nil)) .nil))) .nil)) (.cons (.ret (.var 3)) .nil)))
/-- 19: _law_some_room(_law_reel, _law_many, _law_found, _law_turn) -/
abbrev c_law_some_room : CSs := (.cons (.asg (.nm 2) true (.lst .nil)) (.cons (.fors (.nm 3) (.rng (.op .sub (.cons (.var 1) (.cons (.cst (.int 1)) .nil)))) (.cons (.exp (.mut .append 2 (.cons (.op .min2 (.cons (.op .idx (.cons (.lst (.cons (.cst (.int 0)) (.cons (.cst (.int 1)) (.cons (.cst (.int 0)) (.cons (.cst (.int 2)) (.cons (.cst (.int 3)) .nil)))))) (.cons (.call 17 [true, false] (.cons (.var 0) (.cons (.cst (.int 5)) .nil))) .nil))) (.cons (.op .sub (.cons (.op .sub (.cons (.cst (.int 10)) (.cons (.var 1) .nil))) (.cons (.op .sum (.cons (.var 2) .nil)) .nil))) .nil))) .nil))) .nil)) (.cons (.ret (.var 2)) .nil)))
/-- 20: _law_some_kinds(_law_reel, _law_many, _law_wide, _law_found, _law_name, _law_turn) -/
abbrev c_law_some_kinds : CSs := (.cons (.asg (.nm 3) true (.dctN false)) (.cons (.fors (.nm 4) (.seq (.sli (.call 18 [true, false] (.cons (.var 0) (.cons (.lst (.cons (.cst (.str "a")) (.cons (.cst (.str "b")) (.cons (.cst (.str "x")) (.cons (.cst (.str "places")) (.cons (.cst (.str "abcdefgh")) .nil)))))) .nil))) (.cst .non) (.op .add (.cons (.cst (.int 1)) (.cons (.call 17 [true, false] (.cons (.var 0) (.cons (.cst (.int 3)) .nil))) .nil))))) (.cons (.sset 3 (.var 4) (.lc (.op .idx (.cons (.lst (.cons (.cst (.int 0)) (.cons (.cst (.int 1)) (.cons (.cst (.int 2)) (.cons (.call 17 [true, false] (.cons (.var 0) (.cons (.cst (.int 6)) .nil))) (.cons (.call 17 [true, false] (.cons (.var 0) (.cons (.var 2) .nil))) .nil)))))) (.cons (.call 17 [true, false] (.cons (.var 0) (.cons (.cst (.int 5)) .nil))) .nil))) (.nm 5) (.rng (.var 1)) (.cst (.bl true)) [5])) .nil)) (.cons (.ret (.var 3)) .nil)))
/-- the defs stand in the program -/
structure Has (P : Pg) : Prop where
  law_wound : P.fd 16 = some (.body 2 3 c_law_wound)
  law_spin : P.fd 17 = some (.body 2 4 c_law_spin)
  law_mixed : P.fd 18 = some (.body 2 4 c_law_mixed)
  law_some_room : P.fd 19 = some (.body 2 4 c_law_some_room)
  law_some_kinds : P.fd 20 = some (.body 3 6 c_law_some_kinds)
end RL

set_option Elab.async false
set_option linter.all false
set_option maxRecDepth 100000
set_option maxHeartbeats 4000000
namespace RL
open PySem
open PV
open L2 (Key)
local macro_rules | `(tactic| walk_at "pv") => `(tactic| simp (config := { decide := false, implicitDefEqProofs := false, maxSteps := 1000000 }) only [intsOf_map, strsOf_map, boolsOf_rep, all_rep, List.length_replicate, List.length_map, wEqo_obj, setF, getF, keyD_inl, keyD_inr, keyOf_int, List.set_cons_zero, List.set_cons_succ, List.set_nil, wC, wNew, wNw_ok, back_nil, back_f, back_n, back_vf, back_vo, backS_ow, backT_ow, backT_pw, notV_f, notV_n, wp_fok, wMut_eq, wE_cst, wE_var, wE_glb, wEs_nil, wEs_cons, wE_op, wE_and, wE_or, wE_not, wE_ite, wE_chn, wE_lst, wE_tup, wE_lstS, wA_nil, wA_cons, wE_dctN, wE_dct, wE_fld, wE_call, wE_prp, wE_mth, wE_new, wE_eqo, wE_eql, wE_sli, wE_mut, wE_lc, wE_dc, wI_seq, wI_rng, wI_rng2, wI_itm, wI_val, wI_zip, wI_enm, wBd_non, wBd_int, wBd_var, wBd_op, wPart_int, wInt_int, wIt_lst, wIt_tup, wIt_dct, wIt_str, wDct_dct, wLst_lst, wFld_obj, wM_obj, wEqo_obj, wEql_n, wO_some, wO_none, wO_bind, wO_map, wO_ite, wSs_nil, wB_bl, wK_t, wK_f, wV_fz, wV_ow, wV_pw, wV_no, wD_f, wD_n, wD_v, wDv_ow, wDv_fz, wDs_nil, wDs_cons, wRet_f, wRet_n, wRet_v, wRv_ow, wRv_fz, wAug_f, wFz_fz, wFset_obj, slotAt_nil, slotAt_zero, slotAt_succ, set_zero, set_succ, set_nil, rd_f, rd_n, rd_v, rdS_ow, rdS_pw, rdS_fz, rds_nil, rds_cons, ownAt_eq, ownS_ow, ownS_pw, putOwn_eq, putS_ow, putS_pw, setS_eq, npw_fz, npw_ow, npw_no, npw_pw, store_n, store_f, store_nf, store_v, tgt_nm, tgt_tp, tgt_tq, setMany_nil, setMany_cons, setQ_nil, setQ_cons, setQ_tup, prep_nil, prep_nt, prep_nf, prep_f, prep_v, storeAll_nil, storeAll_f, storeAll_n, lend_nil, lend_f, lend_n, lend_vt, lend_vf, lend_v0, lendS_ow, lendS_pw, lendS_fz, isLst_lst, opAug_int, oEq_int, oEq_str, oEq_lnil, oEq_bl, oq_add_int, oq_add_str, oq_add_lst, oq_add_tup, oq_sub_int, oq_mul_int, oq_mul_lst, oq_fdv_int, oq_mod_int, oq_pow_int, oq_shl_int, oq_neg_int, oq_lt_int, oq_le_int, oq_gt_int, oq_ge_int, oq_eq, oq_ne, oq_isN, oq_isnN, oq_in, oq_nin, oIn_lst, oIn_tup, oIn_dct, oIn_str, keyOf_int, keyOf_str, oq_idx_lst, oq_idx_tup, oq_idx_dct, oq_idx_str, oq_rev_lst, oq_len_lst, oq_len_tup, oq_len_dct, oq_len_str, oq_int_int, oq_int_bl, oq_max2, oq_min2, oq_sum, oq_list_lst, oq_list_tup, oq_list_dct, oq_tuple_lst, oq_tuple_tup, oq_sorted_dct, oq_sorted_lst, oq_all, oq_any, oq_abs, oq_dvm, oq_dictP_lst, oq_dictP_dct, oq_isInt, oq_isBool, oq_isStr, oq_isList, oq_isTuple, oq_isDict, oq_isObj, oObj_obj, oTy_non, oTy_int, oTy_bl, oTy_str, oTy_lst, oTy_tup, oTy_dct, dInt_int, dInt_bl, dInt_str, dInt_lst, dInt_non, dBool_int, dBool_bl, dStr_str, dStr_int, dList_lst, dList_tup, dTuple_tup, dTuple_lst, dDict_dct, isNone_non, isNone_int, isNone_lst, isNone_tup, isNone_str, at_0, at_1, at_2, at_3, at_4, ixOf_0, ixOf_1, ixOf_2, setD_lst, setD_dct, mut_append, mut_extend, mut_pop, mut_popAt, mut_clear, spread_f, spread_lst, spread_tup, sliD_lst, sliD_tup, wipeE_nil, wipeE_cons, unwipe_nil, unwipe_cons, wMut_eq, at_m1, List.getElem?_cons_zero, List.getElem?_cons_succ, List.headD_cons, List.headD_nil, List.tail_cons, List.tail_nil, List.nil_append, List.cons_append, List.append_nil, List.length_cons, List.length_nil, List.not_mem_nil, List.mem_cons, not_false_eq_true, true_and, and_true, if_true, if_false, reduceIte, reduceCtorEq, Bool.not_true, Bool.not_false, Nat.reduceAdd, Nat.reduceLT, Nat.reduceLeDiff, Option.isSome_some, or_false, false_or, Nat.reduceEqDiff, Bool.false_xor, Bool.true_xor, and_self, decide_true, decide_false])
local macro_rules | `(tactic| walk_at "pvs") => `(tactic| simp (config := { decide := false, implicitDefEqProofs := false, maxSteps := 1000000 }) only [wSs_cons, wS_asg, wS_asgT, wS_asgQ, wS_par, wS_aug, wS_sset, wS_fset, wS_exp, wS_ret, wS_retN, wS_ifs, wS_pass, wS_brk, wS_cnt, wS_wall, wS_fors, wS_whl, wFor_nil, kOf_nx, kOf_rt, List.take_succ_cons, List.take_zero, List.map_cons, List.map_nil, outS_fz, outS_ow, outS_pw, outS_no, intsOf_map, strsOf_map, boolsOf_rep, all_rep, List.length_replicate, List.length_map, wEqo_obj, setF, getF, keyD_inl, keyD_inr, keyOf_int, List.set_cons_zero, List.set_cons_succ, List.set_nil, wC, wNew, wNw_ok, back_nil, back_f, back_n, back_vf, back_vo, backS_ow, backT_ow, backT_pw, notV_f, notV_n, wp_fok, wMut_eq, wE_cst, wE_var, wE_glb, wEs_nil, wEs_cons, wE_op, wE_and, wE_or, wE_not, wE_ite, wE_chn, wE_lst, wE_tup, wE_lstS, wA_nil, wA_cons, wE_dctN, wE_dct, wE_fld, wE_call, wE_prp, wE_mth, wE_new, wE_eqo, wE_eql, wE_sli, wE_mut, wE_lc, wE_dc, wI_seq, wI_rng, wI_rng2, wI_itm, wI_val, wI_zip, wI_enm, wBd_non, wBd_int, wBd_var, wBd_op, wPart_int, wInt_int, wIt_lst, wIt_tup, wIt_dct, wIt_str, wDct_dct, wLst_lst, wFld_obj, wM_obj, wEqo_obj, wEql_n, wO_some, wO_none, wO_bind, wO_map, wO_ite, wSs_nil, wB_bl, wK_t, wK_f, wV_fz, wV_ow, wV_pw, wV_no, wD_f, wD_n, wD_v, wDv_ow, wDv_fz, wDs_nil, wDs_cons, wRet_f, wRet_n, wRet_v, wRv_ow, wRv_fz, wAug_f, wFz_fz, wFset_obj, slotAt_nil, slotAt_zero, slotAt_succ, set_zero, set_succ, set_nil, rd_f, rd_n, rd_v, rdS_ow, rdS_pw, rdS_fz, rds_nil, rds_cons, ownAt_eq, ownS_ow, ownS_pw, putOwn_eq, putS_ow, putS_pw, setS_eq, npw_fz, npw_ow, npw_no, npw_pw, store_n, store_f, store_nf, store_v, tgt_nm, tgt_tp, tgt_tq, setMany_nil, setMany_cons, setQ_nil, setQ_cons, setQ_tup, prep_nil, prep_nt, prep_nf, prep_f, prep_v, storeAll_nil, storeAll_f, storeAll_n, lend_nil, lend_f, lend_n, lend_vt, lend_vf, lend_v0, lendS_ow, lendS_pw, lendS_fz, isLst_lst, opAug_int, oEq_int, oEq_str, oEq_lnil, oEq_bl, oq_add_int, oq_add_str, oq_add_lst, oq_add_tup, oq_sub_int, oq_mul_int, oq_mul_lst, oq_fdv_int, oq_mod_int, oq_pow_int, oq_shl_int, oq_neg_int, oq_lt_int, oq_le_int, oq_gt_int, oq_ge_int, oq_eq, oq_ne, oq_isN, oq_isnN, oq_in, oq_nin, oIn_lst, oIn_tup, oIn_dct, oIn_str, keyOf_int, keyOf_str, oq_idx_lst, oq_idx_tup, oq_idx_dct, oq_idx_str, oq_rev_lst, oq_len_lst, oq_len_tup, oq_len_dct, oq_len_str, oq_int_int, oq_int_bl, oq_max2, oq_min2, oq_sum, oq_list_lst, oq_list_tup, oq_list_dct, oq_tuple_lst, oq_tuple_tup, oq_sorted_dct, oq_sorted_lst, oq_all, oq_any, oq_abs, oq_dvm, oq_dictP_lst, oq_dictP_dct, oq_isInt, oq_isBool, oq_isStr, oq_isList, oq_isTuple, oq_isDict, oq_isObj, oObj_obj, oTy_non, oTy_int, oTy_bl, oTy_str, oTy_lst, oTy_tup, oTy_dct, dInt_int, dInt_bl, dInt_str, dInt_lst, dInt_non, dBool_int, dBool_bl, dStr_str, dStr_int, dList_lst, dList_tup, dTuple_tup, dTuple_lst, dDict_dct, isNone_non, isNone_int, isNone_lst, isNone_tup, isNone_str, at_0, at_1, at_2, at_3, at_4, ixOf_0, ixOf_1, ixOf_2, setD_lst, setD_dct, mut_append, mut_extend, mut_pop, mut_popAt, mut_clear, spread_f, spread_lst, spread_tup, sliD_lst, sliD_tup, wipeE_nil, wipeE_cons, unwipe_nil, unwipe_cons, wMut_eq, at_m1, List.getElem?_cons_zero, List.getElem?_cons_succ, List.headD_cons, List.headD_nil, List.tail_cons, List.tail_nil, List.nil_append, List.cons_append, List.append_nil, List.length_cons, List.length_nil, List.not_mem_nil, List.mem_cons, not_false_eq_true, true_and, and_true, if_true, if_false, reduceIte, reduceCtorEq, Bool.not_true, Bool.not_false, Nat.reduceAdd, Nat.reduceLT, Nat.reduceLeDiff, Option.isSome_some, or_false, false_or, Nat.reduceEqDiff, Bool.false_xor, Bool.true_xor, and_self, decide_true, decide_false])
local macro_rules | `(tactic| walk_at "pv0") => `(tactic| simp (config := { decide := false, implicitDefEqProofs := false, maxSteps := 1000000 }) only [List.map_cons, List.map_nil, inS_ow, inS_fz, List.length_cons, List.length_nil, List.replicate_succ, List.replicate_zero, Nat.reduceAdd, Nat.reduceSub, List.cons_append, List.nil_append, Nat.zero_add])
local macro_rules | `(tactic| wp_walk using $ts,*) => `(tactic| simp (config := { decide := false, implicitDefEqProofs := false, maxSteps := 1000000 }) only [wSs_cons, wS_asg, wS_asgT, wS_asgQ, wS_par, wS_aug, wS_sset, wS_fset, wS_exp, wS_ret, wS_retN, wS_ifs, wS_pass, wS_brk, wS_cnt, wS_wall, wS_fors, wS_whl, wFor_nil, kOf_nx, kOf_rt, List.take_succ_cons, List.take_zero, List.map_cons, List.map_nil, outS_fz, outS_ow, outS_pw, outS_no, intsOf_map, strsOf_map, boolsOf_rep, all_rep, List.length_replicate, List.length_map, wEqo_obj, setF, getF, keyD_inl, keyD_inr, keyOf_int, List.set_cons_zero, List.set_cons_succ, List.set_nil, wC, wNew, wNw_ok, back_nil, back_f, back_n, back_vf, back_vo, backS_ow, backT_ow, backT_pw, notV_f, notV_n, wp_fok, wMut_eq, wE_cst, wE_var, wE_glb, wEs_nil, wEs_cons, wE_op, wE_and, wE_or, wE_not, wE_ite, wE_chn, wE_lst, wE_tup, wE_lstS, wA_nil, wA_cons, wE_dctN, wE_dct, wE_fld, wE_call, wE_prp, wE_mth, wE_new, wE_eqo, wE_eql, wE_sli, wE_mut, wE_lc, wE_dc, wI_seq, wI_rng, wI_rng2, wI_itm, wI_val, wI_zip, wI_enm, wBd_non, wBd_int, wBd_var, wBd_op, wPart_int, wInt_int, wIt_lst, wIt_tup, wIt_dct, wIt_str, wDct_dct, wLst_lst, wFld_obj, wM_obj, wEqo_obj, wEql_n, wO_some, wO_none, wO_bind, wO_map, wO_ite, wSs_nil, wB_bl, wK_t, wK_f, wV_fz, wV_ow, wV_pw, wV_no, wD_f, wD_n, wD_v, wDv_ow, wDv_fz, wDs_nil, wDs_cons, wRet_f, wRet_n, wRet_v, wRv_ow, wRv_fz, wAug_f, wFz_fz, wFset_obj, slotAt_nil, slotAt_zero, slotAt_succ, set_zero, set_succ, set_nil, rd_f, rd_n, rd_v, rdS_ow, rdS_pw, rdS_fz, rds_nil, rds_cons, ownAt_eq, ownS_ow, ownS_pw, putOwn_eq, putS_ow, putS_pw, setS_eq, npw_fz, npw_ow, npw_no, npw_pw, store_n, store_f, store_nf, store_v, tgt_nm, tgt_tp, tgt_tq, setMany_nil, setMany_cons, setQ_nil, setQ_cons, setQ_tup, prep_nil, prep_nt, prep_nf, prep_f, prep_v, storeAll_nil, storeAll_f, storeAll_n, lend_nil, lend_f, lend_n, lend_vt, lend_vf, lend_v0, lendS_ow, lendS_pw, lendS_fz, isLst_lst, opAug_int, oEq_int, oEq_str, oEq_lnil, oEq_bl, oq_add_int, oq_add_str, oq_add_lst, oq_add_tup, oq_sub_int, oq_mul_int, oq_mul_lst, oq_fdv_int, oq_mod_int, oq_pow_int, oq_shl_int, oq_neg_int, oq_lt_int, oq_le_int, oq_gt_int, oq_ge_int, oq_eq, oq_ne, oq_isN, oq_isnN, oq_in, oq_nin, oIn_lst, oIn_tup, oIn_dct, oIn_str, keyOf_int, keyOf_str, oq_idx_lst, oq_idx_tup, oq_idx_dct, oq_idx_str, oq_rev_lst, oq_len_lst, oq_len_tup, oq_len_dct, oq_len_str, oq_int_int, oq_int_bl, oq_max2, oq_min2, oq_sum, oq_list_lst, oq_list_tup, oq_list_dct, oq_tuple_lst, oq_tuple_tup, oq_sorted_dct, oq_sorted_lst, oq_all, oq_any, oq_abs, oq_dvm, oq_dictP_lst, oq_dictP_dct, oq_isInt, oq_isBool, oq_isStr, oq_isList, oq_isTuple, oq_isDict, oq_isObj, oObj_obj, oTy_non, oTy_int, oTy_bl, oTy_str, oTy_lst, oTy_tup, oTy_dct, dInt_int, dInt_bl, dInt_str, dInt_lst, dInt_non, dBool_int, dBool_bl, dStr_str, dStr_int, dList_lst, dList_tup, dTuple_tup, dTuple_lst, dDict_dct, isNone_non, isNone_int, isNone_lst, isNone_tup, isNone_str, at_0, at_1, at_2, at_3, at_4, ixOf_0, ixOf_1, ixOf_2, setD_lst, setD_dct, mut_append, mut_extend, mut_pop, mut_popAt, mut_clear, spread_f, spread_lst, spread_tup, sliD_lst, sliD_tup, wipeE_nil, wipeE_cons, unwipe_nil, unwipe_cons, wMut_eq, at_m1, List.getElem?_cons_zero, List.getElem?_cons_succ, List.headD_cons, List.headD_nil, List.tail_cons, List.tail_nil, List.nil_append, List.cons_append, List.append_nil, List.length_cons, List.length_nil, List.not_mem_nil, List.mem_cons, not_false_eq_true, true_and, and_true, if_true, if_false, reduceIte, reduceCtorEq, Bool.not_true, Bool.not_false, Nat.reduceAdd, Nat.reduceLT, Nat.reduceLeDiff, Option.isSome_some, or_false, false_or, Nat.reduceEqDiff, Bool.false_xor, Bool.true_xor, and_self, decide_true, decide_false, $[$ts:term],*])
local macro_rules | `(tactic| walk_at "pv1") => `(tactic| simp (config := { decide := false, implicitDefEqProofs := false, maxSteps := 1000000 }) only [wS_asg, wS_asgT, wS_asgQ, wS_par, wS_aug, wS_sset, wS_fset, wS_exp, wS_ret, wS_retN, wS_ifs, wS_pass, wS_brk, wS_cnt, wS_wall, wS_fors, wS_whl, wFor_nil, kOf_nx, kOf_rt, List.take_succ_cons, List.take_zero, List.map_cons, List.map_nil, outS_fz, outS_ow, outS_pw, outS_no, intsOf_map, strsOf_map, boolsOf_rep, all_rep, List.length_replicate, List.length_map, wEqo_obj, setF, getF, keyD_inl, keyD_inr, keyOf_int, List.set_cons_zero, List.set_cons_succ, List.set_nil, wC, wNew, wNw_ok, back_nil, back_f, back_n, back_vf, back_vo, backS_ow, backT_ow, backT_pw, notV_f, notV_n, wp_fok, wMut_eq, wE_cst, wE_var, wE_glb, wEs_nil, wEs_cons, wE_op, wE_and, wE_or, wE_not, wE_ite, wE_chn, wE_lst, wE_tup, wE_lstS, wA_nil, wA_cons, wE_dctN, wE_dct, wE_fld, wE_call, wE_prp, wE_mth, wE_new, wE_eqo, wE_eql, wE_sli, wE_mut, wE_lc, wE_dc, wI_seq, wI_rng, wI_rng2, wI_itm, wI_val, wI_zip, wI_enm, wBd_non, wBd_int, wBd_var, wBd_op, wPart_int, wInt_int, wIt_lst, wIt_tup, wIt_dct, wIt_str, wDct_dct, wLst_lst, wFld_obj, wM_obj, wEqo_obj, wEql_n, wO_some, wO_none, wO_bind, wO_map, wO_ite, wSs_nil, wB_bl, wK_t, wK_f, wV_fz, wV_ow, wV_pw, wV_no, wD_f, wD_n, wD_v, wDv_ow, wDv_fz, wDs_nil, wDs_cons, wRet_f, wRet_n, wRet_v, wRv_ow, wRv_fz, wAug_f, wFz_fz, wFset_obj, slotAt_nil, slotAt_zero, slotAt_succ, set_zero, set_succ, set_nil, rd_f, rd_n, rd_v, rdS_ow, rdS_pw, rdS_fz, rds_nil, rds_cons, ownAt_eq, ownS_ow, ownS_pw, putOwn_eq, putS_ow, putS_pw, setS_eq, npw_fz, npw_ow, npw_no, npw_pw, store_n, store_f, store_nf, store_v, tgt_nm, tgt_tp, tgt_tq, setMany_nil, setMany_cons, setQ_nil, setQ_cons, setQ_tup, prep_nil, prep_nt, prep_nf, prep_f, prep_v, storeAll_nil, storeAll_f, storeAll_n, lend_nil, lend_f, lend_n, lend_vt, lend_vf, lend_v0, lendS_ow, lendS_pw, lendS_fz, isLst_lst, opAug_int, oEq_int, oEq_str, oEq_lnil, oEq_bl, oq_add_int, oq_add_str, oq_add_lst, oq_add_tup, oq_sub_int, oq_mul_int, oq_mul_lst, oq_fdv_int, oq_mod_int, oq_pow_int, oq_shl_int, oq_neg_int, oq_lt_int, oq_le_int, oq_gt_int, oq_ge_int, oq_eq, oq_ne, oq_isN, oq_isnN, oq_in, oq_nin, oIn_lst, oIn_tup, oIn_dct, oIn_str, keyOf_int, keyOf_str, oq_idx_lst, oq_idx_tup, oq_idx_dct, oq_idx_str, oq_rev_lst, oq_len_lst, oq_len_tup, oq_len_dct, oq_len_str, oq_int_int, oq_int_bl, oq_max2, oq_min2, oq_sum, oq_list_lst, oq_list_tup, oq_list_dct, oq_tuple_lst, oq_tuple_tup, oq_sorted_dct, oq_sorted_lst, oq_all, oq_any, oq_abs, oq_dvm, oq_dictP_lst, oq_dictP_dct, oq_isInt, oq_isBool, oq_isStr, oq_isList, oq_isTuple, oq_isDict, oq_isObj, oObj_obj, oTy_non, oTy_int, oTy_bl, oTy_str, oTy_lst, oTy_tup, oTy_dct, dInt_int, dInt_bl, dInt_str, dInt_lst, dInt_non, dBool_int, dBool_bl, dStr_str, dStr_int, dList_lst, dList_tup, dTuple_tup, dTuple_lst, dDict_dct, isNone_non, isNone_int, isNone_lst, isNone_tup, isNone_str, at_0, at_1, at_2, at_3, at_4, ixOf_0, ixOf_1, ixOf_2, setD_lst, setD_dct, mut_append, mut_extend, mut_pop, mut_popAt, mut_clear, spread_f, spread_lst, spread_tup, sliD_lst, sliD_tup, wipeE_nil, wipeE_cons, unwipe_nil, unwipe_cons, wMut_eq, at_m1, List.getElem?_cons_zero, List.getElem?_cons_succ, List.headD_cons, List.headD_nil, List.tail_cons, List.tail_nil, List.nil_append, List.cons_append, List.append_nil, List.length_cons, List.length_nil, List.not_mem_nil, List.mem_cons, not_false_eq_true, true_and, and_true, if_true, if_false, reduceIte, reduceCtorEq, Bool.not_true, Bool.not_false, Nat.reduceAdd, Nat.reduceLT, Nat.reduceLeDiff, Option.isSome_some, or_false, false_or, Nat.reduceEqDiff, Bool.false_xor, Bool.true_xor, and_self, decide_true, decide_false])
local macro_rules | `(tactic| wp_walk using 1, $ts,*) => `(tactic| simp (config := { decide := false, implicitDefEqProofs := false, maxSteps := 1000000 }) only [wS_asg, wS_asgT, wS_asgQ, wS_par, wS_aug, wS_sset, wS_fset, wS_exp, wS_ret, wS_retN, wS_ifs, wS_pass, wS_brk, wS_cnt, wS_wall, wS_fors, wS_whl, wFor_nil, kOf_nx, kOf_rt, List.take_succ_cons, List.take_zero, List.map_cons, List.map_nil, outS_fz, outS_ow, outS_pw, outS_no, intsOf_map, strsOf_map, boolsOf_rep, all_rep, List.length_replicate, List.length_map, wEqo_obj, setF, getF, keyD_inl, keyD_inr, keyOf_int, List.set_cons_zero, List.set_cons_succ, List.set_nil, wC, wNew, wNw_ok, back_nil, back_f, back_n, back_vf, back_vo, backS_ow, backT_ow, backT_pw, notV_f, notV_n, wp_fok, wMut_eq, wE_cst, wE_var, wE_glb, wEs_nil, wEs_cons, wE_op, wE_and, wE_or, wE_not, wE_ite, wE_chn, wE_lst, wE_tup, wE_lstS, wA_nil, wA_cons, wE_dctN, wE_dct, wE_fld, wE_call, wE_prp, wE_mth, wE_new, wE_eqo, wE_eql, wE_sli, wE_mut, wE_lc, wE_dc, wI_seq, wI_rng, wI_rng2, wI_itm, wI_val, wI_zip, wI_enm, wBd_non, wBd_int, wBd_var, wBd_op, wPart_int, wInt_int, wIt_lst, wIt_tup, wIt_dct, wIt_str, wDct_dct, wLst_lst, wFld_obj, wM_obj, wEqo_obj, wEql_n, wO_some, wO_none, wO_bind, wO_map, wO_ite, wSs_nil, wB_bl, wK_t, wK_f, wV_fz, wV_ow, wV_pw, wV_no, wD_f, wD_n, wD_v, wDv_ow, wDv_fz, wDs_nil, wDs_cons, wRet_f, wRet_n, wRet_v, wRv_ow, wRv_fz, wAug_f, wFz_fz, wFset_obj, slotAt_nil, slotAt_zero, slotAt_succ, set_zero, set_succ, set_nil, rd_f, rd_n, rd_v, rdS_ow, rdS_pw, rdS_fz, rds_nil, rds_cons, ownAt_eq, ownS_ow, ownS_pw, putOwn_eq, putS_ow, putS_pw, setS_eq, npw_fz, npw_ow, npw_no, npw_pw, store_n, store_f, store_nf, store_v, tgt_nm, tgt_tp, tgt_tq, setMany_nil, setMany_cons, setQ_nil, setQ_cons, setQ_tup, prep_nil, prep_nt, prep_nf, prep_f, prep_v, storeAll_nil, storeAll_f, storeAll_n, lend_nil, lend_f, lend_n, lend_vt, lend_vf, lend_v0, lendS_ow, lendS_pw, lendS_fz, isLst_lst, opAug_int, oEq_int, oEq_str, oEq_lnil, oEq_bl, oq_add_int, oq_add_str, oq_add_lst, oq_add_tup, oq_sub_int, oq_mul_int, oq_mul_lst, oq_fdv_int, oq_mod_int, oq_pow_int, oq_shl_int, oq_neg_int, oq_lt_int, oq_le_int, oq_gt_int, oq_ge_int, oq_eq, oq_ne, oq_isN, oq_isnN, oq_in, oq_nin, oIn_lst, oIn_tup, oIn_dct, oIn_str, keyOf_int, keyOf_str, oq_idx_lst, oq_idx_tup, oq_idx_dct, oq_idx_str, oq_rev_lst, oq_len_lst, oq_len_tup, oq_len_dct, oq_len_str, oq_int_int, oq_int_bl, oq_max2, oq_min2, oq_sum, oq_list_lst, oq_list_tup, oq_list_dct, oq_tuple_lst, oq_tuple_tup, oq_sorted_dct, oq_sorted_lst, oq_all, oq_any, oq_abs, oq_dvm, oq_dictP_lst, oq_dictP_dct, oq_isInt, oq_isBool, oq_isStr, oq_isList, oq_isTuple, oq_isDict, oq_isObj, oObj_obj, oTy_non, oTy_int, oTy_bl, oTy_str, oTy_lst, oTy_tup, oTy_dct, dInt_int, dInt_bl, dInt_str, dInt_lst, dInt_non, dBool_int, dBool_bl, dStr_str, dStr_int, dList_lst, dList_tup, dTuple_tup, dTuple_lst, dDict_dct, isNone_non, isNone_int, isNone_lst, isNone_tup, isNone_str, at_0, at_1, at_2, at_3, at_4, ixOf_0, ixOf_1, ixOf_2, setD_lst, setD_dct, mut_append, mut_extend, mut_pop, mut_popAt, mut_clear, spread_f, spread_lst, spread_tup, sliD_lst, sliD_tup, wipeE_nil, wipeE_cons, unwipe_nil, unwipe_cons, wMut_eq, at_m1, List.getElem?_cons_zero, List.getElem?_cons_succ, List.headD_cons, List.headD_nil, List.tail_cons, List.tail_nil, List.nil_append, List.cons_append, List.append_nil, List.length_cons, List.length_nil, List.not_mem_nil, List.mem_cons, not_false_eq_true, true_and, and_true, if_true, if_false, reduceIte, reduceCtorEq, Bool.not_true, Bool.not_false, Nat.reduceAdd, Nat.reduceLT, Nat.reduceLeDiff, Option.isSome_some, or_false, false_or, Nat.reduceEqDiff, Bool.false_xor, Bool.true_xor, and_self, decide_true, decide_false, $[$ts:term],*])

/-- a reel: three ints, at most B turns taken -/
def Reel (B : Nat) (d : D) : Prop := ∃ a b c : Int, d = .lst [.int a, .int b, .int c] ∧ 0 ≤ a ∧ 0 ≤ b ∧ b < 10 ^ 40 ∧ 0 ≤ c ∧ c ≤ B
theorem Reel.mono {B C : Nat} {d : D} (h : Reel B d) (l : B ≤ C) : Reel C d := by
  obtain ⟨a, b, c, e, h1, h2, h3, h4, h5⟩ := h
  exact ⟨a, b, c, e, h1, h2, h3, h4, by omega⟩
/-- the budget of turns -/
abbrev LIMB : Nat := 1000000000000
theorem log2_lt {i : Int} {p : Nat} (hp : 0 < p) (h : i.natAbs < 2 ^ p) : i.natAbs.log2 < p := by
  by_cases z : i.natAbs = 0
  · rw [z]; simpa using hp
  · exact (Nat.log2_lt z).2 h
theorem mulOk_of {i j : Int} (p q : Nat) (hi : i.natAbs < 2 ^ p) (hj : j.natAbs < 2 ^ q) (hp : 0 < p) (hq : 0 < q) (h : p + q ≤ 1000000) : mulOk i j = true := by
  have h1 := log2_lt hp hi
  have h2 := log2_lt hq hj
  unfold mulOk
  exact decide_eq_true (by omega)
theorem pow3_of {i : Int} (p : Nat) (hi : i.natAbs < 2 ^ p) (hp : 0 < p) (h : p * 3 ≤ 1000000) : (0 : Int) ≤ 3 ∧ ((i.natAbs.log2 + 1 : Nat) : Int) * 3 ≤ 1000000 := by
  have := log2_lt hp hi
  omega
theorem fdvOk {m : Int} (h : m ≤ 10 ^ 60) (h0 : 0 < m) : m.natAbs.log2 < 9000 := by
  have : m.natAbs.log2 < 200 := log2_lt (by decide) (by omega)
  omega
theorem erase_perm {α : Type} : ∀ {l : List α} {k : Nat} (h : k < l.length), ([l[k]] ++ l.eraseIdx k).Perm l
  | x :: r, 0, _ => List.Perm.refl _
  | x :: r, k + 1, h => (List.Perm.swap x (r[k]'(by simpa using h)) (r.eraseIdx k)).trans (List.Perm.cons x (erase_perm (l := r) (by simpa using h)))
/-- the defs of the reels -/
structure Has' (P : Pg) : Prop where
  law_wound : P.fd 16 = some (.body 2 3 c_law_wound)
  law_spin : P.fd 17 = some (.body 2 4 c_law_spin)
  law_mixed : P.fd 18 = some (.body 2 4 c_law_mixed)
  law_some_room : P.fd 19 = some (.body 2 4 c_law_some_room)
section
variable {P : Pg} (h : Has' P) {n : Nat}
include h
theorem spin {B : Nat} {d : D} {m : Int} (hr : Reel B d) (hB : B < LIMB) (h1 : 0 < m) (h2 : m ≤ 10 ^ 60) :
    (runF P (n + 1) 17 [.ow d, .fz (.int m)]).wp fun v os => ∃ r d', v = .f (.int r) ∧ os = [.ow d', .fz (.int m)] ∧ 0 ≤ r ∧ r < m ∧ Reel (B + 1) d' := by
  obtain ⟨a, b, c, rfl, h3, h4, h5, h6, h7⟩ := hr
  refine wp_runF h.law_spin rfl ?_
  walk_at "pv0"
  walk_at "pvs"
  refine ⟨fun e => ?_, fun e => ?_⟩
  · refine ⟨h1, ⟨h1, fdvOk h2 h1⟩, _, _, rfl, rfl, Int.emod_nonneg _ (by omega), Int.emod_lt_of_pos _ h1, ?_⟩
    exact ⟨_, _, _, rfl, Int.ediv_nonneg h3 (by omega), h4, h5, h6, by omega⟩
  · have hB : B < 1000000000000 := hB
    refine ⟨mulOk_of 100 100 (by omega) (by omega) (by decide) (by decide) (by decide), pow3_of 200 (by omega) (by decide) (by decide), ⟨by decide, by decide⟩, by decide, mulOk_of 100 100 (by omega) (by omega) (by decide) (by decide) (by decide), pow3_of 200 ?_ (by decide) (by decide), ⟨by decide, by decide⟩, by decide, ⟨by decide, by decide⟩, h1, _, _, rfl, rfl, Int.emod_nonneg _ (by omega), Int.emod_lt_of_pos _ h1, _, _, _, rfl, h3, h4, h5, by omega, by omega⟩
    have e1 := Int.emod_nonneg ((b + 86028121 * (c + 1)) ^ Int.toNat 3) (b := 10 ^ Int.toNat 42 + 63) (by decide)
    have e2 := Int.emod_lt_of_pos ((b + 86028121 * (c + 1)) ^ Int.toNat 3) (b := 10 ^ Int.toNat 42 + 63) (by decide)
    generalize (b + 86028121 * (c + 1)) ^ Int.toNat 3 % (10 ^ Int.toNat 42 + 63) = z at *
    have e3 : (10 : Int) ^ Int.toNat 42 + 63 = 1000000000000000000000000000000000000000063 := by decide
    rw [e3] at e2
    omega
theorem mixed {B : Nat} {d : D} {xs : List D} (hr : Reel B d) (hl : xs.length ≤ 1000) (hB : B + 1000 < LIMB) :
    (runF P (n + 2) 18 [.ow d, .fz (.lst xs)]).wp fun v os => ∃ ys d', v = .n (.lst ys) ∧ os = [.ow d', .fz (.lst xs)] ∧ ys.Perm xs ∧ Reel (B + xs.length) d' := by
  refine wp_runF h.law_mixed rfl ?_
  walk_at "pv0"
  walk_at "pvs"
  refine ⟨by simp [LIM], ?_⟩
  refine wWhl_inv (fun m ρ => ∃ left found d', ρ = [.pw d', .fz (.lst xs), .ow (.lst left), .ow (.lst found)] ∧ (found ++ left).Perm xs ∧ Reel (B + found.length) d' ∧ m = left.length) (m := xs.length) ⟨xs, [], d, rfl, by simp, hr, rfl⟩ ?_ (by simp only [TURNS]; omega)
  rintro m ρ ⟨left, found, d', rfl, p, hr', rfl⟩
  have hlen := p.length_eq
  rw [List.length_append] at hlen
  walk_at "pvs"
  refine ⟨by simp [LIM], fun e => ?_, fun e => ?_⟩
  · have e : left ≠ [] := by cases left <;> simp_all
    have pos : 0 < left.length := List.length_pos_iff.2 e
    refine FOut.imp (spin h hr' (by omega) (by omega) (by omega)) ?_
    rintro v os ⟨r, d2, rfl, rfl, r0, r1, hr2⟩
    obtain ⟨k, rfl⟩ : ∃ k : Nat, r = k := ⟨r.toNat, by omega⟩
    have hk : k < left.length := by omega
    wp_walk using ixOf_nat, hk, List.getElem?_eq_getElem hk
    refine ⟨by unfold small; exact decide_eq_true (by omega), by simp only [LIM]; omega, _, ?_, _, _, _, rfl, ?_, hr2.mono (by simp; omega), rfl⟩
    · rw [List.length_eraseIdx, if_pos hk]; omega
    · refine List.Perm.trans ?_ p
      rw [List.append_assoc]
      exact List.Perm.append_left _ (erase_perm hk)
  · have e : left = [] := by cases left <;> simp_all
    subst e
    refine ⟨_, _, rfl, rfl, by simpa using p, hr'.mono (by simp at hlen; omega)⟩
/-- a place within so many stations -/
theorem some_room {B : Nat} {d : D} {m : Nat} (hr : Reel B d) (h1 : 1 ≤ m) (hm : m ≤ 5) (hB : B + 100 < LIMB) :
    (runF P (n + 2) 19 [.ow d, .fz (.int m)]).wp fun v os => ∃ ps d', v = .n (LN.lI ps) ∧ os = [.ow d', .fz (.int m)] ∧ ps.length + 1 = m ∧ (∀ x ∈ ps, 0 ≤ x ∧ x ≤ 3) ∧ (m : Int) + ps.sum ≤ 10 ∧ Reel (B + m) d' := by
  refine wp_runF h.law_some_room rfl ?_
  walk_at "pv0"
  walk_at "pvs"
  refine ⟨by simp [LIM], by unfold small; exact decide_eq_true (by omega), ?_⟩
  refine wFor_inv (fun rest ρ => ∃ ps d' s, ρ = [.pw d', .fz (.int m), .ow (LN.lI ps), s] ∧ npw s ∧ ps.length + rest.length + 1 = m ∧ (∀ x ∈ ps, 0 ≤ x ∧ x ≤ 3) ∧ (m : Int) + ps.sum ≤ 10 ∧ Reel (B + ps.length) d') ⟨[], d, .no, rfl, trivial, by simp [mapRange]; omega, by simp, by simp; omega, hr⟩ ?_ ?_
  · rintro x rest ρ ⟨ps, d', s, rfl, ns, e1, e2, e3, hr'⟩
    simp only [List.length_cons] at e1
    wp_walk using ns
    refine ⟨by simp [LIM], ?_⟩
    refine FOut.imp (spin h hr' (by omega) (by omega) (by omega)) ?_
    rintro v os ⟨r, d2, rfl, rfl, r0, r1, hr2⟩
    have fin : ∀ z : Int, 0 ≤ z → z ≤ 3 → ps.length < LIM ∧ ∃ ps_1 d' s, [Slot.pw d2, Slot.fz (D.int ↑m), Slot.ow (D.lst (List.map D.int ps ++ [D.int (if 10 - ↑m - ps.sum < z then 10 - ↑m - ps.sum else z)])), Slot.fz x] = [Slot.pw d', Slot.fz (D.int ↑m), Slot.ow (LN.lI ps_1), s] ∧ npw s ∧ ps_1.length + rest.length + 1 = m ∧ (∀ x ∈ ps_1, 0 ≤ x ∧ x ≤ 3) ∧ (m : Int) + ps_1.sum ≤ 10 ∧ Reel (B + ps_1.length) d' := fun z z0 z1 => by
      refine ⟨by simp only [LIM]; omega, ps ++ [if 10 - ↑m - ps.sum < z then 10 - ↑m - ps.sum else z], d2, .fz x, by simp [LN.lI], trivial, by simp; omega, ?_, ?_, hr2.mono (by simp; omega)⟩
      · intro y hy
        rcases List.mem_append.1 hy with hy | hy
        · exact e2 y hy
        · simp only [List.mem_singleton] at hy
          subst hy
          split <;> omega
      · rw [List.sum_append]
        simp only [List.sum_cons, List.sum_nil]
        split <;> omega
    rcases (by omega : r = 0 ∨ r = 1 ∨ r = 2 ∨ r = 3 ∨ r = 4) with rfl | rfl | rfl | rfl | rfl
    · walk_at "pvs"
      exact fin 0 (by decide) (by decide)
    · walk_at "pvs"
      exact fin 1 (by decide) (by decide)
    · walk_at "pvs"
      exact fin 0 (by decide) (by decide)
    · walk_at "pvs"
      exact fin 2 (by decide) (by decide)
    · walk_at "pvs"
      exact fin 3 (by decide) (by decide)
  · rintro ρ ⟨ps, d', s, rfl, ns, e1, e2, e3, hr'⟩
    walk_at "pvs"
    exact ⟨ps, d', rfl, rfl, by simpa using e1, e2, e3, hr'.mono (by omega)⟩
theorem wound {ns : List Int} {k : Nat} (hk : k < 100) :
    (runF P (n + 1) 16 [.fz (.lst (ns.map .int)), .fz (.int k)]).wp fun v os => ∃ d', v = .n d' ∧ os = [.fz (.lst (ns.map .int)), .fz (.int k)] ∧ Reel 0 d' := by
  have fin : ∀ c : Int, ∃ d', Val.n (D.lst [D.int (if c - 10 ^ Int.toNat 18 > 0 then c - 10 ^ Int.toNat 18 else 0), D.int (c % (10 ^ Int.toNat 38 + 133) * 67 + 141650939 * ↑k + 23), D.int 0]) = Val.n d' ∧ Reel 0 d' := fun c => by
    refine ⟨_, rfl, _, _, _, rfl, by split <;> omega, ?_, ?_, by decide, by decide⟩
    · have := Int.emod_nonneg c (b := 10 ^ Int.toNat 38 + 133) (by decide)
      omega
    · have e1 := Int.emod_nonneg c (b := 10 ^ Int.toNat 38 + 133) (by decide)
      have e2 := Int.emod_lt_of_pos c (b := 10 ^ Int.toNat 38 + 133) (by decide)
      generalize c % (10 ^ Int.toNat 38 + 133) = z at *
      have e3 : (10 : Int) ^ Int.toNat 38 + 133 = 100000000000000000000000000000000000133 := by decide
      rw [e3] at e2
      omega
  have side : ∀ c : Int, mulOk (c % (10 ^ Int.toNat 38 + 133)) 67 = true := fun c => by
    have e1 := Int.emod_nonneg c (b := 10 ^ Int.toNat 38 + 133) (by decide)
    have e2 := Int.emod_lt_of_pos c (b := 10 ^ Int.toNat 38 + 133) (by decide)
    generalize c % (10 ^ Int.toNat 38 + 133) = z at *
    have e3 : (10 : Int) ^ Int.toNat 38 + 133 = 100000000000000000000000000000000000133 := by decide
    rw [e3] at e2
    exact mulOk_of 200 10 (by omega) (by decide) (by decide) (by decide) (by decide)
  refine wp_runF h.law_wound rfl ?_
  walk_at "pv0"
  walk_at "pvs"
  refine ⟨fun e => ?_, fun e => ?_⟩
  · have hl : k < ns.length := by simpa using e
    wp_walk using at_nat, List.getElem?_map, List.getElem?_eq_getElem hl, Option.map_some
    exact ⟨⟨by decide, by decide⟩, ⟨by decide, by decide⟩, by decide, side _, mulOk_of 100 100 (by decide) (by omega) (by decide) (by decide) (by decide), by simp [LIM], fin _⟩
  · exact ⟨⟨by decide, by decide⟩, ⟨by decide, by decide⟩, by decide, side _, mulOk_of 100 100 (by decide) (by omega) (by decide) (by decide) (by decide), by simp [LIM], fin _⟩
end
end RL

set_option Elab.async false
set_option linter.all false
set_option maxRecDepth 100000
set_option maxHeartbeats 4000000
/-! Cm: what many laws share: some kinds drawn, small lemmas. -/
namespace CM
open PySem
open PV LN RL
open L2 (Key)
local macro_rules | `(tactic| walk_at "pv") => `(tactic| simp (config := { decide := false, implicitDefEqProofs := false, maxSteps := 1000000 }) only [intsOf_map, strsOf_map, boolsOf_rep, all_rep, List.length_replicate, List.length_map, wEqo_obj, setF, getF, keyD_inl, keyD_inr, keyOf_int, List.set_cons_zero, List.set_cons_succ, List.set_nil, wC, wNew, wNw_ok, back_nil, back_f, back_n, back_vf, back_vo, backS_ow, backT_ow, backT_pw, notV_f, notV_n, wp_fok, wMut_eq, wE_cst, wE_var, wE_glb, wEs_nil, wEs_cons, wE_op, wE_and, wE_or, wE_not, wE_ite, wE_chn, wE_lst, wE_tup, wE_lstS, wA_nil, wA_cons, wE_dctN, wE_dct, wE_fld, wE_call, wE_prp, wE_mth, wE_new, wE_eqo, wE_eql, wE_sli, wE_mut, wE_lc, wE_dc, wI_seq, wI_rng, wI_rng2, wI_itm, wI_val, wI_zip, wI_enm, wBd_non, wBd_int, wBd_var, wBd_op, wPart_int, wInt_int, wIt_lst, wIt_tup, wIt_dct, wIt_str, wDct_dct, wLst_lst, wFld_obj, wM_obj, wEqo_obj, wEql_n, wO_some, wO_none, wO_bind, wO_map, wO_ite, wSs_nil, wB_bl, wK_t, wK_f, wV_fz, wV_ow, wV_pw, wV_no, wD_f, wD_n, wD_v, wDv_ow, wDv_fz, wDs_nil, wDs_cons, wRet_f, wRet_n, wRet_v, wRv_ow, wRv_fz, wAug_f, wFz_fz, wFset_obj, slotAt_nil, slotAt_zero, slotAt_succ, set_zero, set_succ, set_nil, rd_f, rd_n, rd_v, rdS_ow, rdS_pw, rdS_fz, rds_nil, rds_cons, ownAt_eq, ownS_ow, ownS_pw, putOwn_eq, putS_ow, putS_pw, setS_eq, npw_fz, npw_ow, npw_no, npw_pw, store_n, store_f, store_nf, store_v, tgt_nm, tgt_tp, tgt_tq, setMany_nil, setMany_cons, setQ_nil, setQ_cons, setQ_tup, prep_nil, prep_nt, prep_nf, prep_f, prep_v, storeAll_nil, storeAll_f, storeAll_n, lend_nil, lend_f, lend_n, lend_vt, lend_vf, lend_v0, lendS_ow, lendS_pw, lendS_fz, isLst_lst, opAug_int, oEq_int, oEq_str, oEq_lnil, oEq_bl, oq_add_int, oq_add_str, oq_add_lst, oq_add_tup, oq_sub_int, oq_mul_int, oq_mul_lst, oq_fdv_int, oq_mod_int, oq_pow_int, oq_shl_int, oq_neg_int, oq_lt_int, oq_le_int, oq_gt_int, oq_ge_int, oq_eq, oq_ne, oq_isN, oq_isnN, oq_in, oq_nin, oIn_lst, oIn_tup, oIn_dct, oIn_str, keyOf_int, keyOf_str, oq_idx_lst, oq_idx_tup, oq_idx_dct, oq_idx_str, oq_rev_lst, oq_len_lst, oq_len_tup, oq_len_dct, oq_len_str, oq_int_int, oq_int_bl, oq_max2, oq_min2, oq_sum, oq_list_lst, oq_list_tup, oq_list_dct, oq_tuple_lst, oq_tuple_tup, oq_sorted_dct, oq_sorted_lst, oq_all, oq_any, oq_abs, oq_dvm, oq_dictP_lst, oq_dictP_dct, oq_isInt, oq_isBool, oq_isStr, oq_isList, oq_isTuple, oq_isDict, oq_isObj, oObj_obj, oTy_non, oTy_int, oTy_bl, oTy_str, oTy_lst, oTy_tup, oTy_dct, dInt_int, dInt_bl, dInt_str, dInt_lst, dInt_non, dBool_int, dBool_bl, dStr_str, dStr_int, dList_lst, dList_tup, dTuple_tup, dTuple_lst, dDict_dct, isNone_non, isNone_int, isNone_lst, isNone_tup, isNone_str, at_0, at_1, at_2, at_3, at_4, ixOf_0, ixOf_1, ixOf_2, setD_lst, setD_dct, mut_append, mut_extend, mut_pop, mut_popAt, mut_clear, spread_f, spread_lst, spread_tup, sliD_lst, sliD_tup, wipeE_nil, wipeE_cons, unwipe_nil, unwipe_cons, wMut_eq, at_m1, List.getElem?_cons_zero, List.getElem?_cons_succ, List.headD_cons, List.headD_nil, List.tail_cons, List.tail_nil, List.nil_append, List.cons_append, List.append_nil, List.length_cons, List.length_nil, List.not_mem_nil, List.mem_cons, not_false_eq_true, true_and, and_true, if_true, if_false, reduceIte, reduceCtorEq, Bool.not_true, Bool.not_false, Nat.reduceAdd, Nat.reduceLT, Nat.reduceLeDiff, Option.isSome_some, or_false, false_or, Nat.reduceEqDiff, Bool.false_xor, Bool.true_xor, and_self, decide_true, decide_false])
local macro_rules | `(tactic| walk_at "pvs") => `(tactic| simp (config := { decide := false, implicitDefEqProofs := false, maxSteps := 1000000 }) only [wSs_cons, wS_asg, wS_asgT, wS_asgQ, wS_par, wS_aug, wS_sset, wS_fset, wS_exp, wS_ret, wS_retN, wS_ifs, wS_pass, wS_brk, wS_cnt, wS_wall, wS_fors, wS_whl, wFor_nil, kOf_nx, kOf_rt, List.take_succ_cons, List.take_zero, List.map_cons, List.map_nil, outS_fz, outS_ow, outS_pw, outS_no, intsOf_map, strsOf_map, boolsOf_rep, all_rep, List.length_replicate, List.length_map, wEqo_obj, setF, getF, keyD_inl, keyD_inr, keyOf_int, List.set_cons_zero, List.set_cons_succ, List.set_nil, wC, wNew, wNw_ok, back_nil, back_f, back_n, back_vf, back_vo, backS_ow, backT_ow, backT_pw, notV_f, notV_n, wp_fok, wMut_eq, wE_cst, wE_var, wE_glb, wEs_nil, wEs_cons, wE_op, wE_and, wE_or, wE_not, wE_ite, wE_chn, wE_lst, wE_tup, wE_lstS, wA_nil, wA_cons, wE_dctN, wE_dct, wE_fld, wE_call, wE_prp, wE_mth, wE_new, wE_eqo, wE_eql, wE_sli, wE_mut, wE_lc, wE_dc, wI_seq, wI_rng, wI_rng2, wI_itm, wI_val, wI_zip, wI_enm, wBd_non, wBd_int, wBd_var, wBd_op, wPart_int, wInt_int, wIt_lst, wIt_tup, wIt_dct, wIt_str, wDct_dct, wLst_lst, wFld_obj, wM_obj, wEqo_obj, wEql_n, wO_some, wO_none, wO_bind, wO_map, wO_ite, wSs_nil, wB_bl, wK_t, wK_f, wV_fz, wV_ow, wV_pw, wV_no, wD_f, wD_n, wD_v, wDv_ow, wDv_fz, wDs_nil, wDs_cons, wRet_f, wRet_n, wRet_v, wRv_ow, wRv_fz, wAug_f, wFz_fz, wFset_obj, slotAt_nil, slotAt_zero, slotAt_succ, set_zero, set_succ, set_nil, rd_f, rd_n, rd_v, rdS_ow, rdS_pw, rdS_fz, rds_nil, rds_cons, ownAt_eq, ownS_ow, ownS_pw, putOwn_eq, putS_ow, putS_pw, setS_eq, npw_fz, npw_ow, npw_no, npw_pw, store_n, store_f, store_nf, store_v, tgt_nm, tgt_tp, tgt_tq, setMany_nil, setMany_cons, setQ_nil, setQ_cons, setQ_tup, prep_nil, prep_nt, prep_nf, prep_f, prep_v, storeAll_nil, storeAll_f, storeAll_n, lend_nil, lend_f, lend_n, lend_vt, lend_vf, lend_v0, lendS_ow, lendS_pw, lendS_fz, isLst_lst, opAug_int, oEq_int, oEq_str, oEq_lnil, oEq_bl, oq_add_int, oq_add_str, oq_add_lst, oq_add_tup, oq_sub_int, oq_mul_int, oq_mul_lst, oq_fdv_int, oq_mod_int, oq_pow_int, oq_shl_int, oq_neg_int, oq_lt_int, oq_le_int, oq_gt_int, oq_ge_int, oq_eq, oq_ne, oq_isN, oq_isnN, oq_in, oq_nin, oIn_lst, oIn_tup, oIn_dct, oIn_str, keyOf_int, keyOf_str, oq_idx_lst, oq_idx_tup, oq_idx_dct, oq_idx_str, oq_rev_lst, oq_len_lst, oq_len_tup, oq_len_dct, oq_len_str, oq_int_int, oq_int_bl, oq_max2, oq_min2, oq_sum, oq_list_lst, oq_list_tup, oq_list_dct, oq_tuple_lst, oq_tuple_tup, oq_sorted_dct, oq_sorted_lst, oq_all, oq_any, oq_abs, oq_dvm, oq_dictP_lst, oq_dictP_dct, oq_isInt, oq_isBool, oq_isStr, oq_isList, oq_isTuple, oq_isDict, oq_isObj, oObj_obj, oTy_non, oTy_int, oTy_bl, oTy_str, oTy_lst, oTy_tup, oTy_dct, dInt_int, dInt_bl, dInt_str, dInt_lst, dInt_non, dBool_int, dBool_bl, dStr_str, dStr_int, dList_lst, dList_tup, dTuple_tup, dTuple_lst, dDict_dct, isNone_non, isNone_int, isNone_lst, isNone_tup, isNone_str, at_0, at_1, at_2, at_3, at_4, ixOf_0, ixOf_1, ixOf_2, setD_lst, setD_dct, mut_append, mut_extend, mut_pop, mut_popAt, mut_clear, spread_f, spread_lst, spread_tup, sliD_lst, sliD_tup, wipeE_nil, wipeE_cons, unwipe_nil, unwipe_cons, wMut_eq, at_m1, List.getElem?_cons_zero, List.getElem?_cons_succ, List.headD_cons, List.headD_nil, List.tail_cons, List.tail_nil, List.nil_append, List.cons_append, List.append_nil, List.length_cons, List.length_nil, List.not_mem_nil, List.mem_cons, not_false_eq_true, true_and, and_true, if_true, if_false, reduceIte, reduceCtorEq, Bool.not_true, Bool.not_false, Nat.reduceAdd, Nat.reduceLT, Nat.reduceLeDiff, Option.isSome_some, or_false, false_or, Nat.reduceEqDiff, Bool.false_xor, Bool.true_xor, and_self, decide_true, decide_false])
local macro_rules | `(tactic| walk_at "pv0") => `(tactic| simp (config := { decide := false, implicitDefEqProofs := false, maxSteps := 1000000 }) only [List.map_cons, List.map_nil, inS_ow, inS_fz, List.length_cons, List.length_nil, List.replicate_succ, List.replicate_zero, Nat.reduceAdd, Nat.reduceSub, List.cons_append, List.nil_append, Nat.zero_add])
local macro_rules | `(tactic| wp_walk using $ts,*) => `(tactic| simp (config := { decide := false, implicitDefEqProofs := false, maxSteps := 1000000 }) only [wSs_cons, wS_asg, wS_asgT, wS_asgQ, wS_par, wS_aug, wS_sset, wS_fset, wS_exp, wS_ret, wS_retN, wS_ifs, wS_pass, wS_brk, wS_cnt, wS_wall, wS_fors, wS_whl, wFor_nil, kOf_nx, kOf_rt, List.take_succ_cons, List.take_zero, List.map_cons, List.map_nil, outS_fz, outS_ow, outS_pw, outS_no, intsOf_map, strsOf_map, boolsOf_rep, all_rep, List.length_replicate, List.length_map, wEqo_obj, setF, getF, keyD_inl, keyD_inr, keyOf_int, List.set_cons_zero, List.set_cons_succ, List.set_nil, wC, wNew, wNw_ok, back_nil, back_f, back_n, back_vf, back_vo, backS_ow, backT_ow, backT_pw, notV_f, notV_n, wp_fok, wMut_eq, wE_cst, wE_var, wE_glb, wEs_nil, wEs_cons, wE_op, wE_and, wE_or, wE_not, wE_ite, wE_chn, wE_lst, wE_tup, wE_lstS, wA_nil, wA_cons, wE_dctN, wE_dct, wE_fld, wE_call, wE_prp, wE_mth, wE_new, wE_eqo, wE_eql, wE_sli, wE_mut, wE_lc, wE_dc, wI_seq, wI_rng, wI_rng2, wI_itm, wI_val, wI_zip, wI_enm, wBd_non, wBd_int, wBd_var, wBd_op, wPart_int, wInt_int, wIt_lst, wIt_tup, wIt_dct, wIt_str, wDct_dct, wLst_lst, wFld_obj, wM_obj, wEqo_obj, wEql_n, wO_some, wO_none, wO_bind, wO_map, wO_ite, wSs_nil, wB_bl, wK_t, wK_f, wV_fz, wV_ow, wV_pw, wV_no, wD_f, wD_n, wD_v, wDv_ow, wDv_fz, wDs_nil, wDs_cons, wRet_f, wRet_n, wRet_v, wRv_ow, wRv_fz, wAug_f, wFz_fz, wFset_obj, slotAt_nil, slotAt_zero, slotAt_succ, set_zero, set_succ, set_nil, rd_f, rd_n, rd_v, rdS_ow, rdS_pw, rdS_fz, rds_nil, rds_cons, ownAt_eq, ownS_ow, ownS_pw, putOwn_eq, putS_ow, putS_pw, setS_eq, npw_fz, npw_ow, npw_no, npw_pw, store_n, store_f, store_nf, store_v, tgt_nm, tgt_tp, tgt_tq, setMany_nil, setMany_cons, setQ_nil, setQ_cons, setQ_tup, prep_nil, prep_nt, prep_nf, prep_f, prep_v, storeAll_nil, storeAll_f, storeAll_n, lend_nil, lend_f, lend_n, lend_vt, lend_vf, lend_v0, lendS_ow, lendS_pw, lendS_fz, isLst_lst, opAug_int, oEq_int, oEq_str, oEq_lnil, oEq_bl, oq_add_int, oq_add_str, oq_add_lst, oq_add_tup, oq_sub_int, oq_mul_int, oq_mul_lst, oq_fdv_int, oq_mod_int, oq_pow_int, oq_shl_int, oq_neg_int, oq_lt_int, oq_le_int, oq_gt_int, oq_ge_int, oq_eq, oq_ne, oq_isN, oq_isnN, oq_in, oq_nin, oIn_lst, oIn_tup, oIn_dct, oIn_str, keyOf_int, keyOf_str, oq_idx_lst, oq_idx_tup, oq_idx_dct, oq_idx_str, oq_rev_lst, oq_len_lst, oq_len_tup, oq_len_dct, oq_len_str, oq_int_int, oq_int_bl, oq_max2, oq_min2, oq_sum, oq_list_lst, oq_list_tup, oq_list_dct, oq_tuple_lst, oq_tuple_tup, oq_sorted_dct, oq_sorted_lst, oq_all, oq_any, oq_abs, oq_dvm, oq_dictP_lst, oq_dictP_dct, oq_isInt, oq_isBool, oq_isStr, oq_isList, oq_isTuple, oq_isDict, oq_isObj, oObj_obj, oTy_non, oTy_int, oTy_bl, oTy_str, oTy_lst, oTy_tup, oTy_dct, dInt_int, dInt_bl, dInt_str, dInt_lst, dInt_non, dBool_int, dBool_bl, dStr_str, dStr_int, dList_lst, dList_tup, dTuple_tup, dTuple_lst, dDict_dct, isNone_non, isNone_int, isNone_lst, isNone_tup, isNone_str, at_0, at_1, at_2, at_3, at_4, ixOf_0, ixOf_1, ixOf_2, setD_lst, setD_dct, mut_append, mut_extend, mut_pop, mut_popAt, mut_clear, spread_f, spread_lst, spread_tup, sliD_lst, sliD_tup, wipeE_nil, wipeE_cons, unwipe_nil, unwipe_cons, wMut_eq, at_m1, List.getElem?_cons_zero, List.getElem?_cons_succ, List.headD_cons, List.headD_nil, List.tail_cons, List.tail_nil, List.nil_append, List.cons_append, List.append_nil, List.length_cons, List.length_nil, List.not_mem_nil, List.mem_cons, not_false_eq_true, true_and, and_true, if_true, if_false, reduceIte, reduceCtorEq, Bool.not_true, Bool.not_false, Nat.reduceAdd, Nat.reduceLT, Nat.reduceLeDiff, Option.isSome_some, or_false, false_or, Nat.reduceEqDiff, Bool.false_xor, Bool.true_xor, and_self, decide_true, decide_false, $[$ts:term],*])
local macro_rules | `(tactic| walk_at "pv1") => `(tactic| simp (config := { decide := false, implicitDefEqProofs := false, maxSteps := 1000000 }) only [wS_asg, wS_asgT, wS_asgQ, wS_par, wS_aug, wS_sset, wS_fset, wS_exp, wS_ret, wS_retN, wS_ifs, wS_pass, wS_brk, wS_cnt, wS_wall, wS_fors, wS_whl, wFor_nil, kOf_nx, kOf_rt, List.take_succ_cons, List.take_zero, List.map_cons, List.map_nil, outS_fz, outS_ow, outS_pw, outS_no, intsOf_map, strsOf_map, boolsOf_rep, all_rep, List.length_replicate, List.length_map, wEqo_obj, setF, getF, keyD_inl, keyD_inr, keyOf_int, List.set_cons_zero, List.set_cons_succ, List.set_nil, wC, wNew, wNw_ok, back_nil, back_f, back_n, back_vf, back_vo, backS_ow, backT_ow, backT_pw, notV_f, notV_n, wp_fok, wMut_eq, wE_cst, wE_var, wE_glb, wEs_nil, wEs_cons, wE_op, wE_and, wE_or, wE_not, wE_ite, wE_chn, wE_lst, wE_tup, wE_lstS, wA_nil, wA_cons, wE_dctN, wE_dct, wE_fld, wE_call, wE_prp, wE_mth, wE_new, wE_eqo, wE_eql, wE_sli, wE_mut, wE_lc, wE_dc, wI_seq, wI_rng, wI_rng2, wI_itm, wI_val, wI_zip, wI_enm, wBd_non, wBd_int, wBd_var, wBd_op, wPart_int, wInt_int, wIt_lst, wIt_tup, wIt_dct, wIt_str, wDct_dct, wLst_lst, wFld_obj, wM_obj, wEqo_obj, wEql_n, wO_some, wO_none, wO_bind, wO_map, wO_ite, wSs_nil, wB_bl, wK_t, wK_f, wV_fz, wV_ow, wV_pw, wV_no, wD_f, wD_n, wD_v, wDv_ow, wDv_fz, wDs_nil, wDs_cons, wRet_f, wRet_n, wRet_v, wRv_ow, wRv_fz, wAug_f, wFz_fz, wFset_obj, slotAt_nil, slotAt_zero, slotAt_succ, set_zero, set_succ, set_nil, rd_f, rd_n, rd_v, rdS_ow, rdS_pw, rdS_fz, rds_nil, rds_cons, ownAt_eq, ownS_ow, ownS_pw, putOwn_eq, putS_ow, putS_pw, setS_eq, npw_fz, npw_ow, npw_no, npw_pw, store_n, store_f, store_nf, store_v, tgt_nm, tgt_tp, tgt_tq, setMany_nil, setMany_cons, setQ_nil, setQ_cons, setQ_tup, prep_nil, prep_nt, prep_nf, prep_f, prep_v, storeAll_nil, storeAll_f, storeAll_n, lend_nil, lend_f, lend_n, lend_vt, lend_vf, lend_v0, lendS_ow, lendS_pw, lendS_fz, isLst_lst, opAug_int, oEq_int, oEq_str, oEq_lnil, oEq_bl, oq_add_int, oq_add_str, oq_add_lst, oq_add_tup, oq_sub_int, oq_mul_int, oq_mul_lst, oq_fdv_int, oq_mod_int, oq_pow_int, oq_shl_int, oq_neg_int, oq_lt_int, oq_le_int, oq_gt_int, oq_ge_int, oq_eq, oq_ne, oq_isN, oq_isnN, oq_in, oq_nin, oIn_lst, oIn_tup, oIn_dct, oIn_str, keyOf_int, keyOf_str, oq_idx_lst, oq_idx_tup, oq_idx_dct, oq_idx_str, oq_rev_lst, oq_len_lst, oq_len_tup, oq_len_dct, oq_len_str, oq_int_int, oq_int_bl, oq_max2, oq_min2, oq_sum, oq_list_lst, oq_list_tup, oq_list_dct, oq_tuple_lst, oq_tuple_tup, oq_sorted_dct, oq_sorted_lst, oq_all, oq_any, oq_abs, oq_dvm, oq_dictP_lst, oq_dictP_dct, oq_isInt, oq_isBool, oq_isStr, oq_isList, oq_isTuple, oq_isDict, oq_isObj, oObj_obj, oTy_non, oTy_int, oTy_bl, oTy_str, oTy_lst, oTy_tup, oTy_dct, dInt_int, dInt_bl, dInt_str, dInt_lst, dInt_non, dBool_int, dBool_bl, dStr_str, dStr_int, dList_lst, dList_tup, dTuple_tup, dTuple_lst, dDict_dct, isNone_non, isNone_int, isNone_lst, isNone_tup, isNone_str, at_0, at_1, at_2, at_3, at_4, ixOf_0, ixOf_1, ixOf_2, setD_lst, setD_dct, mut_append, mut_extend, mut_pop, mut_popAt, mut_clear, spread_f, spread_lst, spread_tup, sliD_lst, sliD_tup, wipeE_nil, wipeE_cons, unwipe_nil, unwipe_cons, wMut_eq, at_m1, List.getElem?_cons_zero, List.getElem?_cons_succ, List.headD_cons, List.headD_nil, List.tail_cons, List.tail_nil, List.nil_append, List.cons_append, List.append_nil, List.length_cons, List.length_nil, List.not_mem_nil, List.mem_cons, not_false_eq_true, true_and, and_true, if_true, if_false, reduceIte, reduceCtorEq, Bool.not_true, Bool.not_false, Nat.reduceAdd, Nat.reduceLT, Nat.reduceLeDiff, Option.isSome_some, or_false, false_or, Nat.reduceEqDiff, Bool.false_xor, Bool.true_xor, and_self, decide_true, decide_false])
local macro_rules | `(tactic| wp_walk using 1, $ts,*) => `(tactic| simp (config := { decide := false, implicitDefEqProofs := false, maxSteps := 1000000 }) only [wS_asg, wS_asgT, wS_asgQ, wS_par, wS_aug, wS_sset, wS_fset, wS_exp, wS_ret, wS_retN, wS_ifs, wS_pass, wS_brk, wS_cnt, wS_wall, wS_fors, wS_whl, wFor_nil, kOf_nx, kOf_rt, List.take_succ_cons, List.take_zero, List.map_cons, List.map_nil, outS_fz, outS_ow, outS_pw, outS_no, intsOf_map, strsOf_map, boolsOf_rep, all_rep, List.length_replicate, List.length_map, wEqo_obj, setF, getF, keyD_inl, keyD_inr, keyOf_int, List.set_cons_zero, List.set_cons_succ, List.set_nil, wC, wNew, wNw_ok, back_nil, back_f, back_n, back_vf, back_vo, backS_ow, backT_ow, backT_pw, notV_f, notV_n, wp_fok, wMut_eq, wE_cst, wE_var, wE_glb, wEs_nil, wEs_cons, wE_op, wE_and, wE_or, wE_not, wE_ite, wE_chn, wE_lst, wE_tup, wE_lstS, wA_nil, wA_cons, wE_dctN, wE_dct, wE_fld, wE_call, wE_prp, wE_mth, wE_new, wE_eqo, wE_eql, wE_sli, wE_mut, wE_lc, wE_dc, wI_seq, wI_rng, wI_rng2, wI_itm, wI_val, wI_zip, wI_enm, wBd_non, wBd_int, wBd_var, wBd_op, wPart_int, wInt_int, wIt_lst, wIt_tup, wIt_dct, wIt_str, wDct_dct, wLst_lst, wFld_obj, wM_obj, wEqo_obj, wEql_n, wO_some, wO_none, wO_bind, wO_map, wO_ite, wSs_nil, wB_bl, wK_t, wK_f, wV_fz, wV_ow, wV_pw, wV_no, wD_f, wD_n, wD_v, wDv_ow, wDv_fz, wDs_nil, wDs_cons, wRet_f, wRet_n, wRet_v, wRv_ow, wRv_fz, wAug_f, wFz_fz, wFset_obj, slotAt_nil, slotAt_zero, slotAt_succ, set_zero, set_succ, set_nil, rd_f, rd_n, rd_v, rdS_ow, rdS_pw, rdS_fz, rds_nil, rds_cons, ownAt_eq, ownS_ow, ownS_pw, putOwn_eq, putS_ow, putS_pw, setS_eq, npw_fz, npw_ow, npw_no, npw_pw, store_n, store_f, store_nf, store_v, tgt_nm, tgt_tp, tgt_tq, setMany_nil, setMany_cons, setQ_nil, setQ_cons, setQ_tup, prep_nil, prep_nt, prep_nf, prep_f, prep_v, storeAll_nil, storeAll_f, storeAll_n, lend_nil, lend_f, lend_n, lend_vt, lend_vf, lend_v0, lendS_ow, lendS_pw, lendS_fz, isLst_lst, opAug_int, oEq_int, oEq_str, oEq_lnil, oEq_bl, oq_add_int, oq_add_str, oq_add_lst, oq_add_tup, oq_sub_int, oq_mul_int, oq_mul_lst, oq_fdv_int, oq_mod_int, oq_pow_int, oq_shl_int, oq_neg_int, oq_lt_int, oq_le_int, oq_gt_int, oq_ge_int, oq_eq, oq_ne, oq_isN, oq_isnN, oq_in, oq_nin, oIn_lst, oIn_tup, oIn_dct, oIn_str, keyOf_int, keyOf_str, oq_idx_lst, oq_idx_tup, oq_idx_dct, oq_idx_str, oq_rev_lst, oq_len_lst, oq_len_tup, oq_len_dct, oq_len_str, oq_int_int, oq_int_bl, oq_max2, oq_min2, oq_sum, oq_list_lst, oq_list_tup, oq_list_dct, oq_tuple_lst, oq_tuple_tup, oq_sorted_dct, oq_sorted_lst, oq_all, oq_any, oq_abs, oq_dvm, oq_dictP_lst, oq_dictP_dct, oq_isInt, oq_isBool, oq_isStr, oq_isList, oq_isTuple, oq_isDict, oq_isObj, oObj_obj, oTy_non, oTy_int, oTy_bl, oTy_str, oTy_lst, oTy_tup, oTy_dct, dInt_int, dInt_bl, dInt_str, dInt_lst, dInt_non, dBool_int, dBool_bl, dStr_str, dStr_int, dList_lst, dList_tup, dTuple_tup, dTuple_lst, dDict_dct, isNone_non, isNone_int, isNone_lst, isNone_tup, isNone_str, at_0, at_1, at_2, at_3, at_4, ixOf_0, ixOf_1, ixOf_2, setD_lst, setD_dct, mut_append, mut_extend, mut_pop, mut_popAt, mut_clear, spread_f, spread_lst, spread_tup, sliD_lst, sliD_tup, wipeE_nil, wipeE_cons, unwipe_nil, unwipe_cons, wMut_eq, at_m1, List.getElem?_cons_zero, List.getElem?_cons_succ, List.headD_cons, List.headD_nil, List.tail_cons, List.tail_nil, List.nil_append, List.cons_append, List.append_nil, List.length_cons, List.length_nil, List.not_mem_nil, List.mem_cons, not_false_eq_true, true_and, and_true, if_true, if_false, reduceIte, reduceCtorEq, Bool.not_true, Bool.not_false, Nat.reduceAdd, Nat.reduceLT, Nat.reduceLeDiff, Option.isSome_some, or_false, false_or, Nat.reduceEqDiff, Bool.false_xor, Bool.true_xor, and_self, decide_true, decide_false, $[$ts:term],*])

theorem lk_of_mem {β : Type} {ls : List (Str × β)} {k : Str} (h : k ∈ ls.map (·.1)) : ∃ x, lk ls k = some x ∧ (k, x) ∈ ls := by
  induction ls with
  | nil => simp at h
  | cons p r ih =>
    unfold lk
    by_cases e : p.1 = k
    · subst e
      exact ⟨p.2, by simp, by simp⟩
    · rw [List.find?_cons_of_neg (by simpa using e)]
      simp only [List.map_cons, List.mem_cons] at h
      rcases h with h | h
      · exact (e h.symm).elim
      · obtain ⟨x, h1, h2⟩ := ih h
        exact ⟨x, h1, List.mem_cons_of_mem _ h2⟩
theorem perm_strs {ys : List D} {xs : List Str} (p : ys.Perm (xs.map .str)) : ∃ zs : List Str, ys = zs.map .str ∧ zs.Perm xs := by
  let g : D → Option Str := fun d => match d with | .str x => some x | _ => none
  refine ⟨ys.filterMap g, ?_, ?_⟩
  · have h : ∀ y ∈ ys, ∃ x, y = D.str x := fun y hy => by
      obtain ⟨x, _, e⟩ := List.mem_map.1 (p.mem_iff.1 hy)
      exact ⟨x, e.symm⟩
    clear p
    induction ys with
    | nil => rfl
    | cons y r ih =>
      obtain ⟨x, rfl⟩ := h y List.mem_cons_self
      rw [List.filterMap_cons_some (show g (.str x) = some x from rfl), List.map_cons, ← ih fun y hy => h y (List.mem_cons_of_mem _ hy)]
  · have := p.filterMap g
    rwa [List.filterMap_map, show (g ∘ D.str) = some from rfl, List.filterMap_some] at this
theorem all_snoc {α : Type} {p : α → Prop} {xs : List α} {x : α} (h : ∀ y ∈ xs, p y) (hx : p x) : ∀ y ∈ xs ++ [x], p y := fun y hy => by
  rcases List.mem_append.1 hy with hy | hy
  · exact h y hy
  · simp only [List.mem_singleton] at hy
    subst hy
    exact hx
theorem cut_take {α : Type} {xs : List α} {i : Int} (h : 0 ≤ i) : cut xs none (some i) = xs.take i.toNat := by
  unfold cut slIx
  simp only [Nat.sub_zero, List.drop_zero]
  rw [if_neg (by omega)]
  by_cases g : i.toNat ≤ xs.length
  · rw [Nat.min_eq_left g]
  · rw [Nat.min_eq_right (by omega), List.take_of_length_le (Nat.le_refl _), List.take_of_length_le (by omega)]
theorem eqLine_refl {ps : List Int} {ks : Kinds} (nd : (ks.map (·.1)).Nodup) : eqLine ps ps ks ks = true := by simp [eqLine, sameD_refl nd]
abbrev BASE : List Str := ["a", "b", "x", "places", "abcdefgh"]
theorem base_nd : BASE.Nodup := by decide +kernel
theorem base_nm : ∀ x ∈ BASE, OkName x := by
  have h : ∀ x ∈ BASE, 1 ≤ x.length ∧ x.length ≤ 8 ∧ ∀ c ∈ x.cps.toList, c ∈ ("abcdefghijklmnopqrstuvwxyz" : Str).cps.toList := by decide +kernel
  exact fun x hx => ⟨(h x hx).1, (h x hx).2.1, (h x hx).2.2⟩
theorem lk_perm {ks ls : Kinds} (p : (ks.map (·.1)).Perm (ls.map (·.1))) {q : Str × List Int} (hq : q ∈ ks) : ∃ x, lk ls q.1 = some x ∧ (q.1, x) ∈ ls :=
  lk_of_mem (p.mem_iff.1 (List.mem_map_of_mem hq))
theorem sum_nonneg : ∀ {ps : List Int}, (∀ x ∈ ps, 0 ≤ x) → 0 ≤ ps.sum
  | [], _ => by simp
  | x :: r, h => by
    have := sum_nonneg (ps := r) fun y hy => h y (List.mem_cons_of_mem _ hy)
    have := h x List.mem_cons_self
    simp only [List.sum_cons]
    omega
theorem mem_mapRange {a : Int} {m : Nat} {d : D} (h : d ∈ mapRange a m) : ∃ k : Nat, k < m ∧ d = .int (a + k) := by
  unfold mapRange at h
  obtain ⟨k, hk, rfl⟩ := List.mem_map.1 h
  exact ⟨k, List.mem_range.1 hk, rfl⟩
/-- a for over a range by the turn -/
theorem wFor_rng {T : Tb} {ρ : PV.Env} {K : Kn} {t : CT} {x : CSs} {a : Int} {m : Nat} (I : Nat → PV.Env → Prop) (h0 : I 0 ρ) (hs : ∀ i ρ, i < m → I i ρ → wO (tgt ρ t (.int (a + (i : Int)))) fun ρ1 => wSs T x ρ1 { nx := I (i + 1), ct := I (i + 1), br := K.nx, rt := K.rt })
    (h1 : ∀ ρ, I m ρ → K.nx ρ) : wFor T t x (mapRange a m) ρ K := by
  refine wFor_inv (fun rest ρ => ∃ i, i ≤ m ∧ rest = (List.range' i (m - i)).map (fun (k : Nat) => D.int (a + (k : Int))) ∧ I i ρ) ⟨0, by omega, by simp [mapRange, List.range_eq_range'], h0⟩ ?_ ?_
  · rintro d r ρ ⟨i, hi, er, h⟩
    by_cases q : i = m
    · subst q
      rw [Nat.sub_self] at er
      cases er
    · rw [show m - i = (m - (i + 1)) + 1 from by omega, List.range'_succ, List.map_cons] at er
      cases er
      exact wO_imp (hs i ρ (by omega) h) fun ρ1 h => wSs_imp h ⟨fun ρ h => ⟨i + 1, by omega, rfl, h⟩, fun _ _ h => h, fun _ h => h, fun ρ h => ⟨i + 1, by omega, rfl, h⟩⟩
  · rintro ρ ⟨i, hi, er, h⟩
    have : m - i = 0 := by
      have := congrArg List.length er
      simpa using this.symm
    have : i = m := by omega
    subst this
    exact h1 ρ h
/-- the defs of some kinds -/
structure HasK (P : Pg) : Prop extends RL.Has' P where
  law_some_kinds : P.fd 20 = some (.body 3 6 c_law_some_kinds)
section
variable {P : Pg} (h : HasK P) {n : Nat}
include h
/-- kinds as they are drawn -/
structure Drawn (ks : Kinds) (m : Nat) (w : Int) : Prop where
  lo : 1 ≤ ks.length
  hi : ks.length ≤ 3
  nd : (ks.map (·.1)).Nodup
  nb : ∀ p ∈ ks, p.1 ∈ BASE
  tl : ∀ p ∈ ks, p.2.length = m
  tr : ∀ p ∈ ks, ∀ t ∈ p.2, 0 ≤ t ∧ (t < 6 ∨ t < w)
theorem some_kinds {B : Nat} {d : D} {many : Nat} {wide : Int} (hr : Reel B d) (hB : B + 100000 < LIMB) (m1 : many ≤ 10) (w0 : 0 < wide) (w1 : wide ≤ 10 ^ 60) :
    (runF P (n + 3) 20 [.ow d, .fz (.int many), .fz (.int wide)]).wp fun v os => ∃ ks d', v = .n (.dct (kL ks)) ∧ os = [.ow d', .fz (.int many), .fz (.int wide)] ∧ Drawn ks many wide ∧ Reel (B + 200) d' := by
  refine wp_runF h.law_some_kinds rfl ?_
  walk_at "pv0"
  rw [wSs_cons]
  walk_at "pv1"
  rw [wSs_cons]
  walk_at "pv1"
  refine ⟨by simp [LIM], ?_⟩
  refine FOut.imp (mixed h.toHas' hr (by simp) (by omega)) ?_
  rintro v os ⟨ys, d1, rfl, rfl, py, hr1⟩
  obtain ⟨zs, rfl, pz⟩ := perm_strs (xs := BASE) py
  walk_at "pv1"
  refine FOut.imp (spin h.toHas' hr1 (by simp; omega) (by omega) (by omega)) ?_
  rintro v os ⟨r, d2, rfl, rfl, r0, r1, hr2⟩
  wp_walk using 1, cut_take (show 0 ≤ 1 + r by omega), take_map_
  have hlen := pz.length_eq
  obtain ⟨names, en⟩ : ∃ names, zs.take (1 + r).toNat = names := ⟨_, rfl⟩
  have nd : names.Nodup := by rw [← en]; exact (pz.nodup_iff.2 base_nd).sublist (List.take_sublist _ _)
  have nb : ∀ x ∈ names, x ∈ BASE := fun x hx => pz.mem_iff.1 (by rw [← en] at hx; exact List.mem_of_mem_take hx)
  have nl : names.length = (1 + r).toNat := by rw [← en, List.length_take, hlen, Nat.min_eq_left (by simp only [List.length_cons, List.length_nil]; omega)]
  rw [en]
  have hr2 : Reel (B + 10) d2 := hr2.mono (by simp <;> omega)
  refine wFor_inv (fun rest ρ => ∃ (rs : List Str) (ks : Kinds) (d' : D) (s4 s5 : PV.Slot), rest = rs.map .str ∧ ρ = [.pw d', .fz (.int many), .fz (.int wide), .ow (.dct (kL ks)), s4, s5] ∧ npw s4 ∧ npw s5 ∧
    ks.map (·.1) ++ rs = names ∧ (∀ p ∈ ks, p.2.length = many ∧ ∀ t ∈ p.2, 0 ≤ t ∧ (t < 6 ∨ t < wide)) ∧ Reel (B + 10 + 50 * ks.length) d') ⟨names, [], d2, .no, .no, rfl, rfl, trivial, trivial, rfl, by simp, by simpa using hr2⟩ ?_ ?_
  · rintro x rest ρ ⟨rs, ks, d', s4, s5, er, rfl, n4, n5, pk, ok, hr'⟩
    cases rs with
    | nil => cases er
    | cons z rs =>
      rw [List.map_cons] at er
      cases er
      have hkl : ks.length + (rs.length + 1) = names.length := by rw [← pk]; simp
      wp_walk using 1, n4, n5
      rw [wSs_cons]
      wp_walk using 1, n4, n5
      refine ⟨by unfold small; exact decide_eq_true (by omega), ?_⟩
      refine wG_inv (fun rest acc ρ => ∃ (ts : List Int) (d2 : D), acc = ts.map .int ∧ ρ = [.pw d2, .fz (.int many), .fz (.int wide), .ow (.dct (kL ks)), .fz (.str z), .no] ∧ ts.length + rest.length = many ∧ (∀ t ∈ ts, 0 ≤ t ∧ (t < 6 ∨ t < wide)) ∧ Reel (B + 10 + 50 * ks.length + 3 * ts.length) d2) ⟨[], d', rfl, rfl, by simp [mapRange], by simp, hr'⟩ ?_ ?_
      · rintro y rest acc ρ ⟨ts, d2, rfl, rfl, e1, e2, hr2⟩
        simp only [List.length_cons] at e1
        walk_at "pv1"
        refine FOut.imp (spin h.toHas' hr2 (by omega) (by omega) (by omega)) ?_
        rintro v os ⟨q1, d3, rfl, rfl, a0, a1, hr3⟩
        walk_at "pv1"
        refine FOut.imp (spin h.toHas' hr3 (by omega) w0 w1) ?_
        rintro v os ⟨q2, d4, rfl, rfl, b0, b1, hr4⟩
        walk_at "pv1"
        refine ⟨by simp [LIM], ?_⟩
        refine FOut.imp (spin h.toHas' hr4 (by omega) (by omega) (by omega)) ?_
        rintro v os ⟨q, d5, rfl, rfl, c0, c1, hr5⟩
        have fin : ∀ x : Int, 0 ≤ x → (x < 6 ∨ x < wide) → ∃ ts_1 d2_1, List.map D.int ts ++ [D.int x] = List.map D.int ts_1 ∧ [Slot.pw d5, Slot.fz (D.int ↑many), Slot.fz (D.int wide), Slot.ow (D.dct (kL ks)), Slot.fz (D.str z), Slot.no] = [Slot.pw d2_1, Slot.fz (D.int ↑many), Slot.fz (D.int wide), Slot.ow (D.dct (kL ks)), Slot.fz (D.str z), Slot.no] ∧
            ts_1.length + rest.length = many ∧ (∀ t ∈ ts_1, 0 ≤ t ∧ (t < 6 ∨ t < wide)) ∧ Reel (B + 10 + 50 * ks.length + 3 * ts_1.length) d2_1 := fun x x0 x1 =>
          ⟨ts ++ [x], d5, by simp, rfl, by simp; omega, all_snoc e2 ⟨x0, x1⟩, hr5.mono (by simp; omega)⟩
        rcases (by omega : q = 0 ∨ q = 1 ∨ q = 2 ∨ q = 3 ∨ q = 4) with rfl | rfl | rfl | rfl | rfl
        · walk_at "pv1"
          exact fin 0 (by omega) (by omega)
        · walk_at "pv1"
          exact fin 1 (by omega) (by omega)
        · walk_at "pv1"
          exact fin 2 (by omega) (by omega)
        · walk_at "pv1"
          exact fin q1 (by omega) (by omega)
        · walk_at "pv1"
          exact fin q2 (by omega) (by omega)
      · rintro acc ρ ⟨ts, d2, rfl, rfl, e1, e2, hr2⟩
        have e1 : ts.length = many := by simpa using e1
        have nk : (Sum.inr z : Key) ∉ (kL ks).map (·.1) := by
          intro hz
          obtain ⟨q, hq, e⟩ := List.mem_map.1 hz
          obtain ⟨p, hp, rfl⟩ := List.mem_map.1 hq
          cases e
          rw [← pk, List.nodup_append] at nd
          exact nd.2.2 p.1 (List.mem_map_of_mem hp) p.1 (by simp) rfl
        have kl : List.length ks < LIM := by simp only [LIM]; omega
        have tl : ts.length ≤ LIM := by simp only [LIM]; omega
        wp_walk using 1, n5, putD_new nk
        refine ⟨tl, kl, rs, ks ++ [(z, ts)], d2, .fz (.str z), s5, rfl, by simp, trivial, n5, by simpa using pk, ?_, hr2.mono (by simp; omega)⟩
        exact all_snoc ok ⟨e1, e2⟩
  · rintro ρ ⟨rs, ks, d', s4, s5, er, rfl, n4, n5, pk, ok, hr'⟩
    have er : rs = [] := by cases rs with | nil => rfl | cons a b => cases er
    subst er
    rw [List.append_nil] at pk
    have hkl : ks.length = names.length := by rw [← pk]; simp
    dsimp only
    rw [wSs_cons]
    walk_at "pv1"
    exact ⟨ks, d', rfl, rfl, ⟨by omega, by omega, pk ▸ nd, fun p hp => nb _ (pk ▸ List.mem_map_of_mem hp), fun p hp => (ok p hp).1, fun p hp => (ok p hp).2⟩, hr'.mono (by omega)⟩
end
end CM

set_option Elab.async false
set_option linter.all false
set_option maxRecDepth 100000
set_option maxHeartbeats 4000000
/-! L03M: leaving out stations: plain lists. -/
namespace M03
open PySem
open LN
def idle (ks : Kinds) (st : Nat) : Bool := ks.all fun p => decide (p.2.getD st 0 = 0)
def ndl (ps : List Int) (ks : Kinds) (st : Nat) : Bool := idle ks st && (!ps.isEmpty && (st == 0 || (st == ps.length || decide (ps.getD (st - 1) 0 + ps.getD st 0 + 1 ≤ 3))))
def wo (ps : List Int) (st : Nat) : List Int := if st = 0 then ps.tail else if st = ps.length then ps.dropLast else ps.take (st - 1) ++ (ps.getD (st - 1) 0 + ps.getD st 0 + 1) :: ps.drop (st + 1)
def cutK (ks : Kinds) (st : Nat) : Kinds := ks.map fun p => (p.1, p.2.take st ++ p.2.drop (st + 1))
/-- the first one that can be left out -/
def isFirst (ps : List Int) (ks : Kinds) (st : Nat) : Prop := st ≤ ps.length ∧ ndl ps ks st = true ∧ ∀ s, s < st → ndl ps ks s = false
def isDone (ps : List Int) (ks : Kinds) : Prop := ∀ s, s ≤ ps.length → ndl ps ks s = false
inductive End : List Int → Kinds → List Int → Kinds → Prop
  | done {ps ks} (h : isDone ps ks) : End ps ks ps ks
  | step {ps ks qs ls} (st : Nat) (h : isFirst ps ks st) (g : End (wo ps st) (cutK ks st) qs ls) : End ps ks qs ls
theorem isFirst.uniq {ps : List Int} {ks : Kinds} {s t : Nat} (a : isFirst ps ks s) (b : isFirst ps ks t) : s = t := by
  rcases Nat.lt_trichotomy s t with h | h | h
  · have := b.2.2 s h; rw [a.2.1] at this; cases this
  · exact h
  · have := a.2.2 t h; rw [b.2.1] at this; cases this
theorem isFirst.not {ps : List Int} {ks : Kinds} {s : Nat} (a : isFirst ps ks s) (b : isDone ps ks) : False := by
  have := b s a.1; rw [a.2.1] at this; cases this
theorem End.uniq {ps ks qs ls} (a : End ps ks qs ls) : ∀ {qs' ls'}, End ps ks qs' ls' → qs = qs' ∧ ls = ls' := by
  induction a with
  | done h =>
    intro qs' ls' b
    cases b with
    | done _ => exact ⟨rfl, rfl⟩
    | step st g _ => exact (g.not h).elim
  | step st h g ih =>
    intro qs' ls' b
    cases b with
    | done g => exact (h.not g).elim
    | step t h' g' =>
      cases h.uniq h'
      exact ih g'
theorem End.last {ps ks qs ls} (a : End ps ks qs ls) : isDone qs ls := by
  induction a with
  | done h => exact h
  | step _ _ _ ih => exact ih
theorem first_or {ps : List Int} {ks : Kinds} : ∀ n, n ≤ ps.length + 1 → (∃ s, s < n ∧ isFirst ps ks s) ∨ ∀ s, s < n → ndl ps ks s = false
  | 0, _ => .inr fun s h => by omega
  | n + 1, hn => by
    rcases first_or (ps := ps) (ks := ks) n (by omega) with ⟨s, h1, h2⟩ | h
    · exact .inl ⟨s, by omega, h2⟩
    · cases e : ndl ps ks n with
      | true => exact .inl ⟨n, by omega, (by omega : n ≤ ps.length), e, h⟩
      | false =>
        refine .inr fun s hs => ?_
        by_cases q : s = n
        · rw [q]; exact e
        · exact h s (by omega)
theorem done_or {ps : List Int} {ks : Kinds} : (∃ s, isFirst ps ks s) ∨ isDone ps ks := by
  rcases first_or (ps := ps) (ks := ks) (ps.length + 1) (Nat.le_refl _) with ⟨s, _, h⟩ | h
  · exact .inl ⟨s, h⟩
  · exact .inr fun s hs => h s (by omega)
theorem ndl_pos {ps : List Int} {ks : Kinds} {s : Nat} (h : ndl ps ks s = true) : ps ≠ [] := by
  unfold ndl at h
  rintro rfl
  simp at h
theorem wo_len {ps : List Int} {ks : Kinds} {s : Nat} (h : isFirst ps ks s) : (wo ps s).length + 1 = ps.length := by
  have h0 := List.length_pos_iff.2 (ndl_pos h.2.1)
  have h1 := h.1
  unfold wo
  split
  · rw [List.length_tail]; omega
  · split
    · rw [List.length_dropLast]; omega
    · simp only [List.length_append, List.length_take, List.length_cons, List.length_drop]
      omega
theorem getD_mem {ps : List Int} {i : Nat} (h : i < ps.length) : ps.getD i 0 ∈ ps := by
  rw [List.getD_eq_getElem?_getD, List.getElem?_eq_getElem h]
  exact List.getElem_mem h
theorem sum_split {ps : List Int} {s : Nat} (h : s < ps.length) : ps.sum = (ps.take s).sum + ps.getD s 0 + (ps.drop (s + 1)).sum := by
  have : ps.take s ++ ps.getD s 0 :: ps.drop (s + 1) = ps := by
    rw [List.getD_eq_getElem?_getD, List.getElem?_eq_getElem h, Option.getD_some, List.getElem_cons_drop, List.take_append_drop]
  conv => lhs; rw [← this]
  rw [List.sum_append, List.sum_cons]
  omega
theorem wo_ok {ps : List Int} {ks : Kinds} {s : Nat} (hp : OkP ps) (h : isFirst ps ks s) : OkP (wo ps s) := by
  have hl := wo_len h
  have h0 := List.length_pos_iff.2 (ndl_pos h.2.1)
  have h1 := h.1
  have h2 := hp.len
  have h3 := hp.sum
  refine ⟨by omega, ?_, ?_⟩
  · intro x hx
    unfold wo at hx
    split at hx
    · exact hp.rng x (List.mem_of_mem_tail hx)
    · split at hx
      · exact hp.rng x (List.dropLast_subset _ hx)
      · rename_i n0 n1
        rcases List.mem_append.1 hx with hx | hx
        · exact hp.rng x (List.mem_of_mem_take hx)
        · rcases List.mem_cons.1 hx with rfl | hx
          · have a := hp.rng _ (getD_mem (ps := ps) (i := s - 1) (by omega))
            have b := hp.rng _ (getD_mem (ps := ps) (i := s) (by omega))
            have c := h.2.1
            unfold ndl at c
            simp only [Bool.and_eq_true, Bool.or_eq_true, beq_iff_eq, decide_eq_true_eq] at c
            rcases c.2.2 with c | c | c <;> omega
          · exact hp.rng x (List.mem_of_mem_drop hx)
  · have key : (wo ps s).sum ≤ ps.sum + 1 := by
      unfold wo
      split
      · cases ps with
        | nil => simp
        | cons x r =>
          have := hp.rng x (by simp)
          simp only [List.tail_cons, List.sum_cons]
          omega
      · split
        · have := hp.rng _ (getD_mem (ps := ps) (i := ps.length - 1) (by omega))
          have e := sum_split (ps := ps) (s := ps.length - 1) (by omega)
          rw [List.dropLast_eq_take]
          rw [List.drop_of_length_le (by omega), List.sum_nil] at e
          omega
        · have e1 := sum_split (ps := ps) (s := s) (by omega)
          have e2 := sum_split (ps := ps.take s) (s := s - 1) (by rw [List.length_take]; omega)
          rw [List.take_take, Nat.min_eq_left (by omega), List.drop_of_length_le (by rw [List.length_take]; omega), List.sum_nil] at e2
          have e3 : (ps.take s).getD (s - 1) 0 = ps.getD (s - 1) 0 := by
            rw [List.getD_eq_getElem?_getD, List.getD_eq_getElem?_getD, List.getElem?_take_of_lt (by omega)]
          rw [e3] at e2
          rw [List.sum_append, List.sum_cons]
          omega
    omega
theorem cut_ok {ps : List Int} {ks : Kinds} {s : Nat} (hk : OkK ks (ps.length + 1)) (h : isFirst ps ks s) : OkK (cutK ks s) ((wo ps s).length + 1) where
  lo := by simpa [cutK] using hk.lo
  hi := by simpa [cutK] using hk.hi
  nd := by simpa [cutK, List.map_map, Function.comp_def] using hk.nd
  nm := fun p hp => by
    obtain ⟨q, hq, rfl⟩ := List.mem_map.1 hp
    exact hk.nm q hq
  tl := fun p hp => by
    obtain ⟨q, hq, rfl⟩ := List.mem_map.1 hp
    have := hk.tl q hq
    have h1 := h.1
    rw [wo_len h]
    simp only [List.length_append, List.length_take, List.length_drop]
    omega
  tr := fun p hp t ht => by
    obtain ⟨q, hq, rfl⟩ := List.mem_map.1 hp
    simp only [List.mem_append] at ht
    rcases ht with ht | ht
    · exact hk.tr q hq t (List.mem_of_mem_take ht)
    · exact hk.tr q hq t (List.mem_of_mem_drop ht)
/-- so many steps -/
theorem End.ex : ∀ (n : Nat) {ps : List Int} {ks : Kinds}, ps.length ≤ n → ∃ qs ls, End ps ks qs ls
  | n, ps, ks, hn => by
    rcases done_or (ps := ps) (ks := ks) with ⟨s, h⟩ | h
    · have := wo_len h
      cases n with
      | zero => omega
      | succ n =>
        obtain ⟨qs, ls, g⟩ := End.ex n (ps := wo ps s) (ks := cutK ks s) (by omega)
        exact ⟨qs, ls, .step s h g⟩
    · exact ⟨ps, ks, .done h⟩
end M03

set_option Elab.async false
set_option linter.all false
set_option maxRecDepth 100000
set_option maxHeartbeats 4000000
namespace L03
open PySem L2 PV
abbrev c_is_int : CSs := (.cons (.ret (.and_ (.op .isInt (.cons (.var 0) .nil)) (.not_ (.op .isBool (.cons (.var 0) .nil))))) .nil)
abbrev c_is_whole : CSs := (.cons (.ret (.and_ (.call 0 [] (.cons (.var 0) .nil)) (.chn .le .le (.var 1) (.var 0) (.var 2)))) .nil)
abbrev c_is_time : CSs := (.cons (.ret (.call 1 [] (.cons (.var 0) (.cons (.cst (.int 0)) (.cons (.glb 0) .nil))))) .nil)
abbrev c_is_name : CSs := (.cons (.ifs (.or_ (.not_ (.op .isStr (.cons (.var 0) .nil))) (.not_ (.chn .le .le (.cst (.int 1)) (.op .len (.cons (.var 0) .nil)) (.cst (.int 8))))) (.cons (.ret (.cst (.bl false))) .nil) .nil) (.cons (.ret (.op .all_ (.cons (.lc (.op .inn (.cons (.var 1) (.cons (.cst (.str "abcdefghijklmnopqrstuvwxyz")) .nil))) (.nm 1) (.seq (.var 0)) (.cst (.bl true)) [1]) .nil))) .nil))
abbrev c_valid_places : CSs := (.cons (.ifs (.or_ (.not_ (.op .isList (.cons (.var 0) .nil))) (.op .ge (.cons (.op .len (.cons (.var 0) .nil)) (.cons (.glb 1) .nil)))) (.cons (.ret (.cst (.bl false))) .nil) .nil) (.cons (.ifs (.not_ (.op .all_ (.cons (.lc (.call 1 [] (.cons (.var 1) (.cons (.cst (.int 0)) (.cons (.glb 2) .nil)))) (.nm 1) (.seq (.var 0)) (.cst (.bl true)) [1]) .nil))) (.cons (.ret (.cst (.bl false))) .nil) .nil) (.cons (.ret (.op .le (.cons (.op .add (.cons (.op .add (.cons (.op .len (.cons (.var 0) .nil)) (.cons (.cst (.int 1)) .nil))) (.cons (.op .sum (.cons (.var 0) .nil)) .nil))) (.cons (.glb 3) .nil)))) .nil)))
abbrev c_require_kinds : CSs := (.cons (.ifs (.or_ (.not_ (.op .isDict (.cons (.var 0) .nil))) (.not_ (.chn .le .le (.cst (.int 1)) (.op .len (.cons (.var 0) .nil)) (.glb 4)))) (.cons .wall .nil) .nil) (.cons (.fors (.tp [2, 3]) (.itm (.var 0)) (.cons (.ifs (.or_ (.not_ (.call 3 [] (.cons (.var 2) .nil))) (.or_ (.not_ (.op .isList (.cons (.var 3) .nil))) (.op .ne (.cons (.op .len (.cons (.var 3) .nil)) (.cons (.var 1) .nil))))) (.cons .wall .nil) .nil) (.cons (.ifs (.not_ (.op .all_ (.cons (.lc (.call 2 [] (.cons (.var 4) .nil)) (.nm 4) (.seq (.var 3)) (.cst (.bl true)) [4]) .nil))) (.cons .wall .nil) .nil) .nil))) .nil))
abbrev c_Line_init : CSs := (.cons (.ifs (.not_ (.call 4 [] (.cons (.var 1) .nil))) (.cons .wall .nil) .nil) (.cons (.exp (.call 5 [] (.cons (.var 2) (.cons (.op .add (.cons (.op .len (.cons (.var 1) .nil)) (.cons (.cst (.int 1)) .nil))) .nil)))) (.cons (.fset 0 0 (.op .tuple_ (.cons (.var 1) .nil))) (.cons (.fset 0 1 (.dc (.var 3) (.op .tuple_ (.cons (.var 4) .nil)) (.tp [3, 4]) (.itm (.var 2)) (.cst (.bl true)) [3, 4])) .nil))))
abbrev c_Line_places : CSs := (.cons (.ret (.op .list_ (.cons (.fld 0 (.var 0)) .nil))) .nil)
abbrev c_Line_kinds : CSs := (.cons (.ret (.dc (.var 1) (.op .list_ (.cons (.var 2) .nil)) (.tp [1, 2]) (.itm (.fld 1 (.var 0))) (.cst (.bl true)) [1, 2])) .nil)
abbrev c_Line_stations : CSs := (.cons (.ret (.op .add (.cons (.op .len (.cons (.fld 0 (.var 0)) .nil)) (.cons (.cst (.int 1)) .nil)))) .nil)
abbrev c_Line_eq : CSs := (.cons (.ifs (.not_ (.op (.isObj 0) (.cons (.var 1) .nil))) (.cons (.ret (.cst (.bl false))) .nil) .nil) (.cons (.ret (.and_ (.op .eq (.cons (.fld 0 (.var 0)) (.cons (.fld 0 (.var 1)) .nil))) (.op .eq (.cons (.fld 1 (.var 0)) (.cons (.fld 1 (.var 1)) .nil))))) .nil))
abbrev c_require_line : CSs := (.cons (.ifs (.not_ (.op (.isObj 0) (.cons (.var 0) .nil))) (.cons .wall .nil) .nil) .nil)
abbrev c_is_needless : CSs := (.cons (.ifs (.or_ (.op .any_ (.cons (.lc (.op .gt (.cons (.op .idx (.cons (.var 3) (.cons (.var 2) .nil))) (.cons (.cst (.int 0)) .nil))) (.nm 3) (.val (.var 1)) (.cst (.bl true)) [3]) .nil)) (.op .eq (.cons (.var 0) (.cons (.lst .nil) .nil)))) (.cons (.ret (.cst (.bl false))) .nil) .nil) (.cons (.ifs (.op .inn (.cons (.var 2) (.cons (.tup (.cons (.cst (.int 0)) (.cons (.op .len (.cons (.var 0) .nil)) .nil))) .nil))) (.cons (.ret (.cst (.bl true))) .nil) .nil) (.cons (.ret (.op .le (.cons (.op .add (.cons (.op .add (.cons (.op .idx (.cons (.var 0) (.cons (.op .sub (.cons (.var 2) (.cons (.cst (.int 1)) .nil))) .nil))) (.cons (.op .idx (.cons (.var 0) (.cons (.var 2) .nil))) .nil))) (.cons (.cst (.int 1)) .nil))) (.cons (.glb 2) .nil)))) .nil)))
abbrev c_places_without : CSs := (.cons (.ifs (.op .eq (.cons (.var 1) (.cons (.cst (.int 0)) .nil))) (.cons (.ret (.sli (.var 0) (.cst (.int 1)) (.cst .non))) .nil) .nil) (.cons (.ifs (.op .eq (.cons (.var 1) (.cons (.op .len (.cons (.var 0) .nil)) .nil))) (.cons (.ret (.sli (.var 0) (.cst .non) (.op .neg (.cons (.cst (.int 1)) .nil)))) .nil) .nil) (.cons (.ret (.lstS (.cons (.sli (.var 0) (.cst .non) (.op .sub (.cons (.var 1) (.cons (.cst (.int 1)) .nil)))) (.cons (.op .add (.cons (.op .add (.cons (.op .idx (.cons (.var 0) (.cons (.op .sub (.cons (.var 1) (.cons (.cst (.int 1)) .nil))) .nil))) (.cons (.op .idx (.cons (.var 0) (.cons (.var 1) .nil))) .nil))) (.cons (.cst (.int 1)) .nil))) (.cons (.sli (.var 0) (.op .add (.cons (.var 1) (.cons (.cst (.int 1)) .nil))) (.cst .non)) .nil))) (true :: (false :: (true :: []))))) .nil)))
abbrev c_plain : CSs := (.cons (.exp (.call 26 [] (.cons (.var 0) .nil))) (.cons (.par [1, 2] [false, false] (.cons (.prp 2 (.var 0)) (.cons (.prp 3 (.var 0)) .nil))) (.cons (.asg (.nm 3) false (.cst (.int 0))) (.cons (.whl (.op .le (.cons (.var 3) (.cons (.op .len (.cons (.var 1) .nil)) .nil))) (.cons (.ifs (.call 32 [] (.cons (.var 1) (.cons (.var 2) (.cons (.var 3) .nil)))) (.cons (.asg (.nm 1) false (.call 33 [] (.cons (.var 1) (.cons (.var 3) .nil)))) (.cons (.asg (.nm 2) false (.dc (.var 4) (.op .add (.cons (.sli (.var 5) (.cst .non) (.var 3)) (.cons (.sli (.var 5) (.op .add (.cons (.var 3) (.cons (.cst (.int 1)) .nil))) (.cst .non)) .nil))) (.tp [4, 5]) (.itm (.var 2)) (.cst (.bl true)) [4, 5])) (.cons (.asg (.nm 3) false (.cst (.int 0))) .nil))) (.cons (.aug 3 .add (.cst (.int 1))) .nil)) .nil)) (.cons (.ret (.new 0 [] (.cons (.var 1) (.cons (.var 2) .nil)))) .nil)))))
abbrev c_law_wound : CSs := (.cons (.asg (.nm 2) false (.cst (.int 0))) (.cons (.ifs (.op .lt (.cons (.var 1) (.cons (.op .len (.cons (.var 0) .nil)) .nil))) (.cons (.asg (.nm 2) false (.op .idx (.cons (.var 0) (.cons (.var 1) .nil)))) .nil) .nil) (.cons (.ret (.lst (.cons (.op .max2 (.cons (.cst (.int 0)) (.cons (.op .sub (.cons (.var 2) (.cons (.op .pow (.cons (.cst (.int 10)) (.cons (.cst (.int 18)) .nil))) .nil))) .nil))) (.cons (.op .add (.cons (.op .add (.cons (.op .mul (.cons (.op .mod (.cons (.op .int_ (.cons (.var 2) .nil)) (.cons (.op .add (.cons (.op .pow (.cons (.cst (.int 10)) (.cons (.cst (.int 38)) .nil))) (.cons (.cst (.int 133)) .nil))) .nil))) (.cons (.cst (.int 67)) .nil))) (.cons (.op .mul (.cons (.cst (.int 141650939)) (.cons (.var 1) .nil))) .nil))) (.cons (.cst (.int 23)) .nil))) (.cons (.cst (.int 0)) .nil))))) .nil)))
abbrev c_law_spin : CSs := (.cons (.ifs (.op .gt (.cons (.op .idx (.cons (.var 0) (.cons (.cst (.int 0)) .nil))) (.cons (.cst (.int 0)) .nil))) (.cons (.asg (.nm 2) false (.op .mod (.cons (.op .int_ (.cons (.op .idx (.cons (.var 0) (.cons (.cst (.int 0)) .nil))) .nil)) (.cons (.var 1) .nil)))) (.cons (.sset 0 (.cst (.int 0)) (.op .fdv (.cons (.op .idx (.cons (.var 0) (.cons (.cst (.int 0)) .nil))) (.cons (.var 1) .nil)))) (.cons (.ret (.var 2)) .nil))) .nil) (.cons (.sset 0 (.cst (.int 2)) (.op .add (.cons (.op .idx (.cons (.var 0) (.cons (.cst (.int 2)) .nil))) (.cons (.cst (.int 1)) .nil)))) (.cons (.asg (.nm 3) false (.op .mod (.cons (.op .int_ (.cons (.op .pow (.cons (.op .add (.cons (.op .idx (.cons (.var 0) (.cons (.cst (.int 1)) .nil))) (.cons (.op .mul (.cons (.cst (.int 86028121)) (.cons (.op .idx (.cons (.var 0) (.cons (.cst (.int 2)) .nil))) .nil))) .nil))) (.cons (.cst (.int 3)) .nil))) .nil)) (.cons (.op .add (.cons (.op .pow (.cons (.cst (.int 10)) (.cons (.cst (.int 42)) .nil))) (.cons (.cst (.int 63)) .nil))) .nil)))) (.cons (.asg (.nm 3) false (.op .mod (.cons (.op .int_ (.cons (.op .pow (.cons (.op .add (.cons (.var 3) (.cons (.op .mul (.cons (.cst (.int 67867967)) (.cons (.op .idx (.cons (.var 0) (.cons (.cst (.int 2)) .nil))) .nil))) .nil))) (.cons (.cst (.int 3)) .nil))) .nil)) (.cons (.op .add (.cons (.op .pow (.cons (.cst (.int 10)) (.cons (.cst (.int 44)) .nil))) (.cons (.cst (.int 57)) .nil))) .nil)))) (.cons (.ret (.op .mod (.cons (.op .int_ (.cons (.op .fdv (.cons (.var 3) (.cons (.cst (.int 655331)) .nil))) .nil)) (.cons (.var 1) .nil)))) .nil)))))
abbrev c_law_mixed : CSs := (.cons (.par [2, 3] [true, true] (.cons (.op .list_ (.cons (.var 1) .nil)) (.cons (.lst .nil) .nil))) (.cons (.whl (.op .ne (.cons (.var 2) (.cons (.lst .nil) .nil))) (.cons (.exp (.mut .append 3 (.cons (.mut .popAt 2 (.cons (.call 17 [true, false] (.cons (.var 0) (.cons (.op .len (.cons (.var 2) .nil)) .nil))) .nil)) .nil))) .nil)) (.cons (.ret (.var 3)) .nil)))
abbrev c_law_some_room : CSs := (.cons (.asg (.nm 2) true (.lst .nil)) (.cons (.fors (.nm 3) (.rng (.op .sub (.cons (.var 1) (.cons (.cst (.int 1)) .nil)))) (.cons (.exp (.mut .append 2 (.cons (.op .min2 (.cons (.op .idx (.cons (.lst (.cons (.cst (.int 0)) (.cons (.cst (.int 1)) (.cons (.cst (.int 0)) (.cons (.cst (.int 2)) (.cons (.cst (.int 3)) .nil)))))) (.cons (.call 17 [true, false] (.cons (.var 0) (.cons (.cst (.int 5)) .nil))) .nil))) (.cons (.op .sub (.cons (.op .sub (.cons (.cst (.int 10)) (.cons (.var 1) .nil))) (.cons (.op .sum (.cons (.var 2) .nil)) .nil))) .nil))) .nil))) .nil)) (.cons (.ret (.var 2)) .nil)))
abbrev c_law_some_kinds : CSs := (.cons (.asg (.nm 3) true (.dctN false)) (.cons (.fors (.nm 4) (.seq (.sli (.call 18 [true, false] (.cons (.var 0) (.cons (.lst (.cons (.cst (.str "a")) (.cons (.cst (.str "b")) (.cons (.cst (.str "x")) (.cons (.cst (.str "places")) (.cons (.cst (.str "abcdefgh")) .nil)))))) .nil))) (.cst .non) (.op .add (.cons (.cst (.int 1)) (.cons (.call 17 [true, false] (.cons (.var 0) (.cons (.cst (.int 3)) .nil))) .nil))))) (.cons (.sset 3 (.var 4) (.lc (.op .idx (.cons (.lst (.cons (.cst (.int 0)) (.cons (.cst (.int 1)) (.cons (.cst (.int 2)) (.cons (.call 17 [true, false] (.cons (.var 0) (.cons (.cst (.int 6)) .nil))) (.cons (.call 17 [true, false] (.cons (.var 0) (.cons (.var 2) .nil))) .nil)))))) (.cons (.call 17 [true, false] (.cons (.var 0) (.cons (.cst (.int 5)) .nil))) .nil))) (.nm 5) (.rng (.var 1)) (.cst (.bl true)) [5])) .nil)) (.cons (.ret (.var 3)) .nil)))
abbrev c_law_idle_kinds : CSs := (.cons (.asg (.nm 2) true (.call 20 [true, false, false] (.cons (.var 0) (.cons (.var 1) (.cons (.cst (.int 9)) .nil))))) (.cons (.asg (.nm 3) false (.lc (.var 7) (.nm 7) (.rng (.var 1)) (.op .eq (.cons (.call 17 [true, false] (.cons (.var 0) (.cons (.cst (.int 2)) .nil))) (.cons (.cst (.int 0)) .nil))) [7])) (.cons (.asg (.nm 4) false (.op .idx (.cons (.call 18 [true, false] (.cons (.var 0) (.cons (.op .list_ (.cons (.var 2) .nil)) .nil))) (.cons (.cst (.int 0)) .nil)))) (.cons (.asg (.nm 5) false (.op .eq (.cons (.call 17 [true, false] (.cons (.var 0) (.cons (.cst (.int 4)) .nil))) (.cons (.cst (.int 0)) .nil)))) (.cons (.fors (.nm 6) (.seq (.op .sorted_ (.cons (.var 2) .nil))) (.cons (.ifs (.or_ (.op .ne (.cons (.var 6) (.cons (.var 4) .nil))) (.not_ (.var 5))) (.cons (.sset 2 (.var 6) (.lc (.ite (.op .inn (.cons (.var 7) (.cons (.var 3) .nil))) (.cst (.int 0)) (.var 8)) (.tp [7, 8]) (.enm (.op .idx (.cons (.var 2) (.cons (.var 6) .nil)))) (.cst (.bl true)) [7, 8])) .nil) .nil) .nil)) (.cons (.ret (.var 2)) .nil))))))
abbrev c_law_next : CSs := (.cons (.ifs (.op .eq (.cons (.var 0) (.cons (.lst .nil) .nil))) (.cons (.ret (.cst .non)) .nil) .nil) (.cons (.fors (.nm 2) (.rng (.op .add (.cons (.op .len (.cons (.var 0) .nil)) (.cons (.cst (.int 1)) .nil)))) (.cons (.ifs (.op .eq (.cons (.op .sum (.cons (.lc (.op .idx (.cons (.op .idx (.cons (.var 1) (.cons (.var 4) .nil))) (.cons (.var 2) .nil))) (.nm 4) (.seq (.var 1)) (.cst (.bl true)) [4]) .nil)) (.cons (.cst (.int 0)) .nil))) (.cons (.ifs (.op .eq (.cons (.var 2) (.cons (.cst (.int 0)) .nil))) (.cons (.ret (.tup (.cons (.var 2) (.cons (.sli (.var 0) (.cst (.int 1)) (.cst .non)) .nil)))) .nil) .nil) (.cons (.ifs (.op .eq (.cons (.var 2) (.cons (.op .len (.cons (.var 0) .nil)) .nil))) (.cons (.ret (.tup (.cons (.var 2) (.cons (.sli (.var 0) (.cst .non) (.op .neg (.cons (.cst (.int 1)) .nil))) .nil)))) .nil) .nil) (.cons (.ifs (.op .lt (.cons (.op .add (.cons (.op .idx (.cons (.var 0) (.cons (.op .sub (.cons (.var 2) (.cons (.cst (.int 1)) .nil))) .nil))) (.cons (.op .idx (.cons (.var 0) (.cons (.var 2) .nil))) .nil))) (.cons (.cst (.int 3)) .nil))) (.cons (.asg (.nm 3) false (.lst (.cons (.op .add (.cons (.op .add (.cons (.op .idx (.cons (.var 0) (.cons (.op .sub (.cons (.var 2) (.cons (.cst (.int 1)) .nil))) .nil))) (.cons (.op .idx (.cons (.var 0) (.cons (.var 2) .nil))) .nil))) (.cons (.cst (.int 1)) .nil))) .nil))) (.cons (.ret (.tup (.cons (.var 2) (.cons (.op .add (.cons (.op .add (.cons (.sli (.var 0) (.cst .non) (.op .sub (.cons (.var 2) (.cons (.cst (.int 1)) .nil)))) (.cons (.var 3) .nil))) (.cons (.sli (.var 0) (.op .add (.cons (.var 2) (.cons (.cst (.int 1)) .nil))) (.cst .non)) .nil))) .nil)))) .nil)) .nil) .nil))) .nil) .nil)) (.cons (.ret (.cst .non)) .nil)))
abbrev c_law_plain_due : CSs := (.cons (.fors (.nm 2) (.rng (.cst (.int 5))) (.cons (.asg (.nm 3) false (.call 36 [] (.cons (.var 0) (.cons (.var 1) .nil)))) (.cons (.ifs (.op .isnN (.cons (.var 3) .nil)) (.cons (.asg (.tp [4, 0]) false (.var 3)) (.cons (.asg (.nm 1) false (.op .dictP (.cons (.lc (.tup (.cons (.var 5) (.cons (.op .add (.cons (.sli (.op .idx (.cons (.var 1) (.cons (.var 5) .nil))) (.cst .non) (.var 4)) (.cons (.sli (.op .idx (.cons (.var 1) (.cons (.var 5) .nil))) (.op .add (.cons (.var 4) (.cons (.cst (.int 1)) .nil))) (.cst .non)) .nil))) .nil))) (.nm 5) (.seq (.var 1)) (.cst (.bl true)) [5]) .nil))) .nil)) .nil) .nil))) (.cons (.ret (.new 0 [] (.cons (.var 0) (.cons (.var 1) .nil)))) .nil))
abbrev c_law : CSs := (.cons (.fors (.nm 1) (.rng (.op .max2 (.cons (.cst (.int 1)) (.cons (.op .min2 (.cons (.cst (.int 6)) (.cons (.op .len (.cons (.var 0) .nil)) .nil))) .nil)))) (.cons (.asg (.nm 2) true (.call 16 [] (.cons (.var 0) (.cons (.var 1) .nil)))) (.cons (.fors (.nm 3) (.seq (.lst (.cons (.op .add (.cons (.cst (.int 1)) (.cons (.call 17 [true, false] (.cons (.var 2) (.cons (.cst (.int 5)) .nil))) .nil))) (.cons (.cst (.int 2)) (.cons (.cst (.int 3)) (.cons (.cst (.int 4)) (.cons (.cst (.int 5)) .nil))))))) (.cons (.par [4, 5] [false, false] (.cons (.call 19 [true, false] (.cons (.var 2) (.cons (.var 3) .nil))) (.cons (.call 35 [true, false] (.cons (.var 2) (.cons (.var 3) .nil))) .nil))) (.cons (.asg (.nm 6) false (.new 0 [] (.cons (.var 4) (.cons (.var 5) .nil)))) (.cons (.asg (.nm 7) false (.call 34 [] (.cons (.var 6) .nil))) (.cons (.ifs (.or_ (.not_ (.eqo false (.var 7) (.call 37 [] (.cons (.var 4) (.cons (.var 5) .nil))))) (.or_ (.not_ (.eqo false (.call 34 [] (.cons (.var 7) .nil)) (.var 7))) (.not_ (.eqo false (.var 6) (.new 0 [] (.cons (.var 4) (.cons (.var 5) .nil))))))) (.cons (.ret (.cst (.bl false))) .nil) .nil) .nil))))) .nil))) (.cons (.ifs (.op .ne (.cons (.prp 2 (.call 34 [] (.cons (.new 0 [] (.cons (.lst (.cons (.cst (.int 1)) (.cons (.cst (.int 1)) (.cons (.cst (.int 1)) .nil)))) (.cons (.dct (.inr "a" :: []) (.cons (.lst (.cons (.cst (.int 2)) (.cons (.cst (.int 0)) (.cons (.cst (.int 0)) (.cons (.cst (.int 3)) .nil))))) .nil)) .nil))) .nil))) (.cons (.lst (.cons (.cst (.int 3)) (.cons (.cst (.int 1)) .nil))) .nil))) (.cons (.ret (.cst (.bl false))) .nil) .nil) (.cons (.asg (.nm 8) false (.call 34 [] (.cons (.new 0 [] (.cons (.lst (.cons (.cst (.int 1)) (.cons (.cst (.int 2)) .nil))) (.cons (.dct (.inr "a" :: (.inr "b" :: [])) (.cons (.lst (.cons (.cst (.int 0)) (.cons (.cst (.int 0)) (.cons (.cst (.int 0)) .nil)))) (.cons (.lst (.cons (.cst (.int 0)) (.cons (.cst (.int 0)) (.cons (.cst (.int 0)) .nil)))) .nil))) .nil))) .nil))) (.cons (.ifs (.op .ne (.cons (.lst (.cons (.prp 2 (.var 8)) (.cons (.prp 3 (.var 8)) .nil))) (.cons (.lst (.cons (.lst .nil) (.cons (.dct (.inr "a" :: (.inr "b" :: [])) (.cons (.lst (.cons (.cst (.int 0)) .nil)) (.cons (.lst (.cons (.cst (.int 0)) .nil)) .nil))) .nil))) .nil))) (.cons (.ret (.cst (.bl false))) .nil) .nil) (.cons (.ret (.op .eq (.cons (.prp 3 (.call 34 [] (.cons (.new 0 [] (.cons (.lst (.cons (.cst (.int 0)) (.cons (.cst (.int 1)) (.cons (.cst (.int 3)) .nil)))) (.cons (.dct (.inr "a" :: []) (.cons (.lst (.cons (.cst (.int 0)) (.cons (.cst (.int 5)) (.cons (.cst (.int 0)) (.cons (.cst (.int 0)) .nil))))) .nil)) .nil))) .nil))) (.cons (.dct (.inr "a" :: []) (.cons (.lst (.cons (.cst (.int 5)) .nil)) .nil)) .nil)))) .nil)))))
def fdT : Nat → Option FDef
  | 0 => some (.body 1 1 c_is_int)
  | 1 => some (.body 3 3 c_is_whole)
  | 2 => some (.body 1 1 c_is_time)
  | 3 => some (.body 1 2 c_is_name)
  | 4 => some (.body 1 2 c_valid_places)
  | 5 => some (.body 2 5 c_require_kinds)
  | 6 => some (.body 3 5 c_Line_init)
  | 7 => some (.body 1 1 c_Line_places)
  | 8 => some (.body 1 3 c_Line_kinds)
  | 10 => some (.body 1 1 c_Line_stations)
  | 11 => some (.body 2 2 c_Line_eq)
  | 26 => some (.body 1 1 c_require_line)
  | 32 => some (.body 3 4 c_is_needless)
  | 33 => some (.body 2 2 c_places_without)
  | 34 => some (.body 1 6 c_plain)
  | 16 => some (.body 2 3 c_law_wound)
  | 17 => some (.body 2 4 c_law_spin)
  | 18 => some (.body 2 4 c_law_mixed)
  | 19 => some (.body 2 4 c_law_some_room)
  | 20 => some (.body 3 6 c_law_some_kinds)
  | 35 => some (.body 2 9 c_law_idle_kinds)
  | 36 => some (.body 2 5 c_law_next)
  | 37 => some (.body 2 6 c_law_plain_due)
  | 25 => some (.body 1 9 c_law)
  | _ => none
def glT : Nat → D
  | 4 => .int 6
  | 0 => .int 1000000000000000000000000000000
  | 3 => .int 10
  | 2 => .int 3
  | 1 => .int 5
  | _ => .non
abbrev mtL : List (Nat × Nat × Nat) := [(0, 0, 6), (0, 2, 7), (0, 3, 8), (0, 5, 10), (0, 1, 11)]
abbrev flL : List (Nat × Nat) := [(0, 0), (0, 1)]
def Pr : Pg := ⟨fdT, glT, mtOf mtL, flOf flL⟩
end L03

set_option Elab.async false
set_option linter.all false
set_option maxRecDepth 100000
set_option maxHeartbeats 4000000
namespace L03
open PySem
open PV LN RL CM M03
open L2 (Key)
local macro_rules | `(tactic| walk_at "pv") => `(tactic| simp (config := { decide := false, implicitDefEqProofs := false, maxSteps := 1000000 }) only [intsOf_map, strsOf_map, boolsOf_rep, all_rep, List.length_replicate, List.length_map, wEqo_obj, setF, getF, keyD_inl, keyD_inr, keyOf_int, List.set_cons_zero, List.set_cons_succ, List.set_nil, wC, wNew, wNw_ok, back_nil, back_f, back_n, back_vf, back_vo, backS_ow, backT_ow, backT_pw, notV_f, notV_n, wp_fok, wMut_eq, wE_cst, wE_var, wE_glb, wEs_nil, wEs_cons, wE_op, wE_and, wE_or, wE_not, wE_ite, wE_chn, wE_lst, wE_tup, wE_lstS, wA_nil, wA_cons, wE_dctN, wE_dct, wE_fld, wE_call, wE_prp, wE_mth, wE_new, wE_eqo, wE_eql, wE_sli, wE_mut, wE_lc, wE_dc, wI_seq, wI_rng, wI_rng2, wI_itm, wI_val, wI_zip, wI_enm, wBd_non, wBd_int, wBd_var, wBd_op, wPart_int, wInt_int, wIt_lst, wIt_tup, wIt_dct, wIt_str, wDct_dct, wLst_lst, wFld_obj, wM_obj, wEqo_obj, wEql_n, wO_some, wO_none, wO_bind, wO_map, wO_ite, wSs_nil, wB_bl, wK_t, wK_f, wV_fz, wV_ow, wV_pw, wV_no, wD_f, wD_n, wD_v, wDv_ow, wDv_fz, wDs_nil, wDs_cons, wRet_f, wRet_n, wRet_v, wRv_ow, wRv_fz, wAug_f, wFz_fz, wFset_obj, slotAt_nil, slotAt_zero, slotAt_succ, set_zero, set_succ, set_nil, rd_f, rd_n, rd_v, rdS_ow, rdS_pw, rdS_fz, rds_nil, rds_cons, ownAt_eq, ownS_ow, ownS_pw, putOwn_eq, putS_ow, putS_pw, setS_eq, npw_fz, npw_ow, npw_no, npw_pw, store_n, store_f, store_nf, store_v, tgt_nm, tgt_tp, tgt_tq, setMany_nil, setMany_cons, setQ_nil, setQ_cons, setQ_tup, prep_nil, prep_nt, prep_nf, prep_f, prep_v, storeAll_nil, storeAll_f, storeAll_n, lend_nil, lend_f, lend_n, lend_vt, lend_vf, lend_v0, lendS_ow, lendS_pw, lendS_fz, isLst_lst, opAug_int, oEq_int, oEq_str, oEq_lnil, oEq_bl, oq_add_int, oq_add_str, oq_add_lst, oq_add_tup, oq_sub_int, oq_mul_int, oq_mul_lst, oq_fdv_int, oq_mod_int, oq_pow_int, oq_shl_int, oq_neg_int, oq_lt_int, oq_le_int, oq_gt_int, oq_ge_int, oq_eq, oq_ne, oq_isN, oq_isnN, oq_in, oq_nin, oIn_lst, oIn_tup, oIn_dct, oIn_str, keyOf_int, keyOf_str, oq_idx_lst, oq_idx_tup, oq_idx_dct, oq_idx_str, oq_rev_lst, oq_len_lst, oq_len_tup, oq_len_dct, oq_len_str, oq_int_int, oq_int_bl, oq_max2, oq_min2, oq_sum, oq_list_lst, oq_list_tup, oq_list_dct, oq_tuple_lst, oq_tuple_tup, oq_sorted_dct, oq_sorted_lst, oq_all, oq_any, oq_abs, oq_dvm, oq_dictP_lst, oq_dictP_dct, oq_isInt, oq_isBool, oq_isStr, oq_isList, oq_isTuple, oq_isDict, oq_isObj, oObj_obj, oTy_non, oTy_int, oTy_bl, oTy_str, oTy_lst, oTy_tup, oTy_dct, dInt_int, dInt_bl, dInt_str, dInt_lst, dInt_non, dBool_int, dBool_bl, dStr_str, dStr_int, dList_lst, dList_tup, dTuple_tup, dTuple_lst, dDict_dct, isNone_non, isNone_int, isNone_lst, isNone_tup, isNone_str, at_0, at_1, at_2, at_3, at_4, ixOf_0, ixOf_1, ixOf_2, setD_lst, setD_dct, mut_append, mut_extend, mut_pop, mut_popAt, mut_clear, spread_f, spread_lst, spread_tup, sliD_lst, sliD_tup, wipeE_nil, wipeE_cons, unwipe_nil, unwipe_cons, wMut_eq, at_m1, List.getElem?_cons_zero, List.getElem?_cons_succ, List.headD_cons, List.headD_nil, List.tail_cons, List.tail_nil, List.nil_append, List.cons_append, List.append_nil, List.length_cons, List.length_nil, List.not_mem_nil, List.mem_cons, not_false_eq_true, true_and, and_true, if_true, if_false, reduceIte, reduceCtorEq, Bool.not_true, Bool.not_false, Nat.reduceAdd, Nat.reduceLT, Nat.reduceLeDiff, Option.isSome_some, or_false, false_or, Nat.reduceEqDiff, Bool.false_xor, Bool.true_xor, and_self, decide_true, decide_false])
local macro_rules | `(tactic| walk_at "pvs") => `(tactic| simp (config := { decide := false, implicitDefEqProofs := false, maxSteps := 1000000 }) only [wSs_cons, wS_asg, wS_asgT, wS_asgQ, wS_par, wS_aug, wS_sset, wS_fset, wS_exp, wS_ret, wS_retN, wS_ifs, wS_pass, wS_brk, wS_cnt, wS_wall, wS_fors, wS_whl, wFor_nil, kOf_nx, kOf_rt, List.take_succ_cons, List.take_zero, List.map_cons, List.map_nil, outS_fz, outS_ow, outS_pw, outS_no, intsOf_map, strsOf_map, boolsOf_rep, all_rep, List.length_replicate, List.length_map, wEqo_obj, setF, getF, keyD_inl, keyD_inr, keyOf_int, List.set_cons_zero, List.set_cons_succ, List.set_nil, wC, wNew, wNw_ok, back_nil, back_f, back_n, back_vf, back_vo, backS_ow, backT_ow, backT_pw, notV_f, notV_n, wp_fok, wMut_eq, wE_cst, wE_var, wE_glb, wEs_nil, wEs_cons, wE_op, wE_and, wE_or, wE_not, wE_ite, wE_chn, wE_lst, wE_tup, wE_lstS, wA_nil, wA_cons, wE_dctN, wE_dct, wE_fld, wE_call, wE_prp, wE_mth, wE_new, wE_eqo, wE_eql, wE_sli, wE_mut, wE_lc, wE_dc, wI_seq, wI_rng, wI_rng2, wI_itm, wI_val, wI_zip, wI_enm, wBd_non, wBd_int, wBd_var, wBd_op, wPart_int, wInt_int, wIt_lst, wIt_tup, wIt_dct, wIt_str, wDct_dct, wLst_lst, wFld_obj, wM_obj, wEqo_obj, wEql_n, wO_some, wO_none, wO_bind, wO_map, wO_ite, wSs_nil, wB_bl, wK_t, wK_f, wV_fz, wV_ow, wV_pw, wV_no, wD_f, wD_n, wD_v, wDv_ow, wDv_fz, wDs_nil, wDs_cons, wRet_f, wRet_n, wRet_v, wRv_ow, wRv_fz, wAug_f, wFz_fz, wFset_obj, slotAt_nil, slotAt_zero, slotAt_succ, set_zero, set_succ, set_nil, rd_f, rd_n, rd_v, rdS_ow, rdS_pw, rdS_fz, rds_nil, rds_cons, ownAt_eq, ownS_ow, ownS_pw, putOwn_eq, putS_ow, putS_pw, setS_eq, npw_fz, npw_ow, npw_no, npw_pw, store_n, store_f, store_nf, store_v, tgt_nm, tgt_tp, tgt_tq, setMany_nil, setMany_cons, setQ_nil, setQ_cons, setQ_tup, prep_nil, prep_nt, prep_nf, prep_f, prep_v, storeAll_nil, storeAll_f, storeAll_n, lend_nil, lend_f, lend_n, lend_vt, lend_vf, lend_v0, lendS_ow, lendS_pw, lendS_fz, isLst_lst, opAug_int, oEq_int, oEq_str, oEq_lnil, oEq_bl, oq_add_int, oq_add_str, oq_add_lst, oq_add_tup, oq_sub_int, oq_mul_int, oq_mul_lst, oq_fdv_int, oq_mod_int, oq_pow_int, oq_shl_int, oq_neg_int, oq_lt_int, oq_le_int, oq_gt_int, oq_ge_int, oq_eq, oq_ne, oq_isN, oq_isnN, oq_in, oq_nin, oIn_lst, oIn_tup, oIn_dct, oIn_str, keyOf_int, keyOf_str, oq_idx_lst, oq_idx_tup, oq_idx_dct, oq_idx_str, oq_rev_lst, oq_len_lst, oq_len_tup, oq_len_dct, oq_len_str, oq_int_int, oq_int_bl, oq_max2, oq_min2, oq_sum, oq_list_lst, oq_list_tup, oq_list_dct, oq_tuple_lst, oq_tuple_tup, oq_sorted_dct, oq_sorted_lst, oq_all, oq_any, oq_abs, oq_dvm, oq_dictP_lst, oq_dictP_dct, oq_isInt, oq_isBool, oq_isStr, oq_isList, oq_isTuple, oq_isDict, oq_isObj, oObj_obj, oTy_non, oTy_int, oTy_bl, oTy_str, oTy_lst, oTy_tup, oTy_dct, dInt_int, dInt_bl, dInt_str, dInt_lst, dInt_non, dBool_int, dBool_bl, dStr_str, dStr_int, dList_lst, dList_tup, dTuple_tup, dTuple_lst, dDict_dct, isNone_non, isNone_int, isNone_lst, isNone_tup, isNone_str, at_0, at_1, at_2, at_3, at_4, ixOf_0, ixOf_1, ixOf_2, setD_lst, setD_dct, mut_append, mut_extend, mut_pop, mut_popAt, mut_clear, spread_f, spread_lst, spread_tup, sliD_lst, sliD_tup, wipeE_nil, wipeE_cons, unwipe_nil, unwipe_cons, wMut_eq, at_m1, List.getElem?_cons_zero, List.getElem?_cons_succ, List.headD_cons, List.headD_nil, List.tail_cons, List.tail_nil, List.nil_append, List.cons_append, List.append_nil, List.length_cons, List.length_nil, List.not_mem_nil, List.mem_cons, not_false_eq_true, true_and, and_true, if_true, if_false, reduceIte, reduceCtorEq, Bool.not_true, Bool.not_false, Nat.reduceAdd, Nat.reduceLT, Nat.reduceLeDiff, Option.isSome_some, or_false, false_or, Nat.reduceEqDiff, Bool.false_xor, Bool.true_xor, and_self, decide_true, decide_false])
local macro_rules | `(tactic| walk_at "pv0") => `(tactic| simp (config := { decide := false, implicitDefEqProofs := false, maxSteps := 1000000 }) only [List.map_cons, List.map_nil, inS_ow, inS_fz, List.length_cons, List.length_nil, List.replicate_succ, List.replicate_zero, Nat.reduceAdd, Nat.reduceSub, List.cons_append, List.nil_append, Nat.zero_add])
local macro_rules | `(tactic| wp_walk using $ts,*) => `(tactic| simp (config := { decide := false, implicitDefEqProofs := false, maxSteps := 1000000 }) only [wSs_cons, wS_asg, wS_asgT, wS_asgQ, wS_par, wS_aug, wS_sset, wS_fset, wS_exp, wS_ret, wS_retN, wS_ifs, wS_pass, wS_brk, wS_cnt, wS_wall, wS_fors, wS_whl, wFor_nil, kOf_nx, kOf_rt, List.take_succ_cons, List.take_zero, List.map_cons, List.map_nil, outS_fz, outS_ow, outS_pw, outS_no, intsOf_map, strsOf_map, boolsOf_rep, all_rep, List.length_replicate, List.length_map, wEqo_obj, setF, getF, keyD_inl, keyD_inr, keyOf_int, List.set_cons_zero, List.set_cons_succ, List.set_nil, wC, wNew, wNw_ok, back_nil, back_f, back_n, back_vf, back_vo, backS_ow, backT_ow, backT_pw, notV_f, notV_n, wp_fok, wMut_eq, wE_cst, wE_var, wE_glb, wEs_nil, wEs_cons, wE_op, wE_and, wE_or, wE_not, wE_ite, wE_chn, wE_lst, wE_tup, wE_lstS, wA_nil, wA_cons, wE_dctN, wE_dct, wE_fld, wE_call, wE_prp, wE_mth, wE_new, wE_eqo, wE_eql, wE_sli, wE_mut, wE_lc, wE_dc, wI_seq, wI_rng, wI_rng2, wI_itm, wI_val, wI_zip, wI_enm, wBd_non, wBd_int, wBd_var, wBd_op, wPart_int, wInt_int, wIt_lst, wIt_tup, wIt_dct, wIt_str, wDct_dct, wLst_lst, wFld_obj, wM_obj, wEqo_obj, wEql_n, wO_some, wO_none, wO_bind, wO_map, wO_ite, wSs_nil, wB_bl, wK_t, wK_f, wV_fz, wV_ow, wV_pw, wV_no, wD_f, wD_n, wD_v, wDv_ow, wDv_fz, wDs_nil, wDs_cons, wRet_f, wRet_n, wRet_v, wRv_ow, wRv_fz, wAug_f, wFz_fz, wFset_obj, slotAt_nil, slotAt_zero, slotAt_succ, set_zero, set_succ, set_nil, rd_f, rd_n, rd_v, rdS_ow, rdS_pw, rdS_fz, rds_nil, rds_cons, ownAt_eq, ownS_ow, ownS_pw, putOwn_eq, putS_ow, putS_pw, setS_eq, npw_fz, npw_ow, npw_no, npw_pw, store_n, store_f, store_nf, store_v, tgt_nm, tgt_tp, tgt_tq, setMany_nil, setMany_cons, setQ_nil, setQ_cons, setQ_tup, prep_nil, prep_nt, prep_nf, prep_f, prep_v, storeAll_nil, storeAll_f, storeAll_n, lend_nil, lend_f, lend_n, lend_vt, lend_vf, lend_v0, lendS_ow, lendS_pw, lendS_fz, isLst_lst, opAug_int, oEq_int, oEq_str, oEq_lnil, oEq_bl, oq_add_int, oq_add_str, oq_add_lst, oq_add_tup, oq_sub_int, oq_mul_int, oq_mul_lst, oq_fdv_int, oq_mod_int, oq_pow_int, oq_shl_int, oq_neg_int, oq_lt_int, oq_le_int, oq_gt_int, oq_ge_int, oq_eq, oq_ne, oq_isN, oq_isnN, oq_in, oq_nin, oIn_lst, oIn_tup, oIn_dct, oIn_str, keyOf_int, keyOf_str, oq_idx_lst, oq_idx_tup, oq_idx_dct, oq_idx_str, oq_rev_lst, oq_len_lst, oq_len_tup, oq_len_dct, oq_len_str, oq_int_int, oq_int_bl, oq_max2, oq_min2, oq_sum, oq_list_lst, oq_list_tup, oq_list_dct, oq_tuple_lst, oq_tuple_tup, oq_sorted_dct, oq_sorted_lst, oq_all, oq_any, oq_abs, oq_dvm, oq_dictP_lst, oq_dictP_dct, oq_isInt, oq_isBool, oq_isStr, oq_isList, oq_isTuple, oq_isDict, oq_isObj, oObj_obj, oTy_non, oTy_int, oTy_bl, oTy_str, oTy_lst, oTy_tup, oTy_dct, dInt_int, dInt_bl, dInt_str, dInt_lst, dInt_non, dBool_int, dBool_bl, dStr_str, dStr_int, dList_lst, dList_tup, dTuple_tup, dTuple_lst, dDict_dct, isNone_non, isNone_int, isNone_lst, isNone_tup, isNone_str, at_0, at_1, at_2, at_3, at_4, ixOf_0, ixOf_1, ixOf_2, setD_lst, setD_dct, mut_append, mut_extend, mut_pop, mut_popAt, mut_clear, spread_f, spread_lst, spread_tup, sliD_lst, sliD_tup, wipeE_nil, wipeE_cons, unwipe_nil, unwipe_cons, wMut_eq, at_m1, List.getElem?_cons_zero, List.getElem?_cons_succ, List.headD_cons, List.headD_nil, List.tail_cons, List.tail_nil, List.nil_append, List.cons_append, List.append_nil, List.length_cons, List.length_nil, List.not_mem_nil, List.mem_cons, not_false_eq_true, true_and, and_true, if_true, if_false, reduceIte, reduceCtorEq, Bool.not_true, Bool.not_false, Nat.reduceAdd, Nat.reduceLT, Nat.reduceLeDiff, Option.isSome_some, or_false, false_or, Nat.reduceEqDiff, Bool.false_xor, Bool.true_xor, and_self, decide_true, decide_false, $[$ts:term],*])
local macro_rules | `(tactic| walk_at "pv1") => `(tactic| simp (config := { decide := false, implicitDefEqProofs := false, maxSteps := 1000000 }) only [wS_asg, wS_asgT, wS_asgQ, wS_par, wS_aug, wS_sset, wS_fset, wS_exp, wS_ret, wS_retN, wS_ifs, wS_pass, wS_brk, wS_cnt, wS_wall, wS_fors, wS_whl, wFor_nil, kOf_nx, kOf_rt, List.take_succ_cons, List.take_zero, List.map_cons, List.map_nil, outS_fz, outS_ow, outS_pw, outS_no, intsOf_map, strsOf_map, boolsOf_rep, all_rep, List.length_replicate, List.length_map, wEqo_obj, setF, getF, keyD_inl, keyD_inr, keyOf_int, List.set_cons_zero, List.set_cons_succ, List.set_nil, wC, wNew, wNw_ok, back_nil, back_f, back_n, back_vf, back_vo, backS_ow, backT_ow, backT_pw, notV_f, notV_n, wp_fok, wMut_eq, wE_cst, wE_var, wE_glb, wEs_nil, wEs_cons, wE_op, wE_and, wE_or, wE_not, wE_ite, wE_chn, wE_lst, wE_tup, wE_lstS, wA_nil, wA_cons, wE_dctN, wE_dct, wE_fld, wE_call, wE_prp, wE_mth, wE_new, wE_eqo, wE_eql, wE_sli, wE_mut, wE_lc, wE_dc, wI_seq, wI_rng, wI_rng2, wI_itm, wI_val, wI_zip, wI_enm, wBd_non, wBd_int, wBd_var, wBd_op, wPart_int, wInt_int, wIt_lst, wIt_tup, wIt_dct, wIt_str, wDct_dct, wLst_lst, wFld_obj, wM_obj, wEqo_obj, wEql_n, wO_some, wO_none, wO_bind, wO_map, wO_ite, wSs_nil, wB_bl, wK_t, wK_f, wV_fz, wV_ow, wV_pw, wV_no, wD_f, wD_n, wD_v, wDv_ow, wDv_fz, wDs_nil, wDs_cons, wRet_f, wRet_n, wRet_v, wRv_ow, wRv_fz, wAug_f, wFz_fz, wFset_obj, slotAt_nil, slotAt_zero, slotAt_succ, set_zero, set_succ, set_nil, rd_f, rd_n, rd_v, rdS_ow, rdS_pw, rdS_fz, rds_nil, rds_cons, ownAt_eq, ownS_ow, ownS_pw, putOwn_eq, putS_ow, putS_pw, setS_eq, npw_fz, npw_ow, npw_no, npw_pw, store_n, store_f, store_nf, store_v, tgt_nm, tgt_tp, tgt_tq, setMany_nil, setMany_cons, setQ_nil, setQ_cons, setQ_tup, prep_nil, prep_nt, prep_nf, prep_f, prep_v, storeAll_nil, storeAll_f, storeAll_n, lend_nil, lend_f, lend_n, lend_vt, lend_vf, lend_v0, lendS_ow, lendS_pw, lendS_fz, isLst_lst, opAug_int, oEq_int, oEq_str, oEq_lnil, oEq_bl, oq_add_int, oq_add_str, oq_add_lst, oq_add_tup, oq_sub_int, oq_mul_int, oq_mul_lst, oq_fdv_int, oq_mod_int, oq_pow_int, oq_shl_int, oq_neg_int, oq_lt_int, oq_le_int, oq_gt_int, oq_ge_int, oq_eq, oq_ne, oq_isN, oq_isnN, oq_in, oq_nin, oIn_lst, oIn_tup, oIn_dct, oIn_str, keyOf_int, keyOf_str, oq_idx_lst, oq_idx_tup, oq_idx_dct, oq_idx_str, oq_rev_lst, oq_len_lst, oq_len_tup, oq_len_dct, oq_len_str, oq_int_int, oq_int_bl, oq_max2, oq_min2, oq_sum, oq_list_lst, oq_list_tup, oq_list_dct, oq_tuple_lst, oq_tuple_tup, oq_sorted_dct, oq_sorted_lst, oq_all, oq_any, oq_abs, oq_dvm, oq_dictP_lst, oq_dictP_dct, oq_isInt, oq_isBool, oq_isStr, oq_isList, oq_isTuple, oq_isDict, oq_isObj, oObj_obj, oTy_non, oTy_int, oTy_bl, oTy_str, oTy_lst, oTy_tup, oTy_dct, dInt_int, dInt_bl, dInt_str, dInt_lst, dInt_non, dBool_int, dBool_bl, dStr_str, dStr_int, dList_lst, dList_tup, dTuple_tup, dTuple_lst, dDict_dct, isNone_non, isNone_int, isNone_lst, isNone_tup, isNone_str, at_0, at_1, at_2, at_3, at_4, ixOf_0, ixOf_1, ixOf_2, setD_lst, setD_dct, mut_append, mut_extend, mut_pop, mut_popAt, mut_clear, spread_f, spread_lst, spread_tup, sliD_lst, sliD_tup, wipeE_nil, wipeE_cons, unwipe_nil, unwipe_cons, wMut_eq, at_m1, List.getElem?_cons_zero, List.getElem?_cons_succ, List.headD_cons, List.headD_nil, List.tail_cons, List.tail_nil, List.nil_append, List.cons_append, List.append_nil, List.length_cons, List.length_nil, List.not_mem_nil, List.mem_cons, not_false_eq_true, true_and, and_true, if_true, if_false, reduceIte, reduceCtorEq, Bool.not_true, Bool.not_false, Nat.reduceAdd, Nat.reduceLT, Nat.reduceLeDiff, Option.isSome_some, or_false, false_or, Nat.reduceEqDiff, Bool.false_xor, Bool.true_xor, and_self, decide_true, decide_false])
local macro_rules | `(tactic| wp_walk using 1, $ts,*) => `(tactic| simp (config := { decide := false, implicitDefEqProofs := false, maxSteps := 1000000 }) only [wS_asg, wS_asgT, wS_asgQ, wS_par, wS_aug, wS_sset, wS_fset, wS_exp, wS_ret, wS_retN, wS_ifs, wS_pass, wS_brk, wS_cnt, wS_wall, wS_fors, wS_whl, wFor_nil, kOf_nx, kOf_rt, List.take_succ_cons, List.take_zero, List.map_cons, List.map_nil, outS_fz, outS_ow, outS_pw, outS_no, intsOf_map, strsOf_map, boolsOf_rep, all_rep, List.length_replicate, List.length_map, wEqo_obj, setF, getF, keyD_inl, keyD_inr, keyOf_int, List.set_cons_zero, List.set_cons_succ, List.set_nil, wC, wNew, wNw_ok, back_nil, back_f, back_n, back_vf, back_vo, backS_ow, backT_ow, backT_pw, notV_f, notV_n, wp_fok, wMut_eq, wE_cst, wE_var, wE_glb, wEs_nil, wEs_cons, wE_op, wE_and, wE_or, wE_not, wE_ite, wE_chn, wE_lst, wE_tup, wE_lstS, wA_nil, wA_cons, wE_dctN, wE_dct, wE_fld, wE_call, wE_prp, wE_mth, wE_new, wE_eqo, wE_eql, wE_sli, wE_mut, wE_lc, wE_dc, wI_seq, wI_rng, wI_rng2, wI_itm, wI_val, wI_zip, wI_enm, wBd_non, wBd_int, wBd_var, wBd_op, wPart_int, wInt_int, wIt_lst, wIt_tup, wIt_dct, wIt_str, wDct_dct, wLst_lst, wFld_obj, wM_obj, wEqo_obj, wEql_n, wO_some, wO_none, wO_bind, wO_map, wO_ite, wSs_nil, wB_bl, wK_t, wK_f, wV_fz, wV_ow, wV_pw, wV_no, wD_f, wD_n, wD_v, wDv_ow, wDv_fz, wDs_nil, wDs_cons, wRet_f, wRet_n, wRet_v, wRv_ow, wRv_fz, wAug_f, wFz_fz, wFset_obj, slotAt_nil, slotAt_zero, slotAt_succ, set_zero, set_succ, set_nil, rd_f, rd_n, rd_v, rdS_ow, rdS_pw, rdS_fz, rds_nil, rds_cons, ownAt_eq, ownS_ow, ownS_pw, putOwn_eq, putS_ow, putS_pw, setS_eq, npw_fz, npw_ow, npw_no, npw_pw, store_n, store_f, store_nf, store_v, tgt_nm, tgt_tp, tgt_tq, setMany_nil, setMany_cons, setQ_nil, setQ_cons, setQ_tup, prep_nil, prep_nt, prep_nf, prep_f, prep_v, storeAll_nil, storeAll_f, storeAll_n, lend_nil, lend_f, lend_n, lend_vt, lend_vf, lend_v0, lendS_ow, lendS_pw, lendS_fz, isLst_lst, opAug_int, oEq_int, oEq_str, oEq_lnil, oEq_bl, oq_add_int, oq_add_str, oq_add_lst, oq_add_tup, oq_sub_int, oq_mul_int, oq_mul_lst, oq_fdv_int, oq_mod_int, oq_pow_int, oq_shl_int, oq_neg_int, oq_lt_int, oq_le_int, oq_gt_int, oq_ge_int, oq_eq, oq_ne, oq_isN, oq_isnN, oq_in, oq_nin, oIn_lst, oIn_tup, oIn_dct, oIn_str, keyOf_int, keyOf_str, oq_idx_lst, oq_idx_tup, oq_idx_dct, oq_idx_str, oq_rev_lst, oq_len_lst, oq_len_tup, oq_len_dct, oq_len_str, oq_int_int, oq_int_bl, oq_max2, oq_min2, oq_sum, oq_list_lst, oq_list_tup, oq_list_dct, oq_tuple_lst, oq_tuple_tup, oq_sorted_dct, oq_sorted_lst, oq_all, oq_any, oq_abs, oq_dvm, oq_dictP_lst, oq_dictP_dct, oq_isInt, oq_isBool, oq_isStr, oq_isList, oq_isTuple, oq_isDict, oq_isObj, oObj_obj, oTy_non, oTy_int, oTy_bl, oTy_str, oTy_lst, oTy_tup, oTy_dct, dInt_int, dInt_bl, dInt_str, dInt_lst, dInt_non, dBool_int, dBool_bl, dStr_str, dStr_int, dList_lst, dList_tup, dTuple_tup, dTuple_lst, dDict_dct, isNone_non, isNone_int, isNone_lst, isNone_tup, isNone_str, at_0, at_1, at_2, at_3, at_4, ixOf_0, ixOf_1, ixOf_2, setD_lst, setD_dct, mut_append, mut_extend, mut_pop, mut_popAt, mut_clear, spread_f, spread_lst, spread_tup, sliD_lst, sliD_tup, wipeE_nil, wipeE_cons, unwipe_nil, unwipe_cons, wMut_eq, at_m1, List.getElem?_cons_zero, List.getElem?_cons_succ, List.headD_cons, List.headD_nil, List.tail_cons, List.tail_nil, List.nil_append, List.cons_append, List.append_nil, List.length_cons, List.length_nil, List.not_mem_nil, List.mem_cons, not_false_eq_true, true_and, and_true, if_true, if_false, reduceIte, reduceCtorEq, Bool.not_true, Bool.not_false, Nat.reduceAdd, Nat.reduceLT, Nat.reduceLeDiff, Option.isSome_some, or_false, false_or, Nat.reduceEqDiff, Bool.false_xor, Bool.true_xor, and_self, decide_true, decide_false, $[$ts:term],*])

theorem ln : LN.Ok Pr where
  is_int := rfl
  is_whole := rfl
  is_time := rfl
  is_name := rfl
  valid_places := rfl
  require_kinds := rfl
  Line_init := rfl
  Line_places := rfl
  Line_kinds := rfl
  Line_eq := rfl
  require_line := rfl
  g0 := rfl
  g1 := rfl
  g2 := rfl
  g3 := rfl
  g4 := rfl
  m0 := rfl
  m1 := rfl
  m2 := rfl
  m3 := rfl
  f0 := rfl
  f1 := rfl
theorem rl : CM.HasK Pr where
  law_wound := rfl
  law_spin := rfl
  law_mixed := rfl
  law_some_room := rfl
  law_some_kinds := rfl
section
variable {n : Nat}
theorem is_needless {ps : List Int} {ks : Kinds} {s : Nat} (hk : OkK ks (ps.length + 1)) (hs : s ≤ ps.length) : runF Pr (n + 1) 32 [.fz (lI ps), .fz (.dct (kL ks)), .fz (.int s)] = .ok (.f (.bl (ndl ps ks s))) [.fz (lI ps), .fz (.dct (kL ks)), .fz (.int s)] := by
  refine FOut.get (wp_runF (bd := c_is_needless) (np := 3) (nl := 4) rfl rfl ?_)
  walk_at "pv0"
  rw [wSs_cons]
  walk_at "pv1"
  rw [List.map_map]
  have hi := hk.hi
  refine wG_mapL (fun p => .bl (decide (0 < p.2.getD s 0))) (fun p hp => ?_) ?_
  · have hl : s < p.2.length := by rw [hk.tl p hp]; omega
    have eg : p.2.getD s 0 = p.2[s] := by rw [List.getD_eq_getElem?_getD, List.getElem?_eq_getElem hl, Option.getD_some]
    rw [eg]
    wp_walk using 1, Function.comp, at_nat, List.getElem?_map, List.getElem?_eq_getElem hl, Option.map_some
  · have ea : (ks.map fun p => decide (0 < p.2.getD s 0)).any id = !idle ks s := by
      unfold idle
      rw [List.any_map, Bool.eq_iff_iff]
      simp only [List.any_eq_true, Function.comp, id, decide_eq_true_eq, Bool.not_eq_true', List.all_eq_false]
      constructor
      · rintro ⟨p, hp, h⟩
        exact ⟨p, hp, by omega⟩
      · rintro ⟨p, hp, h⟩
        have hl : s < p.2.length := by rw [hk.tl p hp]; omega
        have := hk.tr p hp _ (M03.getD_mem hl)
        exact ⟨p, hp, by omega⟩
    wp_walk using 1, boolsOf_map, ea
    refine ⟨by simp only [LIM]; omega, fun e => ?_, fun e => ?_⟩
    · rw [wSs_cons]
      walk_at "pv1"
      have e : idle ks s = false := by simpa using e
      simp [ndl, e]
    · have e : idle ks s = true := by simpa using e
      refine ⟨by simp [LIM], fun e2 => ?_, fun e2 => ?_⟩
      · rw [wSs_cons]
        walk_at "pv1"
        have e2 : ps = [] := by simpa using e2
        simp [ndl, e2]
      · have e2 : ps.isEmpty = false := by simpa using e2
        have h0 : 0 < ps.length := by cases ps with | nil => cases e2 | cons a b => simp
        rw [wSs_cons]
        wp_walk using 1, oIn_tup, D.flat, List.all_cons, List.all_nil, List.any_cons, List.any_nil, D.eqf
        refine ⟨by simp [LIM], rfl, fun e3 => ?_, fun e3 => ?_⟩
        · rw [wSs_cons]
          walk_at "pv1"
          have e3 : s = 0 ∨ s = ps.length := by
            simp only [Bool.or_false, Bool.or_eq_true, beq_iff_eq] at e3
            omega
          unfold ndl
          rw [e, e2]
          rcases e3 with rfl | rfl <;> simp
        · have e3 : s ≠ 0 ∧ s ≠ ps.length := by
            simp only [Bool.or_false, Bool.or_eq_false_iff, beq_eq_false_iff_ne, ne_eq] at e3
            omega
          obtain ⟨k, rfl⟩ : ∃ k, s = k + 1 := ⟨s - 1, by omega⟩
          have l1 : k < ps.length := by omega
          have l2 : k + 1 < ps.length := by omega
          rw [wSs_cons]
          wp_walk using 1, show ((k + 1 : Nat) : Int) - 1 = (k : Int) from by omega, at_nat, List.getElem?_map, List.getElem?_eq_getElem l1, List.getElem?_eq_getElem l2, Option.map_some, ln.g2
          unfold ndl
          rw [e, e2]
          simp [e3.2, List.getElem?_eq_getElem l1, List.getElem?_eq_getElem l2]
theorem cut_take {α : Type} {xs : List α} {i : Int} (h : 0 ≤ i) : cut xs none (some i) = xs.take i.toNat := CM.cut_take h
theorem cut_drop {α : Type} {xs : List α} {i : Int} (h : 0 ≤ i) : cut xs (some i) none = xs.drop i.toNat := by
  unfold cut slIx
  simp only
  rw [if_neg (by omega)]
  by_cases g : i.toNat ≤ xs.length
  · rw [Nat.min_eq_left g, List.take_of_length_le (by rw [List.length_drop]; omega)]
  · rw [Nat.min_eq_right (by omega), List.drop_of_length_le (Nat.le_refl _), List.drop_of_length_le (by omega), List.take_nil]
theorem cut_m1 {α : Type} {xs : List α} : cut xs none (some (-1)) = xs.dropLast := by
  unfold cut slIx
  simp only [Nat.sub_zero, List.drop_zero]
  rw [if_pos (by omega), List.dropLast_eq_take]
  congr 1
  omega
theorem places_without {ps : List Int} {s : Nat} (hs : s ≤ ps.length) (h0 : ps ≠ []) (hl : ps.length < 5) : runF Pr (n + 1) 33 [.fz (lI ps), .fz (.int s)] = .ok (.n (lI (wo ps s))) [.fz (lI ps), .fz (.int s)] := by
  refine FOut.get (wp_runF (bd := c_places_without) (np := 2) (nl := 2) rfl rfl ?_)
  walk_at "pv0"
  rw [wSs_cons]
  walk_at "pv1"
  have hp : 0 < ps.length := List.length_pos_iff.2 h0
  refine ⟨fun e => ?_, fun e => ?_⟩
  · have e : s = 0 := by simpa using e
    subst e
    rw [wSs_cons]
    wp_walk using 1, cut_drop (show (0 : Int) ≤ 1 by decide), drop_map_
    simp [wo]
  · have e : s ≠ 0 := by simpa using e
    rw [wSs_cons]
    wp_walk using 1, cut_m1
    refine ⟨fun e2 => ?_, fun e2 => ?_⟩
    · have e2 : s = ps.length := by
        have : (s : Int) = ps.length := by simpa using e2
        omega
      rw [wSs_cons]
      wp_walk using 1, cut_m1
      subst e2
      unfold wo
      rw [if_neg e, if_pos rfl]
      show Val.n (D.lst _) = Val.n (D.lst (ps.dropLast.map D.int))
      rw [List.map_dropLast]
    · have e2 : s ≠ ps.length := by
        have : ¬ (s : Int) = ps.length := by simpa using e2
        omega
      obtain ⟨k, rfl⟩ : ∃ k, s = k + 1 := ⟨s - 1, by omega⟩
      have l1 : k < ps.length := by omega
      have l2 : k + 1 < ps.length := by omega
      have x1 : ((k + 1 : Nat) : Int) - 1 = (k : Int) := by omega
      have x2 : ((k + 1 : Nat) : Int) + 1 = ((k + 2 : Nat) : Int) := by omega
      rw [wSs_cons]
      wp_walk using 1, x1, x2, cut_take (show (0 : Int) ≤ (k : Int) by omega), cut_drop (show (0 : Int) ≤ ((k + 2 : Nat) : Int) by omega), at_nat, List.getElem?_map, List.getElem?_eq_getElem l1, List.getElem?_eq_getElem l2, Option.map_some, take_map_, drop_map_, app_cons_map_, Int.toNat_natCast
      unfold wo
      rw [if_neg e, if_neg e2]
      simp [LIM, List.getElem?_eq_getElem l1, List.getElem?_eq_getElem l2]
      omega
theorem plain_ok {ps : List Int} {ks : Kinds} (hp : OkP ps) (hk : OkK ks (ps.length + 1)) : (runF Pr (n + 6) 34 [.fz (lineD ps ks)]).wp fun v os => ∃ qs ls, v = .n (lineD qs ls) ∧ os = [.fz (lineD ps ks)] ∧ End ps ks qs ls ∧ OkP qs ∧ OkK ls (qs.length + 1) := by
  refine wp_runF (bd := c_plain) (np := 1) (nl := 6) rfl rfl ?_
  walk_at "pv0"
  rw [wSs_cons]
  wp_walk using 1, LN.require_line ln
  rw [wSs_cons]
  wp_walk using 1, ln.m2, ln.m3, LN.Line_places ln, LN.Line_kinds ln hk
  rw [wSs_cons]
  walk_at "pv1"
  rw [wSs_cons]
  walk_at "pv1"
  refine wWhl_inv (fun m ρ => ∃ (qs : List Int) (ls : Kinds) (s : Nat) (s4 s5 : PV.Slot), ρ = [.fz (lineD ps ks), .fz (lI qs), .fz (.dct (kL ls)), .fz (.int s), s4, s5] ∧ npw s4 ∧ npw s5 ∧ OkP qs ∧ OkK ls (qs.length + 1) ∧ s ≤ qs.length + 1 ∧ (∀ t, t < s → ndl qs ls t = false) ∧
    (∀ us ts, End qs ls us ts → End ps ks us ts) ∧ m = 10 * qs.length + (qs.length + 1 - s)) (m := 10 * ps.length + (ps.length + 1 - 0)) ⟨ps, ks, 0, .no, .no, rfl, trivial, trivial, hp, hk, by omega, fun t h => by omega, fun _ _ h => h, rfl⟩ ?_ (by have := hp.len; simp only [TURNS]; omega)
  rintro m ρ ⟨qs, ls, s, s4, s5, rfl, n4, n5, hq, hl, hs, hn, he, rfl⟩
  walk_at "pv1"
  refine ⟨fun e => ?_, fun e => ?_⟩
  · have e : s ≤ qs.length := by
      have : (s : Int) ≤ qs.length := by simpa using e
      omega
    rw [wSs_cons]
    wp_walk using 1, is_needless hl e
    refine ⟨fun e2 => ?_, fun e2 => ?_⟩
    · have hf : isFirst qs ls s := ⟨e, e2, hn⟩
      have q0 := ndl_pos e2
      rw [wSs_cons]
      wp_walk using 1, places_without e q0 hq.len
      rw [wSs_cons]
      wp_walk using 1, n4, n5
      have x2 : (s : Int) + 1 = ((s + 1 : Nat) : Int) := by omega
      rw [kL, List.map_map]
      refine wH_mapL (l := ls) (fun p => (.inr p.1, lI (p.2.take s ++ p.2.drop (s + 1)))) (fun p hp => ?_) ?_
      · have tl := hl.tl p hp
        have ql := hq.len
        wp_walk using 1, Function.comp, x2, cut_take (show (0 : Int) ≤ (s : Int) by omega), cut_drop (show (0 : Int) ≤ ((s + 1 : Nat) : Int) by omega), Int.toNat_natCast, take_map_, drop_map_, app_map_
        simp only [List.length_take, List.length_drop, LIM]
        omega
      · have hk2 := cut_ok hl hf
        have ek : (ls.map fun p => ((.inr p.1, lI (p.2.take s ++ p.2.drop (s + 1))) : Key × D)) = kL (cutK ls s) := by rw [kL, cutK, List.map_map]; rfl
        have g1 := hl.hi
        rw [ek, putAll_nil (k_nd hk2)]
        wp_walk using 1, n4, n5
        refine ⟨by simp only [LIM, cutK, List.length_map]; omega, ?_⟩
        rw [wSs_cons]
        wp_walk using 1, n4, n5
        have := wo_len hf
        have ql := hq.len
        exact ⟨_, by omega, wo qs s, cutK ls s, 0, s4, s5, rfl, n4, n5, wo_ok hq hf, hk2, by omega, fun t h => by omega, fun us ts h => he _ _ (.step s hf h), rfl⟩
    · rw [wSs_cons]
      walk_at "pv1"
      exact ⟨_, by omega, qs, ls, s + 1, s4, s5, by rw [show ((s + 1 : Nat) : Int) = (s : Int) + 1 from by omega], n4, n5, hq, hl, by omega, fun t h => by
        by_cases q : t = s
        · rw [q]; exact e2
        · exact hn t (by omega), he, rfl⟩
  · have e : ¬ s ≤ qs.length := by
      have : ¬ (s : Int) ≤ qs.length := by simpa using e
      omega
    rw [wSs_cons]
    wp_walk using 1, ln.m0, LN.Line_init ln hq hl
    exact ⟨qs, ls, rfl, he _ _ (.done fun t ht => hn t (by omega)), hq, hl⟩
theorem sum_zero {ks : Kinds} {m s : Nat} (hk : OkK ks m) (hs : s < m) : ((ks.map fun p => p.2.getD s 0).sum = 0) ↔ idle ks s = true := by
  have h : ∀ ks : Kinds, (∀ p ∈ ks, 0 ≤ p.2.getD s 0) → (((ks.map fun p => p.2.getD s 0).sum = 0 ↔ idle ks s = true) ∧ 0 ≤ (ks.map fun p => p.2.getD s 0).sum) := by
    intro ks
    induction ks with
    | nil => intro _; simp [idle]
    | cons p r ih =>
      intro h
      have h1 := h p List.mem_cons_self
      have h2 := ih fun q hq => h q (List.mem_cons_of_mem _ hq)
      simp only [List.map_cons, List.sum_cons]
      refine ⟨?_, by omega⟩
      unfold idle at h2 ⊢
      rw [List.all_cons, Bool.and_eq_true, decide_eq_true_eq, ← h2.1]
      omega
  refine (h ks fun p hp => ?_).1
  exact (hk.tr p hp _ (M03.getD_mem (by rw [hk.tl p hp]; exact hs))).1
/-- what next tells -/
theorem next {ps : List Int} {ks : Kinds} (hp : OkP ps) (hk : OkK ks (ps.length + 1)) : (runF Pr (n + 1) 36 [.fz (lI ps), .fz (.dct (kL ks))]).wp fun v os => os = [.fz (lI ps), .fz (.dct (kL ks))] ∧ ((v = .f .non ∧ isDone ps ks) ∨ ∃ s, v = .f (.tup [.int (s : Nat), lI (wo ps s)]) ∧ isFirst ps ks s) := by
  refine wp_runF (bd := c_law_next) (np := 2) (nl := 5) rfl rfl ?_
  walk_at "pv0"
  rw [wSs_cons]
  walk_at "pv1"
  refine ⟨by simp [LIM], fun e => ?_, fun e => ?_⟩
  · rw [wSs_cons]
    walk_at "pv1"
    have e : ps = [] := by simpa using e
    exact .inl fun s hs => by simp [ndl, e]
  · have e : ps ≠ [] := by simpa using e
    have h0 : 0 < ps.length := List.length_pos_iff.2 e
    have hl := hp.len
    rw [wSs_cons]
    walk_at "pv1"
    refine ⟨by unfold small; exact decide_eq_true (by omega), ?_⟩
    have el : ((ps.length : Int) + 1).toNat = ps.length + 1 := by omega
    rw [el]
    refine wFor_rng (fun s ρ => ∃ (s2 s4 : PV.Slot), ρ = [.fz (lI ps), .fz (.dct (kL ks)), s2, .no, s4] ∧ npw s2 ∧ npw s4 ∧ ∀ t, t < s → ndl ps ks t = false) ⟨.no, .no, rfl, trivial, trivial, fun t h => by omega⟩ ?_ ?_
    · rintro s ρ hs ⟨s2, s4, rfl, n2, n4, hn⟩
      rw [Int.zero_add]
      wp_walk using 1, n2, n4
      rw [wSs_cons]
      wp_walk using 1, n2, n4
      rw [List.map_map]
      refine wG_mapL (fun p => .int (p.2.getD s 0)) (fun p hp => ?_) ?_
      · have tl : s < p.2.length := by rw [hk.tl p hp]; omega
        have e2 := lk_some hk.nd hp
        wp_walk using 1, Function.comp, look_map, e2, Option.map_some, at_nat, List.getElem?_map, List.getElem?_eq_getElem tl
        simp [List.getElem?_eq_getElem tl]
      · have g1 := hk.hi
        have e3 : ks.map (fun p => D.int (p.2.getD s 0)) = (ks.map fun p => p.2.getD s 0).map D.int := by rw [List.map_map]; rfl
        rw [e3]
        wp_walk using 1, n2, n4
        refine ⟨by simp only [LIM]; omega, fun e4 => ?_, fun e4 => ?_⟩
        · have id : idle ks s = true := (sum_zero hk (by omega)).1 (by simpa using e4)
          have nd1 : ndl ps ks s = (s == 0 || (s == ps.length || decide (ps.getD (s - 1) 0 + ps.getD s 0 + 1 ≤ 3))) := by
            unfold ndl
            rw [id, show ps.isEmpty = false from by simpa using e]
            simp
          have hf : ∀ (q : ndl ps ks s = true), isFirst ps ks s := fun q => ⟨by omega, q, hn⟩
          rw [wSs_cons]
          walk_at "pv1"
          refine ⟨fun e5 => ?_, fun e5 => ?_⟩
          · have e5 : s = 0 := by simpa using e5
            subst e5
            rw [wSs_cons]
            wp_walk using 1, cut_drop (show (0 : Int) ≤ 1 by decide), drop_map_
            refine ⟨by simp [LIM], .inr ⟨0, by simp [wo], hf (by rw [nd1]; rfl)⟩⟩
          · have e5 : s ≠ 0 := by simpa using e5
            rw [wSs_cons]
            walk_at "pv1"
            refine ⟨fun e6 => ?_, fun e6 => ?_⟩
            · have e6 : s = ps.length := by
                have : (s : Int) = ps.length := by simpa using e6
                omega
              rw [wSs_cons]
              wp_walk using 1, cut_m1
              refine ⟨by simp [LIM], .inr ⟨s, ?_, hf (by rw [nd1, e6]; simp)⟩⟩
              unfold wo
              rw [if_neg e5, if_pos e6]
              show Val.f (D.tup [D.int s, D.lst _]) = Val.f (D.tup [D.int s, D.lst (ps.dropLast.map D.int)])
              rw [List.map_dropLast]
            · have e6 : s ≠ ps.length := by
                have : ¬ (s : Int) = ps.length := by simpa using e6
                omega
              obtain ⟨k, rfl⟩ : ∃ k, s = k + 1 := ⟨s - 1, by omega⟩
              have l1 : k < ps.length := by omega
              have l2 : k + 1 < ps.length := by omega
              have x1 : ((k + 1 : Nat) : Int) - 1 = (k : Int) := by omega
              have x2 : ((k + 1 : Nat) : Int) + 1 = ((k + 2 : Nat) : Int) := by omega
              have y1 : ps.getD k 0 = ps[k] := by rw [List.getD_eq_getElem?_getD, List.getElem?_eq_getElem l1, Option.getD_some]
              have y2 : ps.getD (k + 1) 0 = ps[k + 1] := by rw [List.getD_eq_getElem?_getD, List.getElem?_eq_getElem l2, Option.getD_some]
              rw [Nat.add_sub_cancel, y1, y2] at nd1
              rw [wSs_cons]
              wp_walk using 1, x1, at_nat, List.getElem?_map, List.getElem?_eq_getElem l1, List.getElem?_eq_getElem l2, Option.map_some
              refine ⟨fun e7 => ?_, fun e7 => ?_⟩
              · have e7 : ps[k] + ps[k + 1] < 3 := by simpa using e7
                rw [wSs_cons]
                wp_walk using 1, x1, at_nat, List.getElem?_map, List.getElem?_eq_getElem l1, List.getElem?_eq_getElem l2, Option.map_some
                refine ⟨by simp [LIM], ?_⟩
                rw [wSs_cons]
                wp_walk using 1, x1, x2, cut_take (show (0 : Int) ≤ (k : Int) by omega), cut_drop (show (0 : Int) ≤ ((k + 2 : Nat) : Int) by omega), take_map_, drop_map_, Int.toNat_natCast
                refine ⟨by simp only [List.length_take, LIM]; omega, by simp only [List.length_append, List.length_map, List.length_take, List.length_drop, List.length_cons, List.length_nil, LIM]; omega, by simp [LIM], .inr ⟨k + 1, ?_, hf (by rw [nd1]; simp; omega)⟩⟩
                unfold wo
                rw [if_neg e5, if_neg e6, Nat.add_sub_cancel, y1, y2]
                simp
              · have e7 : ¬ ps[k] + ps[k + 1] < 3 := by simpa using e7
                have nf : ndl ps ks (k + 1) = false := by
                  rw [nd1]
                  simp [e6]
                  omega
                exact ⟨_, _, rfl, trivial, n4, fun t ht => by
                  by_cases q : t = k + 1
                  · rw [q]; exact nf
                  · exact hn t (by omega)⟩
        · have id : idle ks s = false := by
            cases q : idle ks s with
            | false => rfl
            | true => rw [(sum_zero hk (by omega)).2 q] at e4; cases e4
          exact ⟨_, _, rfl, trivial, n4, fun t ht => by
            by_cases q : t = s
            · rw [q]; simp [ndl, id]
            · exact hn t (by omega)⟩
    · rintro ρ ⟨s2, s4, rfl, n2, n4, hn⟩
      dsimp only
      rw [wSs_cons]
      walk_at "pv1"
      exact .inl fun s hs => hn s (by omega)
theorem plain_due {ps : List Int} {ks : Kinds} (hp : OkP ps) (hk : OkK ks (ps.length + 1)) : (runF Pr (n + 6) 37 [.fz (lI ps), .fz (.dct (kL ks))]).wp fun v os => ∃ qs ls, v = .n (lineD qs ls) ∧ (∃ a b, os = [.fz a, .fz b]) ∧ End ps ks qs ls ∧ OkP qs ∧ OkK ls (qs.length + 1) := by
  refine wp_runF (bd := c_law_plain_due) (np := 2) (nl := 6) rfl rfl ?_
  walk_at "pv0"
  rw [wSs_cons]
  walk_at "pv1"
  refine ⟨by decide, ?_⟩
  refine wFor_rng (fun i ρ => ∃ (qs : List Int) (ls : Kinds) (s2 s3 s4 s5 : PV.Slot), ρ = [.fz (lI qs), .fz (.dct (kL ls)), s2, s3, s4, s5] ∧ npw s2 ∧ npw s3 ∧ npw s4 ∧ npw s5 ∧ OkP qs ∧ OkK ls (qs.length + 1) ∧ (∀ us ts, End qs ls us ts → End ps ks us ts) ∧ (isDone qs ls ∨ qs.length + i ≤ 4)) ⟨ps, ks, _, _, _, _, rfl, trivial, trivial, trivial, trivial, hp, hk, fun _ _ h => h, .inr (by have := hp.len; omega)⟩ ?_ ?_
  · rintro i ρ hi ⟨qs, ls, s2, s3, s4, s5, rfl, n2, n3, n4, n5, hq, hl, he, hd⟩
    wp_walk using 1, n2, n3, n4, n5
    rw [wSs_cons]
    wp_walk using 1, n2, n3, n4, n5
    refine FOut.imp (next hq hl) ?_
    rintro v os ⟨rfl, ⟨rfl, h⟩ | ⟨s, rfl, h⟩⟩
    · wp_walk using 1, n2, n3, n4, n5
      rw [wSs_cons]
      wp_walk using 1, n2, n3, n4, n5
      exact ⟨qs, ls, _, _, _, _, rfl, trivial, trivial, n4, n5, hq, hl, he, .inl h⟩
    · wp_walk using 1, n2, n3, n4, n5
      rw [wSs_cons]
      wp_walk using 1, n2, n3, n4, n5
      rw [wSs_cons]
      wp_walk using 1, n2, n3, n4, n5
      rw [wSs_cons]
      wp_walk using 1, n2, n3, n4, n5
      have x2 : (s : Int) + 1 = ((s + 1 : Nat) : Int) := by omega
      have hk2 := cut_ok hl h
      have g1 := hl.hi
      have g2 := h.1
      have g3 := hq.len
      rw [List.map_map]
      refine wG_mapL (fun p => .tup [.str p.1, lI (p.2.take s ++ p.2.drop (s + 1))]) (fun p hp => ?_) ?_
      · have tl := hl.tl p hp
        have e2 := lk_some hl.nd hp
        wp_walk using 1, Function.comp, look_map, e2, Option.map_some, x2, cut_take (show (0 : Int) ≤ (s : Int) by omega), cut_drop (show (0 : Int) ≤ ((s + 1 : Nat) : Int) by omega), Int.toNat_natCast, take_map_, drop_map_, app_map_
        simp only [List.length_take, List.length_drop, LIM]
        omega
      · have ep : ∀ ls : Kinds, pairsOf (ls.map fun p => D.tup [.str p.1, lI (p.2.take s ++ p.2.drop (s + 1))]) = some (kL (cutK ls s)) := fun ls => by
          induction ls with
          | nil => rfl
          | cons p r ih =>
            rw [List.map_cons, pairsOf, ih]
            simp [keyOf, cutK, Function.comp]
        rw [ep]
        wp_walk using 1, putAll_nil (k_nd hk2), n2, n3, n4, n5
        have hw := wo_len h
        refine ⟨by simp only [LIM]; omega, wo qs s, cutK ls s, _, _, _, _, rfl, trivial, trivial, trivial, n5, wo_ok hq h, hk2, fun us ts g => he _ _ (.step s h g), ?_⟩
        rcases hd with hd | hd
        · exact (h.not hd).elim
        · exact .inr (by omega)
  · rintro ρ ⟨qs, ls, s2, s3, s4, s5, rfl, n2, n3, n4, n5, hq, hl, he, hd⟩
    dsimp only
    rw [wSs_cons]
    wp_walk using 1, ln.m0, LN.Line_init ln hq hl
    refine ⟨qs, ls, rfl, ⟨_, _, rfl⟩, he _ _ (.done ?_), hq, hl⟩
    rcases hd with hd | hd
    · exact hd
    · omega
theorem putD_old {k : Str} {ts : List Int} : ∀ {ks : Kinds}, k ∈ ks.map (·.1) → (ks.map (·.1)).Nodup → putD (Sum.inr k : Key) (lI ts) (kL ks) = kL (ks.map fun p => if p.1 = k then (p.1, ts) else p)
  | [], h, _ => by simp at h
  | p :: r, h, nd => by
    rw [List.map_cons, List.nodup_cons] at nd
    show putD (Sum.inr k : Key) (lI ts) (((.inr p.1, lI p.2) : Key × D) :: kL r) = _
    by_cases e : p.1 = k
    · have nr : ∀ q ∈ r, q.1 ≠ k := fun q hq z => nd.1 (by rw [e, ← z]; exact List.mem_map_of_mem hq)
      have er : r.map (fun q => if q.1 = k then (q.1, ts) else q) = r := by
        conv => rhs; rw [← List.map_id r]
        exact List.map_congr_left fun q hq => by simp [nr q hq]
      unfold putD
      rw [if_pos (by rw [e]), List.map_cons, if_pos e, er]
      rfl
    · have hr : k ∈ r.map (·.1) := by
        rw [List.map_cons] at h
        exact (List.mem_cons.1 h).resolve_left fun z => e z.symm
      unfold putD
      rw [if_neg (by simpa using e), putD_old hr nd.2, List.map_cons, if_neg e]
      rfl
theorem ints_of {q : Int → Prop} : ∀ {l : List D}, (∀ z ∈ l, ∃ i, z = .int i ∧ q i) → ∃ ts : List Int, l = ts.map .int ∧ ts.length = l.length ∧ ∀ t ∈ ts, q t
  | [], _ => ⟨[], rfl, rfl, by simp⟩
  | z :: r, h => by
    obtain ⟨i, rfl, hi⟩ := h z List.mem_cons_self
    obtain ⟨ts, e, el, ht⟩ := ints_of (l := r) fun y hy => h y (List.mem_cons_of_mem _ hy)
    exact ⟨i :: ts, by rw [e]; rfl, by simp [el], fun t ht' => by
      rcases List.mem_cons.1 ht' with rfl | h'
      · exact hi
      · exact ht t h'⟩
theorem idle_kinds {B : Nat} {d : D} {m : Nat} (hr : Reel B d) (hB : B + 200000 < LIMB) (m0 : 1 ≤ m) (m1 : m ≤ 5) : (runF Pr (n + 4) 35 [.ow d, .fz (.int m)]).wp fun v os => ∃ ks d', v = .n (.dct (kL ks)) ∧ os = [.ow d', .fz (.int m)] ∧ OkK ks m ∧ Reel (B + 1000) d' := by
  refine wp_runF (bd := c_law_idle_kinds) (np := 2) (nl := 9) rfl rfl ?_
  walk_at "pv0"
  rw [wSs_cons]
  walk_at "pv1"
  refine FOut.imp (some_kinds rl hr (by omega) (by omega) (by decide) (by decide)) ?_
  rintro v os ⟨ks, d1, rfl, rfl, dr, hr1⟩
  walk_at "pv1"
  rw [wSs_cons]
  walk_at "pv1"
  refine ⟨by unfold small; exact decide_eq_true (by omega), ?_⟩
  refine wG_inv (fun rest acc ρ => ∃ (is : List Int) (d2 : D), acc = is.map .int ∧ (∃ s : Nat, rest = (List.range' s (m - s)).map (fun (k : Nat) => D.int k) ∧ s ≤ m ∧ is.length ≤ s) ∧ ρ = [.pw d2, .fz (.int m), .ow (.dct (kL ks)), .no, .no, .no, .no, .no, .no] ∧ Reel (B + 200 + (m - rest.length)) d2) ⟨[], d1, rfl, ⟨0, by simp [mapRange, List.range_eq_range'], by omega, by simp⟩, rfl, hr1.mono (by omega)⟩ ?_ ?_
  · rintro x rest acc ρ ⟨is, d2, rfl, ⟨s, er, hs, il⟩, rfl, hr2⟩
    by_cases q : s = m
    · subst q
      rw [Nat.sub_self] at er
      cases er
    · rw [show m - s = (m - (s + 1)) + 1 from by omega, List.range'_succ, List.map_cons] at er
      cases er
      simp only [List.length_cons, List.length_map, List.length_range'] at hr2
      walk_at "pv1"
      refine FOut.imp (spin rl.toHas' hr2 (by omega) (by decide) (by decide)) ?_
      rintro v os ⟨r, d3, rfl, rfl, r0, r1, hr3⟩
      have hr3 : Reel (B + 200 + (m - (List.range' (s + 1) (m - (s + 1))).length)) d3 := hr3.mono (by simp only [List.length_range']; omega)
      walk_at "pv1"
      refine ⟨fun _ => ⟨is ++ [(s : Int)], d3, by simp, ⟨s + 1, rfl, by omega, by simp; omega⟩, rfl, hr3⟩, fun _ => ⟨is, d3, rfl, ⟨s + 1, rfl, by omega, by omega⟩, rfl, hr3⟩⟩
  · rintro acc ρ ⟨is, d2, rfl, ⟨s, er, hs, il⟩, rfl, hr2⟩
    have hr2 : Reel (B + 205) d2 := hr2.mono (by omega)
    walk_at "pv1"
    refine ⟨by simp only [LIM]; omega, ?_⟩
    rw [wSs_cons]
    have kk : List.map (fun p => keyD p.1) (kL ks) = (ks.map (·.1)).map D.str := by simp [keyD]
    wp_walk using 1, kk
    have lo := dr.lo
    have hi := dr.hi
    refine FOut.imp (mixed rl.toHas' hr2 (by simp; omega) (by omega)) ?_
    rintro v os ⟨ys, d3, rfl, rfl, py, hr3⟩
    obtain ⟨zs, rfl, pz⟩ := perm_strs (xs := ks.map (·.1)) py
    have zl := pz.length_eq
    simp only [List.length_map] at hr3 zl
    cases zs with
    | nil => simp at zl; omega
    | cons busy zs =>
      walk_at "pv1"
      rw [wSs_cons]
      walk_at "pv1"
      refine FOut.imp (spin rl.toHas' hr3 (by omega) (by decide) (by decide)) ?_
      rintro v os ⟨r, d4, rfl, rfl, r0, r1, hr4⟩
      walk_at "pv1"
      rw [wSs_cons]
      have sl : (ks.map (·.1)).length < 64 := by simp; omega
      wp_walk using 1, kk, sortD_strs sl
      generalize decide (r = 0) = bb
      refine wFor_all (fun ρ => ∃ (ls : Kinds) (s6 : PV.Slot), ρ = [.pw d4, .fz (.int m), .ow (.dct (kL ls)), .fz (.lst (is.map .int)), .fz (.str busy), .fz (.bl bb), s6, .no, .no] ∧ npw s6 ∧ ls.map (·.1) = ks.map (·.1) ∧ ∀ p ∈ ls, p.2.length = m ∧ ∀ t ∈ p.2, 0 ≤ t ∧ t ≤ MAX) ⟨ks, .no, rfl, trivial, rfl, fun p hp => ⟨dr.tl p hp, fun t ht => by have := dr.tr p hp t ht; simp only [MAX]; omega⟩⟩ ?_ ?_
      · intro x hx ρ
        obtain ⟨nm, hnm, rfl⟩ := List.mem_map.1 hx
        have hnm : nm ∈ ks.map (·.1) := (PV.sortStr_perm _).mem_iff.1 hnm
        rintro ⟨ls, s6, rfl, n6, en, ok⟩
        have nl : (ls.map (·.1)).Nodup := en ▸ dr.nd
        obtain ⟨ts, e1, e2⟩ := lk_of_mem (ls := ls) (k := nm) (en ▸ hnm)
        have okt := ok _ e2
        have ll : ls.length = ks.length := by have := congrArg List.length en; simpa using this
        wp_walk using 1, n6
        rw [wSs_cons]
        wp_walk using 1, n6
        have body : ∀ K : Kn, (∀ ρ, (∃ (ls : Kinds) (s6 : PV.Slot), ρ = [.pw d4, .fz (.int m), .ow (.dct (kL ls)), .fz (.lst (is.map .int)), .fz (.str busy), .fz (.bl bb), s6, .no, .no] ∧ npw s6 ∧ ls.map (·.1) = ks.map (·.1) ∧ ∀ p ∈ ls, p.2.length = m ∧ ∀ t ∈ p.2, 0 ≤ t ∧ t ≤ MAX) → K.nx ρ) →
            wSs ⟨runF Pr (n + 3), Pr.gl, Pr.mt, Pr.fl⟩ (.cons (.sset 2 (.var 6) (.lc (.ite (.op .inn (.cons (.var 7) (.cons (.var 3) .nil))) (.cst (.int 0)) (.var 8)) (.tp [7, 8]) (.enm (.op .idx (.cons (.var 2) (.cons (.var 6) .nil)))) (.cst (.bl true)) [7, 8])) .nil)
            [.pw d4, .fz (.int m), .ow (.dct (kL ls)), .fz (.lst (is.map .int)), .fz (.str busy), .fz (.bl bb), .fz (.str nm), .no, .no] K := by
          intro K hK
          have fl : (List.map D.int is).all D.flat = true := by rw [List.all_map]; simp [Function.comp, D.flat]
          rw [wSs_cons]
          wp_walk using 1, look_map, e1, Option.map_some
          refine wG_mapL (fun p => if (is.map D.int).any (fun x => D.eqf x (.int p.2)) = true then .int 0 else p.1) (fun p hp => ?_) ?_
          · wp_walk using 1, oIn_lst, D.flat, fl, Bool.true_and
            refine ⟨fun e => ?_, fun e => ?_⟩
            · rw [if_pos (by simpa using e)]
            · rw [if_neg (by simpa using e)]
          · obtain ⟨us, eu, ul, ur⟩ := ints_of (q := fun i => 0 ≤ i ∧ i ≤ MAX) (l := (List.map D.int ts).zipIdx.map fun p => if (is.map D.int).any (fun x => D.eqf x (.int p.2)) = true then .int 0 else p.1) fun z hz => by
              obtain ⟨p, hp, rfl⟩ := List.mem_map.1 hz
              split
              · exact ⟨0, rfl, by decide, by decide⟩
              · have hp := List.fst_mem_of_mem_zipIdx hp
                obtain ⟨i, hi, e⟩ := List.mem_map.1 hp
                exact ⟨i, e.symm, okt.2 i hi⟩
            have ul : us.length = m := by
              rw [ul, ← okt.1]
              simp
            rw [eu]
            wp_walk using 1, putD_old (ts := us) (en ▸ hnm) nl
            refine ⟨by simp only [LIM]; omega, by simp only [LIM]; omega, hK _ ⟨_, _, rfl, trivial, ?_, ?_⟩⟩
            · rw [← en, List.map_map]
              exact List.map_congr_left fun p _ => by simp only [Function.comp]; split <;> rfl
            · intro p hp
              obtain ⟨q, hq, rfl⟩ := List.mem_map.1 hp
              split
              · exact ⟨ul, ur⟩
              · exact ok q hq
        have skip : ∃ (ls' : Kinds) (s6 : PV.Slot), ([.pw d4, .fz (.int m), .ow (.dct (kL ls)), .fz (.lst (is.map .int)), .fz (.str busy), .fz (.bl bb), .fz (.str nm), .no, .no] : PV.Env) = [.pw d4, .fz (.int m), .ow (.dct (kL ls')), .fz (.lst (is.map .int)), .fz (.str busy), .fz (.bl bb), s6, .no, .no] ∧ npw s6 ∧ ls'.map (·.1) = ks.map (·.1) ∧ ∀ p ∈ ls', p.2.length = m ∧ ∀ t ∈ p.2, 0 ≤ t ∧ t ≤ MAX := ⟨ls, _, rfl, trivial, en, ok⟩
        exact ⟨fun _ => body _ fun _ h => h, fun _ => ⟨fun _ => body _ fun _ h => h, fun _ => skip⟩⟩
      · rintro ρ ⟨ls, s6, rfl, n6, en, ok⟩
        dsimp only
        rw [wSs_cons]
        walk_at "pv1"
        have ll : ls.length = ks.length := by have := congrArg List.length en; simpa using this
        exact ⟨ls, d4, rfl, rfl, ⟨by omega, by omega, en ▸ dr.nd, fun p hp => by
          have : p.1 ∈ ks.map (·.1) := en ▸ List.mem_map_of_mem hp
          obtain ⟨q, hq, e⟩ := List.mem_map.1 this
          exact base_nm _ (e ▸ dr.nb q hq), fun p hp => (ok p hp).1, fun p hp => (ok p hp).2⟩, hr4.mono (by omega)⟩
theorem init' {ps : List Int} {ks : Kinds} {xs : List D} (hx : xs = ps.map .int) (hp : OkP ps) (hk : OkK ks (ps.length + 1)) : runF Pr (n + 5) 6 [.ow (.obj 0 []), .fz (.lst xs), .fz (.dct (kL ks))] = .ok (.f .non) [.ow (lineD ps ks), .fz (.lst xs), .fz (.dct (kL ks))] := by
  subst hx
  exact LN.Line_init ln hp hk
theorem okK_by {ks : Kinds} {m : Nat} (h : (1 ≤ ks.length ∧ ks.length ≤ 6) ∧ (∀ p ∈ ks, p.2.length = m) ∧ (∀ p ∈ ks, ∀ t ∈ p.2, (0 : Int) ≤ t ∧ t ≤ MAX) ∧ (ks.map (·.1)).Nodup ∧ ∀ p ∈ ks, p.1 ∈ BASE) : OkK ks m :=
  ⟨h.1.1, h.1.2, h.2.2.2.1, fun p hp => base_nm _ (h.2.2.2.2 p hp), h.2.1, h.2.2.1⟩
abbrev kA : Kinds := [("a", [2, 0, 0, 3])]
abbrev kB : Kinds := [("a", [0, 0, 0]), ("b", [0, 0, 0])]
abbrev kC : Kinds := [("a", [0, 5, 0, 0])]
theorem okA : OkK kA 4 := okK_by (by decide +kernel)
theorem okB : OkK kB 3 := okK_by (by decide +kernel)
theorem okC : OkK kC 4 := okK_by (by decide +kernel)
theorem endA : End [1, 1, 1] kA [3, 1] [("a", [2, 0, 3])] := .step 1 ⟨by decide, by decide +kernel, by decide +kernel⟩ (.done (by unfold isDone; decide +kernel))
theorem endB : End [1, 2] kB [] [("a", [0]), ("b", [0])] := .step 0 ⟨by decide, by decide +kernel, by decide +kernel⟩ (.step 0 ⟨by decide, by decide +kernel, by decide +kernel⟩ (.done (by unfold isDone; decide +kernel)))
theorem endC : End [0, 1, 3] kC [] [("a", [5])] := .step 0 ⟨by decide, by decide +kernel, by decide +kernel⟩ (.step 2 ⟨by decide, by decide +kernel, by decide +kernel⟩ (.step 1 ⟨by decide, by decide +kernel, by decide +kernel⟩ (.done (by unfold isDone; decide +kernel))))
theorem law {ns : List Int} : (runF Pr (n + 8) 25 [.fz (.lst (ns.map .int))]).wp fun v _ => v = .f (.bl true) := by
  refine wp_runF (bd := c_law) (np := 1) (nl := 9) rfl rfl ?_
  walk_at "pv0"
  rw [wSs_cons]
  walk_at "pv1"
  obtain ⟨cells, ec, hc⟩ : ∃ cells : Nat, (if (if (ns.length : Int) < 6 then (ns.length : Int) else 6) > 1 then if (ns.length : Int) < 6 then (ns.length : Int) else 6 else 1) = (cells : Int) ∧ cells ≤ 6 := by
    refine ⟨(if (if (ns.length : Int) < 6 then (ns.length : Int) else 6) > 1 then if (ns.length : Int) < 6 then (ns.length : Int) else 6 else 1).toNat, ?_, ?_⟩ <;> split <;> (try split) <;> omega
  rw [ec]
  refine ⟨by unfold small; exact decide_eq_true (by omega), ?_⟩
  refine wFor_all (fun ρ => ∃ s1 s2 s3 s4 s5 s6 s7, ρ = [.fz (.lst (ns.map .int)), s1, s2, s3, s4, s5, s6, s7, .no] ∧ npw s1 ∧ npw s2 ∧ npw s3 ∧ npw s4 ∧ npw s5 ∧ npw s6 ∧ npw s7) ⟨_, _, _, _, _, _, _, rfl, trivial, trivial, trivial, trivial, trivial, trivial, trivial⟩ ?_ ?_
  · intro d hd ρ
    obtain ⟨k, hk, rfl⟩ := mem_mapRange hd
    rintro ⟨s1, s2, s3, s4, s5, s6, s7, rfl, n1, n2, n3, n4, n5, n6, n7⟩
    rw [Int.zero_add]
    wp_walk using 1, n1, n2, n3
    rw [wSs_cons]
    wp_walk using 1, n1, n2, n3
    refine FOut.imp (wound rl.toHas' (show k < 100 by omega)) ?_
    rintro v os ⟨d', rfl, rfl, hr⟩
    wp_walk using 1, n1, n2, n3
    rw [wSs_cons]
    wp_walk using 1, n1, n2, n3
    refine FOut.imp (spin rl.toHas' hr (by decide) (by decide) (by decide)) ?_
    rintro v os ⟨r, d2, rfl, rfl, r0, r1, hr2⟩
    wp_walk using 1, n1, n2, n3
    refine ⟨by simp [LIM], ?_⟩
    refine wFor_inv (fun rest ρ => (∀ x ∈ rest, ∃ m : Nat, x = .int m ∧ 1 ≤ m ∧ m ≤ 5) ∧ rest.length ≤ 5 ∧ ∃ d s3 s4 s5 s6 s7, ρ = [.fz (.lst (ns.map .int)), .fz (.int k), .ow d, s3, s4, s5, s6, s7, .no] ∧ npw s3 ∧ npw s4 ∧ npw s5 ∧ npw s6 ∧ npw s7 ∧ Reel (2000 * (5 - rest.length) + 1) d) ⟨?_, by simp, d2, s3, s4, s5, s6, s7, rfl, n3, n4, n5, n6, n7, hr2.mono (by omega)⟩ ?_ ?_
    · intro x hx
      simp only [List.mem_cons, List.not_mem_nil, or_false] at hx
      rcases hx with rfl | rfl | rfl | rfl | rfl
      · exact ⟨(1 + r).toNat, by rw [show ((1 + r).toNat : Int) = 1 + r from by omega], by omega, by omega⟩
      · exact ⟨2, rfl, by decide, by decide⟩
      · exact ⟨3, rfl, by decide, by decide⟩
      · exact ⟨4, rfl, by decide, by decide⟩
      · exact ⟨5, rfl, by decide, by decide⟩
    · rintro x rest ρ ⟨hx, hl, d, s3, s4, s5, s6, s7, rfl, n3, n4, n5, n6, n7, hr⟩
      obtain ⟨m, rfl, m0, m1⟩ := hx x List.mem_cons_self
      simp only [List.length_cons] at hl hr
      wp_walk using 1, n3, n4, n5, n6, n7
      rw [wSs_cons]
      wp_walk using 1, n3, n4, n5, n6, n7
      refine FOut.imp (some_room rl.toHas' hr m0 m1 (by simp only [LIMB]; omega)) ?_
      rintro v os ⟨ps, d3, rfl, rfl, e1, e2, e3, hr3⟩
      wp_walk using 1, n3, n4, n5, n6, n7
      refine FOut.imp (idle_kinds hr3 (by simp only [LIMB]; omega) m0 m1) ?_
      rintro v os ⟨ks, d4, rfl, rfl, hk, hr4⟩
      have hp : OkP ps := ⟨by omega, e2, by omega⟩
      rw [← e1] at hk
      wp_walk using 1, n3, n4, n5, n6, n7
      rw [wSs_cons]
      wp_walk using 1, n3, n4, n5, n6, n7, ln.m0, LN.Line_init ln hp hk
      rw [wSs_cons]
      wp_walk using 1, n3, n4, n5, n6, n7
      refine FOut.imp (plain_ok hp hk) ?_
      rintro v os ⟨qs, ls, rfl, rfl, he, hq, hls⟩
      wp_walk using 1, n3, n4, n5, n6, n7
      rw [wSs_cons]
      wp_walk using 1, n3, n4, n5, n6, n7
      refine FOut.imp (plain_due hp hk) ?_
      rintro v os ⟨qs2, ls2, rfl, ⟨a, b, rfl⟩, he2, _, _⟩
      obtain ⟨rfl, rfl⟩ := he.uniq he2
      wp_walk using 1, n3, n4, n5, n6, n7, ln.m1, LN.Line_eq ln, eqLine_refl hls.nd
      refine FOut.imp (plain_ok hq hls) ?_
      rintro v os ⟨qs3, ls3, rfl, rfl, he3, _, _⟩
      obtain ⟨rfl, rfl⟩ := he3.uniq (.done he.last)
      wp_walk using 1, n3, n4, n5, n6, n7, ln.m0, ln.m1, LN.Line_eq ln, eqLine_refl hls.nd, eqLine_refl hk.nd, LN.Line_init ln hp hk
      exact ⟨fun x hx' => hx x (List.mem_cons_of_mem _ hx'), by omega, d4, _, _, _, _, _, rfl, trivial, trivial, trivial, trivial, trivial, hr4.mono (by omega)⟩
    · rintro ρ ⟨hx, hl, d, s3, s4, s5, s6, s7, rfl, n3, n4, n5, n6, n7, hr⟩
      dsimp only
      exact ⟨_, _, _, _, _, _, _, rfl, trivial, trivial, n3, n4, n5, n6, n7⟩
  · rintro ρ ⟨s1, s2, s3, s4, s5, s6, s7, rfl, n1, n2, n3, n4, n5, n6, n7⟩
    dsimp only
    obtain ⟨A, eA⟩ : ∃ A, A = kA := ⟨_, rfl⟩
    obtain ⟨B, eB⟩ : ∃ B, B = kB := ⟨_, rfl⟩
    obtain ⟨C, eC⟩ : ∃ C, C = kC := ⟨_, rfl⟩
    have okA : OkK A 4 := eA ▸ okA
    have okB : OkK B 3 := eB ▸ okB
    have okC : OkK C 4 := eC ▸ okC
    have p1 : putAll [] [((Sum.inr ("a" : Str) : Key), D.lst [.int 2, .int 0, .int 0, .int 3])] = kL A := by subst eA; exact putAll_nil (k_nd (f := lI) okA)
    have p2 : putAll [] [((Sum.inr ("a" : Str) : Key), D.lst [.int 0, .int 0, .int 0]), (Sum.inr ("b" : Str), D.lst [.int 0, .int 0, .int 0])] = kL B := by subst eB; exact putAll_nil (k_nd (f := lI) okB)
    have p3 : putAll [] [((Sum.inr ("a" : Str) : Key), D.lst [.int 0, .int 5, .int 0, .int 0])] = kL C := by subst eC; exact putAll_nil (k_nd (f := lI) okC)
    have oA : OkP [1, 1, 1] := ⟨by decide, by decide, by decide⟩
    have oB : OkP [1, 2] := ⟨by decide, by decide, by decide⟩
    have oC : OkP [0, 1, 3] := ⟨by decide, by decide, by decide⟩
    have i1 := init' (n := n + 2) (xs := [.int 1, .int 1, .int 1]) (ps := [1, 1, 1]) (ks := A) rfl oA okA
    have i2 := init' (n := n + 2) (xs := [.int 1, .int 2]) (ps := [1, 2]) (ks := B) rfl oB okB
    have i3 := init' (n := n + 2) (xs := [.int 0, .int 1, .int 3]) (ps := [0, 1, 3]) (ks := C) rfl oC okC
    rw [wSs_cons]
    wp_walk using 1, ln.m0, List.zip_cons_cons, List.zip_nil_right, p1, i1, n1, n2, n3
    repeat (refine And.intro (by decide) ?_)
    refine FOut.imp (plain_ok oA okA) ?_
    rintro v os ⟨qs, ls, rfl, rfl, he, hq, hls⟩
    obtain ⟨rfl, e2⟩ := he.uniq (eA ▸ endA)
    have c1 : oEq true (lI [3, 1]) (.lst [.int 3, .int 1]) = some (.f (.bl false)) := rfl
    wp_walk using 1, ln.m2, LN.Line_places ln, c1, n1, n2, n3
    repeat (refine And.intro (by decide) ?_)
    rw [wSs_cons]
    wp_walk using 1, ln.m0, List.zip_cons_cons, List.zip_nil_right, p2, i2, n1, n2, n3
    repeat (refine And.intro (by decide) ?_)
    refine FOut.imp (plain_ok oB okB) ?_
    rintro v os ⟨qs, ls, rfl, rfl, he, hq, hls⟩
    obtain ⟨rfl, e2⟩ := he.uniq (eB ▸ endB)
    wp_walk using 1, n1, n2, n3
    rw [wSs_cons]
    have c2 : oEq true (.lst [lI [], .dct (kL ls)]) (.lst [.lst [], .dct (putAll [] [((Sum.inr ("a" : Str) : Key), .lst [.int 0]), (Sum.inr ("b" : Str), .lst [.int 0])])]) = some (.f (.bl false)) := by
      subst e2
      rfl
    wp_walk using 1, ln.m2, ln.m3, LN.Line_places ln, LN.Line_kinds ln hls, List.zip_cons_cons, List.zip_nil_right, c2, n1, n2, n3
    repeat (refine And.intro (by decide) ?_)
    rw [wSs_cons]
    wp_walk using 1, ln.m0, List.zip_cons_cons, List.zip_nil_right, p3, i3, n1, n2, n3
    repeat (refine And.intro (by decide) ?_)
    refine FOut.imp (plain_ok oC okC) ?_
    rintro v os ⟨qs, ls, rfl, rfl, he, hq, hls⟩
    obtain ⟨rfl, e2⟩ := he.uniq (eC ▸ endC)
    have c3 : oEq false (.dct (kL ls)) (.dct (putAll [] [((Sum.inr ("a" : Str) : Key), .lst [.int 5])])) = some (.f (.bl true)) := by
      subst e2
      rfl
    wp_walk using 1, ln.m3, LN.Line_kinds ln hls, List.zip_cons_cons, List.zip_nil_right, c3, n1, n2, n3
    repeat (refine And.intro (by decide) ?_)
    trivial
end
theorem plain : ∀ ns : List Int, ns.length ≤ 63 → (∀ z ∈ ns, Builtin.Int.intBits z ≤ 1048576) → ∃ os, runF Pr 41 25 [.fz (.lst (ns.map D.int))] = .ok (.f (.bl true)) os := fun ns _ _ => by
  have h := law (n := 33) (ns := ns)
  cases e : runF Pr (33 + 8) 25 [.fz (.lst (ns.map D.int))] with
  | ok v os =>
    rw [e] at h
    have h : v = .f (.bl true) := h
    subst h
    exact ⟨os, rfl⟩
  | exc x os => rw [e] at h; exact h.elim
  | bad => rw [e] at h; exact h.elim
end L03

set_option Elab.async false
set_option linter.all false
set_option maxRecDepth 100000
set_option maxHeartbeats 4000000
namespace L03
open PySem L2 PV
def top (i : Nat) : Stmt := PySem.Challenge.pw_linepaces_k03_plain_lines.main.body.getD i (.Pass ⟨0, 0, 0, 0⟩)
abbrev st_is_int : Stmt := top 3
abbrev st_is_whole : Stmt := top 4
abbrev st_is_time : Stmt := top 5
abbrev st_is_name : Stmt := top 6
abbrev st_valid_places : Stmt := top 17
abbrev st_require_kinds : Stmt := top 18
abbrev st_Line_init : Stmt := inClass (top 19) 0
abbrev st_Line_places : Stmt := inClass (top 19) 1
abbrev st_Line_kinds : Stmt := inClass (top 19) 2
abbrev st_Line_stations : Stmt := inClass (top 19) 4
abbrev st_Line_eq : Stmt := inClass (top 19) 5
abbrev st_require_line : Stmt := top 20
abbrev st_is_needless : Stmt := top 21
abbrev st_places_without : Stmt := top 22
abbrev st_plain : Stmt := top 23
abbrev st_law_wound : Stmt := top 25
abbrev st_law_spin : Stmt := top 26
abbrev st_law_mixed : Stmt := top 27
abbrev st_law_some_room : Stmt := top 28
abbrev st_law_some_kinds : Stmt := top 29
abbrev st_law_idle_kinds : Stmt := top 30
abbrev st_law_next : Stmt := top 31
abbrev st_law_plain_due : Stmt := top 32
abbrev st_law : Stmt := top 33
abbrev N_is_int : List Str := ["value"]
theorem sc_is_int : FnScope N_is_int ["value"] (defScope st_is_int) := ⟨rfl, rfl, rfl, by decide +kernel, rfl, by decide +kernel, by decide +kernel⟩
abbrev N_is_whole : List Str := ["value", "low", "high"]
theorem sc_is_whole : FnScope N_is_whole ["value", "low", "high"] (defScope st_is_whole) := ⟨rfl, rfl, rfl, by decide +kernel, rfl, by decide +kernel, by decide +kernel⟩
abbrev N_is_time : List Str := ["value"]
theorem sc_is_time : FnScope N_is_time ["value"] (defScope st_is_time) := ⟨rfl, rfl, rfl, by decide +kernel, rfl, by decide +kernel, by decide +kernel⟩
abbrev N_is_name : List Str := ["value", "letter"]
theorem sc_is_name : FnScope N_is_name ["value"] (defScope st_is_name) := ⟨rfl, rfl, rfl, by decide +kernel, rfl, by decide +kernel, by decide +kernel⟩
abbrev N_valid_places : List Str := ["value", "number"]
theorem sc_valid_places : FnScope N_valid_places ["value"] (defScope st_valid_places) := ⟨rfl, rfl, rfl, by decide +kernel, rfl, by decide +kernel, by decide +kernel⟩
abbrev N_require_kinds : List Str := ["value", "stations", "key", "times", "time"]
theorem sc_require_kinds : FnScope N_require_kinds ["value", "stations"] (defScope st_require_kinds) := ⟨rfl, rfl, rfl, by decide +kernel, rfl, by decide +kernel, by decide +kernel⟩
abbrev N_Line_init : List Str := ["self", "places", "kinds", "name", "times"]
theorem sc_Line_init : FnScope N_Line_init ["self", "places", "kinds"] (defScope st_Line_init) := ⟨rfl, rfl, rfl, by decide +kernel, rfl, by decide +kernel, by decide +kernel⟩
abbrev N_Line_places : List Str := ["self"]
theorem sc_Line_places : FnScope N_Line_places ["self"] (defScope st_Line_places) := ⟨rfl, rfl, rfl, by decide +kernel, rfl, by decide +kernel, by decide +kernel⟩
abbrev N_Line_kinds : List Str := ["self", "name", "times"]
theorem sc_Line_kinds : FnScope N_Line_kinds ["self"] (defScope st_Line_kinds) := ⟨rfl, rfl, rfl, by decide +kernel, rfl, by decide +kernel, by decide +kernel⟩
abbrev N_Line_stations : List Str := ["self"]
theorem sc_Line_stations : FnScope N_Line_stations ["self"] (defScope st_Line_stations) := ⟨rfl, rfl, rfl, by decide +kernel, rfl, by decide +kernel, by decide +kernel⟩
abbrev N_Line_eq : List Str := ["self", "other"]
theorem sc_Line_eq : FnScope N_Line_eq ["self", "other"] (defScope st_Line_eq) := ⟨rfl, rfl, rfl, by decide +kernel, rfl, by decide +kernel, by decide +kernel⟩
abbrev N_require_line : List Str := ["value"]
theorem sc_require_line : FnScope N_require_line ["value"] (defScope st_require_line) := ⟨rfl, rfl, rfl, by decide +kernel, rfl, by decide +kernel, by decide +kernel⟩
abbrev N_is_needless : List Str := ["places", "kinds", "station", "times"]
theorem sc_is_needless : FnScope N_is_needless ["places", "kinds", "station"] (defScope st_is_needless) := ⟨rfl, rfl, rfl, by decide +kernel, rfl, by decide +kernel, by decide +kernel⟩
abbrev N_places_without : List Str := ["places", "station"]
theorem sc_places_without : FnScope N_places_without ["places", "station"] (defScope st_places_without) := ⟨rfl, rfl, rfl, by decide +kernel, rfl, by decide +kernel, by decide +kernel⟩
abbrev N_plain : List Str := ["line", "places", "kinds", "station", "name", "times"]
theorem sc_plain : FnScope N_plain ["line"] (defScope st_plain) := ⟨rfl, rfl, rfl, by decide +kernel, rfl, by decide +kernel, by decide +kernel⟩
abbrev N_law_wound : List Str := ["_law_script", "_law_k", "_law_cell"]
theorem sc_law_wound : FnScope N_law_wound ["_law_script", "_law_k"] (defScope st_law_wound) := ⟨rfl, rfl, rfl, by decide +kernel, rfl, by decide +kernel, by decide +kernel⟩
abbrev N_law_spin : List Str := ["_law_reel", "_law_many", "_law_drawn", "_law_mixed_here"]
theorem sc_law_spin : FnScope N_law_spin ["_law_reel", "_law_many"] (defScope st_law_spin) := ⟨rfl, rfl, rfl, by decide +kernel, rfl, by decide +kernel, by decide +kernel⟩
abbrev N_law_mixed : List Str := ["_law_reel", "_law_items", "_law_left", "_law_found"]
theorem sc_law_mixed : FnScope N_law_mixed ["_law_reel", "_law_items"] (defScope st_law_mixed) := ⟨rfl, rfl, rfl, by decide +kernel, rfl, by decide +kernel, by decide +kernel⟩
abbrev N_law_some_room : List Str := ["_law_reel", "_law_many", "_law_found", "_law_turn"]
theorem sc_law_some_room : FnScope N_law_some_room ["_law_reel", "_law_many"] (defScope st_law_some_room) := ⟨rfl, rfl, rfl, by decide +kernel, rfl, by decide +kernel, by decide +kernel⟩
abbrev N_law_some_kinds : List Str := ["_law_reel", "_law_many", "_law_wide", "_law_found", "_law_name", "_law_turn"]
theorem sc_law_some_kinds : FnScope N_law_some_kinds ["_law_reel", "_law_many", "_law_wide"] (defScope st_law_some_kinds) := ⟨rfl, rfl, rfl, by decide +kernel, rfl, by decide +kernel, by decide +kernel⟩
abbrev N_law_idle_kinds : List Str := ["_law_reel", "_law_many", "_law_kinds", "_law_idle", "_law_busy", "_law_is_one_busy", "_law_name", "_law_station", "_law_time"]
theorem sc_law_idle_kinds : FnScope N_law_idle_kinds ["_law_reel", "_law_many"] (defScope st_law_idle_kinds) := ⟨rfl, rfl, rfl, by decide +kernel, rfl, by decide +kernel, by decide +kernel⟩
abbrev N_law_next : List Str := ["_law_room", "_law_kinds", "_law_station", "_law_more", "_law_name"]
theorem sc_law_next : FnScope N_law_next ["_law_room", "_law_kinds"] (defScope st_law_next) := ⟨rfl, rfl, rfl, by decide +kernel, rfl, by decide +kernel, by decide +kernel⟩
abbrev N_law_plain_due : List Str := ["_law_room", "_law_kinds", "_law_turn", "_law_told", "_law_station", "_law_name"]
theorem sc_law_plain_due : FnScope N_law_plain_due ["_law_room", "_law_kinds"] (defScope st_law_plain_due) := ⟨rfl, rfl, rfl, by decide +kernel, rfl, by decide +kernel, by decide +kernel⟩
abbrev N_law : List Str := ["_law_script", "_law_k", "_law_reel", "_law_many", "_law_room", "_law_kinds", "_law_one", "_law_told", "_law_last"]
theorem sc_law : FnScope N_law ["_law_script"] (defScope st_law) := ⟨rfl, rfl, rfl, by decide +kernel, rfl, by decide +kernel, by decide +kernel⟩
abbrev anames : List Str := ["own_places", "own_kinds", "own_lots", "own_rounds", "own_line", "own_table", "ends_known", "ends_line", "ends_plan", "ends_vector", "ends_name", "ends_station", "own_moments", "own_pieces", "own_due", "own_calls", "own_past", "own_floor", "own_plan"]
structure Tx (K : PySem.W.Frag) (mg : Str → Option Value) where
  C_Line : Addr
  cl_Line : Cls K C_Line
  g_Line : mg "Line" = some (.ref C_Line)
  ic_Line : IsC K C_Line
  A_is_int : Addr
  D_is_int : FuncData
  F_is_int : L2.Fun K "is_int" "is_int" st_is_int A_is_int D_is_int
  b_is_int : Binds K D_is_int ["value"] []
  g_is_int : mg "is_int" = some (.ref A_is_int)
  A_is_whole : Addr
  D_is_whole : FuncData
  F_is_whole : L2.Fun K "is_whole" "is_whole" st_is_whole A_is_whole D_is_whole
  b_is_whole : Binds K D_is_whole ["value", "low", "high"] []
  g_is_whole : mg "is_whole" = some (.ref A_is_whole)
  A_is_time : Addr
  D_is_time : FuncData
  F_is_time : L2.Fun K "is_time" "is_time" st_is_time A_is_time D_is_time
  b_is_time : Binds K D_is_time ["value"] []
  g_is_time : mg "is_time" = some (.ref A_is_time)
  A_is_name : Addr
  D_is_name : FuncData
  F_is_name : L2.Fun K "is_name" "is_name" st_is_name A_is_name D_is_name
  b_is_name : Binds K D_is_name ["value"] []
  g_is_name : mg "is_name" = some (.ref A_is_name)
  A_valid_places : Addr
  D_valid_places : FuncData
  F_valid_places : L2.Fun K "valid_places" "valid_places" st_valid_places A_valid_places D_valid_places
  b_valid_places : Binds K D_valid_places ["value"] []
  g_valid_places : mg "valid_places" = some (.ref A_valid_places)
  A_require_kinds : Addr
  D_require_kinds : FuncData
  F_require_kinds : L2.Fun K "require_kinds" "require_kinds" st_require_kinds A_require_kinds D_require_kinds
  b_require_kinds : Binds K D_require_kinds ["value", "stations"] []
  g_require_kinds : mg "require_kinds" = some (.ref A_require_kinds)
  A_Line_init : Addr
  D_Line_init : FuncData
  F_Line_init : L2.Fun K "__init__" "Line.__init__" st_Line_init A_Line_init D_Line_init
  b_Line_init : Binds K D_Line_init ["self", "places", "kinds"] []
  mk_Line : Mk K C_Line A_Line_init
  A_Line_places : Addr
  D_Line_places : FuncData
  F_Line_places : L2.Fun K "places" "Line.places" st_Line_places A_Line_places D_Line_places
  b_Line_places : Binds K D_Line_places ["self"] []
  P_Line_places : Addr
  p_Line_places : PropOf K C_Line "places" P_Line_places A_Line_places
  A_Line_kinds : Addr
  D_Line_kinds : FuncData
  F_Line_kinds : L2.Fun K "kinds" "Line.kinds" st_Line_kinds A_Line_kinds D_Line_kinds
  b_Line_kinds : Binds K D_Line_kinds ["self"] []
  P_Line_kinds : Addr
  p_Line_kinds : PropOf K C_Line "kinds" P_Line_kinds A_Line_kinds
  A_Line_stations : Addr
  D_Line_stations : FuncData
  F_Line_stations : L2.Fun K "stations" "Line.stations" st_Line_stations A_Line_stations D_Line_stations
  b_Line_stations : Binds K D_Line_stations ["self"] []
  P_Line_stations : Addr
  p_Line_stations : PropOf K C_Line "stations" P_Line_stations A_Line_stations
  A_Line_eq : Addr
  D_Line_eq : FuncData
  F_Line_eq : L2.Fun K "__eq__" "Line.__eq__" st_Line_eq A_Line_eq D_Line_eq
  b_Line_eq : Binds K D_Line_eq ["self", "other"] []
  e_Line : PySem.W.findIn K (.ref C_Line) "__eq__" = some (some (.ref A_Line_eq))
  ef_Line : PySem.W.isFn K (.ref A_Line_eq) = true
  A_require_line : Addr
  D_require_line : FuncData
  F_require_line : L2.Fun K "require_line" "require_line" st_require_line A_require_line D_require_line
  b_require_line : Binds K D_require_line ["value"] []
  g_require_line : mg "require_line" = some (.ref A_require_line)
  A_is_needless : Addr
  D_is_needless : FuncData
  F_is_needless : L2.Fun K "is_needless" "is_needless" st_is_needless A_is_needless D_is_needless
  b_is_needless : Binds K D_is_needless ["places", "kinds", "station"] []
  g_is_needless : mg "is_needless" = some (.ref A_is_needless)
  A_places_without : Addr
  D_places_without : FuncData
  F_places_without : L2.Fun K "places_without" "places_without" st_places_without A_places_without D_places_without
  b_places_without : Binds K D_places_without ["places", "station"] []
  g_places_without : mg "places_without" = some (.ref A_places_without)
  A_plain : Addr
  D_plain : FuncData
  F_plain : L2.Fun K "plain" "plain" st_plain A_plain D_plain
  b_plain : Binds K D_plain ["line"] []
  g_plain : mg "plain" = some (.ref A_plain)
  A_law_wound : Addr
  D_law_wound : FuncData
  F_law_wound : L2.Fun K "_law_wound" "_law_wound" st_law_wound A_law_wound D_law_wound
  b_law_wound : Binds K D_law_wound ["_law_script", "_law_k"] []
  g_law_wound : mg "_law_wound" = some (.ref A_law_wound)
  A_law_spin : Addr
  D_law_spin : FuncData
  F_law_spin : L2.Fun K "_law_spin" "_law_spin" st_law_spin A_law_spin D_law_spin
  b_law_spin : Binds K D_law_spin ["_law_reel", "_law_many"] []
  g_law_spin : mg "_law_spin" = some (.ref A_law_spin)
  A_law_mixed : Addr
  D_law_mixed : FuncData
  F_law_mixed : L2.Fun K "_law_mixed" "_law_mixed" st_law_mixed A_law_mixed D_law_mixed
  b_law_mixed : Binds K D_law_mixed ["_law_reel", "_law_items"] []
  g_law_mixed : mg "_law_mixed" = some (.ref A_law_mixed)
  A_law_some_room : Addr
  D_law_some_room : FuncData
  F_law_some_room : L2.Fun K "_law_some_room" "_law_some_room" st_law_some_room A_law_some_room D_law_some_room
  b_law_some_room : Binds K D_law_some_room ["_law_reel", "_law_many"] []
  g_law_some_room : mg "_law_some_room" = some (.ref A_law_some_room)
  A_law_some_kinds : Addr
  D_law_some_kinds : FuncData
  F_law_some_kinds : L2.Fun K "_law_some_kinds" "_law_some_kinds" st_law_some_kinds A_law_some_kinds D_law_some_kinds
  b_law_some_kinds : Binds K D_law_some_kinds ["_law_reel", "_law_many", "_law_wide"] []
  g_law_some_kinds : mg "_law_some_kinds" = some (.ref A_law_some_kinds)
  A_law_idle_kinds : Addr
  D_law_idle_kinds : FuncData
  F_law_idle_kinds : L2.Fun K "_law_idle_kinds" "_law_idle_kinds" st_law_idle_kinds A_law_idle_kinds D_law_idle_kinds
  b_law_idle_kinds : Binds K D_law_idle_kinds ["_law_reel", "_law_many"] []
  g_law_idle_kinds : mg "_law_idle_kinds" = some (.ref A_law_idle_kinds)
  A_law_next : Addr
  D_law_next : FuncData
  F_law_next : L2.Fun K "_law_next" "_law_next" st_law_next A_law_next D_law_next
  b_law_next : Binds K D_law_next ["_law_room", "_law_kinds"] []
  g_law_next : mg "_law_next" = some (.ref A_law_next)
  A_law_plain_due : Addr
  D_law_plain_due : FuncData
  F_law_plain_due : L2.Fun K "_law_plain_due" "_law_plain_due" st_law_plain_due A_law_plain_due D_law_plain_due
  b_law_plain_due : Binds K D_law_plain_due ["_law_room", "_law_kinds"] []
  g_law_plain_due : mg "_law_plain_due" = some (.ref A_law_plain_due)
  A_law : Addr
  D_law : FuncData
  F_law : L2.Fun K "law" "law" st_law A_law D_law
  b_law : Binds K D_law ["_law_script"] []
  g_law : mg "law" = some (.ref A_law)
  na_Line_own_places : NoAttr K C_Line "own_places"
  na_Line_own_kinds : NoAttr K C_Line "own_kinds"
  i_MOST_KINDS : ∃ t, mg "MOST_KINDS" = some (.int 6 t)
  i_MOST_NUMBER : ∃ t, mg "MOST_NUMBER" = some (.int 1000000000000000000000000000000 t)
  i_MOST_NUMBERS : ∃ t, mg "MOST_NUMBERS" = some (.int 10 t)
  i_MOST_PLACES : ∃ t, mg "MOST_PLACES" = some (.int 3 t)
  i_MOST_STATIONS : ∃ t, mg "MOST_STATIONS" = some (.int 5 t)
  n_all : mg "all" = none
  n_any : mg "any" = none
  n_bool : mg "bool" = none
  n_dict : mg "dict" = none
  n_enumerate : mg "enumerate" = none
  n_int : mg "int" = none
  n_isinstance : mg "isinstance" = none
  n_len : mg "len" = none
  n_list : mg "list" = none
  n_max : mg "max" = none
  n_min : mg "min" = none
  n_range : mg "range" = none
  n_sorted : mg "sorted" = none
  n_str : mg "str" = none
  n_sum : mg "sum" = none
  n_tuple : mg "tuple" = none
section
variable {P : Program} {w : World} {K : PySem.W.Frag} {mg : Str → Option Value} {base : Heap}
abbrev Tx.nm (T : Tx K mg) : Nm := ⟨K, fun C => if C = 0 then T.C_Line else 0, anOf anames⟩
theorem an_inj : ∀ a b, anOf anames a = anOf anames b → a = b := anOf_inj (by decide +kernel) (by decide +kernel)
theorem kt (T : Tx K mg) {n : Nat} : Kt T.nm (tbl Pr n) := ⟨an_inj, fun C a h => by
  have h := flOf_mem (tab := flL) h
  simp only [flL, List.mem_cons, Prod.mk.injEq, List.not_mem_nil, or_false] at h
  rcases h with ⟨rfl, rfl⟩ | ⟨rfl, rfl⟩
  · exact ⟨T.cl_Line, T.na_Line_own_places⟩
  · exact ⟨T.cl_Line, T.na_Line_own_kinds⟩⟩
theorem only_Line_places : ∀ B f, mtOf mtL B 2 = some f → B = 0 ∧ f = 7 := mtOf_only (by decide)
theorem only_Line_kinds : ∀ B f, mtOf mtL B 3 = some f → B = 0 ∧ f = 8 := mtOf_only (by decide)
theorem only_Line_stations : ∀ B f, mtOf mtL B 5 = some f → B = 0 ∧ f = 10 := mtOf_only (by decide)
theorem K_is_int (T : Tx K mg) : ∀ n, Keeps P w K mg base T.nm (runF Pr n 0) 1 T.A_is_int := fun n => by
  cases n with
  | zero => exact keeps_zero T.F_is_int T.b_is_int
  | succ n =>
  exact keeps_of T.F_is_int sc_is_int T.b_is_int rfl rfl rfl (by decide) fun cdv A outer s H E o r =>
    (ss_cons (s_ret (k_and (k_isi PV.ty_int (fun _ => rfl) T.n_isinstance T.n_int rfl (e_var (pv 0))) (k_one (k_not (k_isi PV.ty_bool (fun _ => rfl) T.n_isinstance T.n_bool rfl (e_var (pv 0)))))))
      ss_nil)
theorem K_is_whole (T : Tx K mg) : ∀ n, Keeps P w K mg base T.nm (runF Pr n 1) 2 T.A_is_whole := fun n => by
  cases n with
  | zero => exact keeps_zero T.F_is_whole T.b_is_whole
  | succ n =>
  have F_is_int := K_is_int (P := P) (w := w) (base := base) T n
  exact keeps_of T.F_is_whole sc_is_whole T.b_is_whole rfl rfl rfl (by decide) fun cdv A outer s H E o r =>
    (ss_cons (s_ret (k_and (k_call F_is_int T.g_is_int (r.mono (by decide)) (k_cons (e_var (pv 0)) k_nil)) (k_one (k_chn (z_le o) (z_le o) (e_var (pv 1)) (e_var (pv 0)) (e_var (pv 2))))))
      ss_nil)
theorem K_is_time (T : Tx K mg) : ∀ n, Keeps P w K mg base T.nm (runF Pr n 2) 3 T.A_is_time := fun n => by
  cases n with
  | zero => exact keeps_zero T.F_is_time T.b_is_time
  | succ n =>
  have F_is_whole := K_is_whole (P := P) (w := w) (base := base) T n
  exact keeps_of T.F_is_time sc_is_time T.b_is_time rfl rfl rfl (by decide) fun cdv A outer s H E o r =>
    (ss_cons (s_ret (k_call F_is_whole T.g_is_whole (r.mono (by decide)) (k_cons (e_var (pv 0)) (k_cons k_int (k_cons (k_glbI T.i_MOST_NUMBER) k_nil)))))
      ss_nil)
theorem K_is_name (T : Tx K mg) : ∀ n, Keeps P w K mg base T.nm (runF Pr n 3) 1 T.A_is_name := fun n => by
  cases n with
  | zero => exact keeps_zero T.F_is_name T.b_is_name
  | succ n =>
  exact keeps_of T.F_is_name sc_is_name T.b_is_name rfl rfl rfl (by decide) fun cdv A outer s H E o r =>
    (ss_cons (s_if (PW.pt (w_or (t_not (t_vl (k_isi PV.ty_str (fun _ => rfl) T.n_isinstance T.n_str rfl (e_var (pv 0))))) (w_or1 (t_not (t_chn (z_le o) (z_le o) k_int (k_blt (c_len o.hk) T.n_len (k_cons (e_var (pv 0)) k_nil)) k_int))))) (ss_cons (s_ret k_bl)
      ss_nil) ss_nil)
      (ss_cons (s_ret (k_blt (c_all o.hc o.hk) T.n_all (k_cons (k_lc o (own := [("letter", 1)]) (p_seq (e_var (pv 0))) (blkOk_by (N := N_is_name) (sc := defScope st_is_name) (by decide +kernel)) (by decide) (fun _ _ _ _ _ => (g_nm o.blk (i := 1) rfl (by first | exact .inl rfl | exact .inr rfl) (by first | exact .inl rfl | exact .inr rfl))) (fun _ _ _ _ _ => kt_nil) (fun _ _ _ _ _ => (k_cmp (z_in o.blk) (e_var (pv 1)) k_str))) k_nil)))
      ss_nil))
theorem K_valid_places (T : Tx K mg) : ∀ n, Keeps P w K mg base T.nm (runF Pr n 4) 3 T.A_valid_places := fun n => by
  cases n with
  | zero => exact keeps_zero T.F_valid_places T.b_valid_places
  | succ n =>
  have F_is_whole := K_is_whole (P := P) (w := w) (base := base) T n
  exact keeps_of T.F_valid_places sc_valid_places T.b_valid_places rfl rfl rfl (by decide) fun cdv A outer s H E o r =>
    (ss_cons (s_if (PW.pt (w_or (t_not (t_vl (k_isi PV.ty_list (fun _ => rfl) T.n_isinstance T.n_list rfl (e_var (pv 0))))) (w_or1 (t_cmp (z_ge o) (k_blt (c_len o.hk) T.n_len (k_cons (e_var (pv 0)) k_nil)) (k_glbI T.i_MOST_STATIONS))))) (ss_cons (s_ret k_bl)
      ss_nil) ss_nil)
      (ss_cons (s_if (t_not (t_vl (k_blt (c_all o.hc o.hk) T.n_all (k_cons (k_lc o (own := [("number", 1)]) (p_seq (e_var (pv 0))) (blkOk_by (N := N_valid_places) (sc := defScope st_valid_places) (by decide +kernel)) (by decide) (fun _ _ _ _ _ => (g_nm o.blk (i := 1) rfl (by first | exact .inl rfl | exact .inr rfl) (by first | exact .inl rfl | exact .inr rfl))) (fun _ _ _ _ _ => kt_nil) (fun _ _ _ _ _ => (k_call F_is_whole T.g_is_whole (r.mono (by decide)) (k_cons (e_var (pv 1)) (k_cons k_int (k_cons (k_glbI T.i_MOST_PLACES) k_nil)))))) k_nil)))) (ss_cons (s_ret k_bl)
      ss_nil) ss_nil)
      (ss_cons (s_ret (k_cmp (z_le o) (k_bin (z_add o) (k_bin (z_add o) (k_blt (c_len o.hk) T.n_len (k_cons (e_var (pv 0)) k_nil)) k_int) (k_blt (c_sum o.hc o.hk) T.n_sum (k_cons (e_var (pv 0)) k_nil))) (k_glbI T.i_MOST_NUMBERS)))
      ss_nil)))
theorem K_require_kinds (T : Tx K mg) : ∀ n, Keeps P w K mg base T.nm (runF Pr n 5) 4 T.A_require_kinds := fun n => by
  cases n with
  | zero => exact keeps_zero T.F_require_kinds T.b_require_kinds
  | succ n =>
  have F_is_time := K_is_time (P := P) (w := w) (base := base) T n
  have F_is_name := K_is_name (P := P) (w := w) (base := base) T n
  exact keeps_of T.F_require_kinds sc_require_kinds T.b_require_kinds rfl rfl rfl (by decide) fun cdv A outer s H E o r =>
    (ss_cons (s_if (PW.pt (w_or (t_not (t_vl (k_isi PV.ty_dict (fun _ => rfl) T.n_isinstance T.n_dict rfl (e_var (pv 0))))) (w_or1 (t_not (t_chn (z_le o) (z_le o) k_int (k_blt (c_len o.hk) T.n_len (k_cons (e_var (pv 0)) k_nil)) (k_glbI T.i_MOST_KINDS)))))) (ss_cons s_wall
      ss_nil) ss_nil)
      (ss_cons (s_for o PassesOwn.never (p_itm (e_var (pv 0))) (g_tp o (gn_cons o (i := 2) rfl (by first | exact .inl rfl | exact .inr rfl) (by first | exact .inl rfl | exact .inr rfl) (gn_cons o (i := 3) rfl (by first | exact .inl rfl | exact .inr rfl) (by first | exact .inl rfl | exact .inr rfl) gn_nil))) (ss_cons (s_if (PW.pt (w_or (t_not (t_vl (k_call F_is_name T.g_is_name (r.mono (by decide)) (k_cons (e_var (pv 2)) k_nil)))) (w_or (t_not (t_vl (k_isi PV.ty_list (fun _ => rfl) T.n_isinstance T.n_list rfl (e_var (pv 3))))) (w_or1 (t_cmp (z_ne o) (k_blt (c_len o.hk) T.n_len (k_cons (e_var (pv 3)) k_nil)) (e_var (pv 1))))))) (ss_cons s_wall
      ss_nil) ss_nil)
      (ss_cons (s_if (t_not (t_vl (k_blt (c_all o.hc o.hk) T.n_all (k_cons (k_lc o (own := [("time", 4)]) (p_seq (e_var (pv 3))) (blkOk_by (N := N_require_kinds) (sc := defScope st_require_kinds) (by decide +kernel)) (by decide) (fun _ _ _ _ _ => (g_nm o.blk (i := 4) rfl (by first | exact .inl rfl | exact .inr rfl) (by first | exact .inl rfl | exact .inr rfl))) (fun _ _ _ _ _ => kt_nil) (fun _ _ _ _ _ => (k_call F_is_time T.g_is_time (r.mono (by decide)) (k_cons (e_var (pv 4)) k_nil)))) k_nil)))) (ss_cons s_wall
      ss_nil) ss_nil)
      ss_nil)))
      ss_nil))
theorem K_Line_init (T : Tx K mg) : ∀ n, Keeps P w K mg base T.nm (runF Pr n 6) 5 T.A_Line_init := fun n => by
  cases n with
  | zero => exact keeps_zero T.F_Line_init T.b_Line_init
  | succ n =>
  have F_require_kinds := K_require_kinds (P := P) (w := w) (base := base) T n
  have F_valid_places := K_valid_places (P := P) (w := w) (base := base) T n
  exact keeps_of T.F_Line_init sc_Line_init T.b_Line_init rfl rfl rfl (by decide) fun cdv A outer s H E o r =>
    (ss_cons (s_if (t_not (t_vl (k_call F_valid_places T.g_valid_places (r.mono (by decide)) (k_cons (e_var (pv 1)) k_nil)))) (ss_cons s_wall
      ss_nil) ss_nil)
      (ss_cons (s_exp (k_call F_require_kinds T.g_require_kinds (r.mono (by decide)) (k_cons (e_var (pv 2)) (k_cons (k_bin (z_add o) (k_blt (c_len o.hk) T.n_len (k_cons (e_var (pv 1)) k_nil)) k_int) k_nil))))
      (ss_cons (s_fld o (kt T) (i := 0) (pv 0) (k_typ (c_tuple o.hk) T.n_tuple (k_cons (e_var (pv 1)) k_nil)))
      (ss_cons (s_fld o (kt T) (i := 0) (pv 0) (k_dc o (own := [("name", 3), ("times", 4)]) (p_itm (e_var (pv 2))) (blkOk_by (N := N_Line_init) (sc := defScope st_Line_init) (by decide +kernel)) (by decide) (fun _ _ _ _ _ => (g_tp o.blk (gn_cons o.blk (i := 3) rfl (by first | exact .inl rfl | exact .inr rfl) (by first | exact .inl rfl | exact .inr rfl) (gn_cons o.blk (i := 4) rfl (by first | exact .inl rfl | exact .inr rfl) (by first | exact .inl rfl | exact .inr rfl) gn_nil)))) (fun _ _ _ _ _ => kt_nil) (fun _ _ _ _ _ => (e_var (pv 3))) (fun _ _ _ _ _ => (k_typ (c_tuple o.blk.hk) T.n_tuple (k_cons (e_var (pv 4)) k_nil)))))
      ss_nil))))
theorem K_Line_places (T : Tx K mg) : ∀ n, Keeps P w K mg base T.nm (runF Pr n 7) 1 T.A_Line_places := fun n => by
  cases n with
  | zero => exact keeps_zero T.F_Line_places T.b_Line_places
  | succ n =>
  exact keeps_of T.F_Line_places sc_Line_places T.b_Line_places rfl rfl rfl (by decide) fun cdv A outer s H E o r =>
    (ss_cons (s_ret (k_typ (c_list o.hc o.hk) T.n_list (k_cons (k_fld o (kt T) (e_var (pv 0))) k_nil)))
      ss_nil)
theorem K_Line_kinds (T : Tx K mg) : ∀ n, Keeps P w K mg base T.nm (runF Pr n 8) 1 T.A_Line_kinds := fun n => by
  cases n with
  | zero => exact keeps_zero T.F_Line_kinds T.b_Line_kinds
  | succ n =>
  exact keeps_of T.F_Line_kinds sc_Line_kinds T.b_Line_kinds rfl rfl rfl (by decide) fun cdv A outer s H E o r =>
    (ss_cons (s_ret (k_dc o (own := [("name", 1), ("times", 2)]) (p_itm (k_fld o (kt T) (e_var (pv 0)))) (blkOk_by (N := N_Line_kinds) (sc := defScope st_Line_kinds) (by decide +kernel)) (by decide) (fun _ _ _ _ _ => (g_tp o.blk (gn_cons o.blk (i := 1) rfl (by first | exact .inl rfl | exact .inr rfl) (by first | exact .inl rfl | exact .inr rfl) (gn_cons o.blk (i := 2) rfl (by first | exact .inl rfl | exact .inr rfl) (by first | exact .inl rfl | exact .inr rfl) gn_nil)))) (fun _ _ _ _ _ => kt_nil) (fun _ _ _ _ _ => (e_var (pv 1))) (fun _ _ _ _ _ => (k_typ (c_list o.blk.hc o.blk.hk) T.n_list (k_cons (e_var (pv 2)) k_nil)))))
      ss_nil)
theorem K_Line_stations (T : Tx K mg) : ∀ n, Keeps P w K mg base T.nm (runF Pr n 10) 1 T.A_Line_stations := fun n => by
  cases n with
  | zero => exact keeps_zero T.F_Line_stations T.b_Line_stations
  | succ n =>
  exact keeps_of T.F_Line_stations sc_Line_stations T.b_Line_stations rfl rfl rfl (by decide) fun cdv A outer s H E o r =>
    (ss_cons (s_ret (k_bin (z_add o) (k_blt (c_len o.hk) T.n_len (k_cons (k_fld o (kt T) (e_var (pv 0))) k_nil)) k_int))
      ss_nil)
theorem K_Line_eq (T : Tx K mg) : ∀ n, Keeps P w K mg base T.nm (runF Pr n 11) 1 T.A_Line_eq := fun n => by
  cases n with
  | zero => exact keeps_zero T.F_Line_eq T.b_Line_eq
  | succ n =>
  exact keeps_of T.F_Line_eq sc_Line_eq T.b_Line_eq rfl rfl rfl (by decide) fun cdv A outer s H E o r =>
    (ss_cons (s_if (t_not (t_vl (k_isiC (C := 0) T.ic_Line T.n_isinstance T.g_Line (e_var (pv 1))))) (ss_cons (s_ret k_bl)
      ss_nil) ss_nil)
      (ss_cons (s_ret (k_and (k_cmp (z_eq o) (k_fld o (kt T) (e_var (pv 0))) (k_fld o (kt T) (e_var (pv 1)))) (k_one (k_cmp (z_eq o) (k_fld o (kt T) (e_var (pv 0))) (k_fld o (kt T) (e_var (pv 1)))))))
      ss_nil))
theorem K_require_line (T : Tx K mg) : ∀ n, Keeps P w K mg base T.nm (runF Pr n 26) 1 T.A_require_line := fun n => by
  cases n with
  | zero => exact keeps_zero T.F_require_line T.b_require_line
  | succ n =>
  exact keeps_of T.F_require_line sc_require_line T.b_require_line rfl rfl rfl (by decide) fun cdv A outer s H E o r =>
    (ss_cons (s_if (t_not (t_vl (k_isiC (C := 0) T.ic_Line T.n_isinstance T.g_Line (e_var (pv 0))))) (ss_cons s_wall
      ss_nil) ss_nil)
      ss_nil)
theorem K_is_needless (T : Tx K mg) : ∀ n, Keeps P w K mg base T.nm (runF Pr n 32) 1 T.A_is_needless := fun n => by
  cases n with
  | zero => exact keeps_zero T.F_is_needless T.b_is_needless
  | succ n =>
  exact keeps_of T.F_is_needless sc_is_needless T.b_is_needless rfl rfl rfl (by decide) fun cdv A outer s H E o r =>
    (ss_cons (s_if (PW.pt (w_or (t_vl (k_blt (c_any o.hc o.hk) T.n_any (k_cons (k_lc o (own := [("times", 3)]) (p_val (e_var (pv 1))) (blkOk_by (N := N_is_needless) (sc := defScope st_is_needless) (by decide +kernel)) (by decide) (fun _ _ _ _ _ => (g_nm o.blk (i := 3) rfl (by first | exact .inl rfl | exact .inr rfl) (by first | exact .inl rfl | exact .inr rfl))) (fun _ _ _ _ _ => kt_nil) (fun _ _ _ _ _ => (k_cmp (z_gt o.blk) (k_sub o.blk (e_var (pv 3)) (e_var (pv 2))) k_int))) k_nil))) (w_or1 (t_cmp (z_eq o) (e_var (pv 0)) (k_lst k_nil))))) (ss_cons (s_ret k_bl)
      ss_nil) ss_nil)
      (ss_cons (s_if (t_cmp (z_in o) (e_var (pv 2)) (k_tup (k_cons k_int (k_cons (k_blt (c_len o.hk) T.n_len (k_cons (e_var (pv 0)) k_nil)) k_nil)))) (ss_cons (s_ret k_bl)
      ss_nil) ss_nil)
      (ss_cons (s_ret (k_cmp (z_le o) (k_bin (z_add o) (k_bin (z_add o) (k_sub o (e_var (pv 0)) (k_bin (z_sub o) (e_var (pv 2)) k_int)) (k_sub o (e_var (pv 0)) (e_var (pv 2)))) k_int) (k_glbI T.i_MOST_PLACES)))
      ss_nil)))
theorem K_places_without (T : Tx K mg) : ∀ n, Keeps P w K mg base T.nm (runF Pr n 33) 1 T.A_places_without := fun n => by
  cases n with
  | zero => exact keeps_zero T.F_places_without T.b_places_without
  | succ n =>
  exact keeps_of T.F_places_without sc_places_without T.b_places_without rfl rfl rfl (by decide) fun cdv A outer s H E o r =>
    (ss_cons (s_if (t_cmp (z_eq o) (e_var (pv 1)) k_int) (ss_cons (s_ret (k_sl o (e_var (pv 0)) (pb_some rfl) pb_none (po_some k_int) po_none))
      ss_nil) ss_nil)
      (ss_cons (s_if (t_cmp (z_eq o) (e_var (pv 1)) (k_blt (c_len o.hk) T.n_len (k_cons (e_var (pv 0)) k_nil))) (ss_cons (s_ret (k_sl o (e_var (pv 0)) pb_none (pb_some rfl) po_none (po_some (k_neg k_int))))
      ss_nil) ss_nil)
      (ss_cons (s_ret (k_lstS (ks_star o (k_sl o (e_var (pv 0)) pb_none (pb_some rfl) po_none (po_some (k_bin (z_sub o) (e_var (pv 1)) k_int))) (ks_cons (k_bin (z_add o) (k_bin (z_add o) (k_sub o (e_var (pv 0)) (k_bin (z_sub o) (e_var (pv 1)) k_int)) (k_sub o (e_var (pv 0)) (e_var (pv 1)))) k_int) (ks_star o (k_sl o (e_var (pv 0)) (pb_some rfl) pb_none (po_some (k_bin (z_add o) (e_var (pv 1)) k_int)) po_none) ks_nil)))))
      ss_nil)))
theorem K_plain (T : Tx K mg) : ∀ n, Keeps P w K mg base T.nm (runF Pr n 34) 7 T.A_plain := fun n => by
  cases n with
  | zero => exact keeps_zero T.F_plain T.b_plain
  | succ n =>
  have F_Line_init := K_Line_init (P := P) (w := w) (base := base) T n
  have F_is_needless := K_is_needless (P := P) (w := w) (base := base) T n
  have F_places_without := K_places_without (P := P) (w := w) (base := base) T n
  have F_Line_kinds := K_Line_kinds (P := P) (w := w) (base := base) T n
  have F_Line_places := K_Line_places (P := P) (w := w) (base := base) T n
  have F_require_line := K_require_line (P := P) (w := w) (base := base) T n
  exact keeps_of T.F_plain sc_plain T.b_plain rfl rfl rfl (by decide) fun cdv A outer s H E o r =>
    (ss_cons (s_exp (k_call F_require_line T.g_require_line (r.mono (by decide)) (k_cons (e_var (pv 0)) k_nil)))
      (ss_cons (s_par2 o (i := 1) (j := 2) (owns := [false, false]) rfl rfl (by decide) rfl rfl (k_cons (k_prop (Cn := 0) T.cl_Line T.p_Line_places F_Line_places only_Line_places (r.mono (by decide)) (e_var (pv 0))) (k_cons (k_prop (Cn := 0) T.cl_Line T.p_Line_kinds F_Line_kinds only_Line_kinds (r.mono (by decide)) (e_var (pv 0))) k_nil)))
      (ss_cons (s_asg o (i := 3) (own := false) rfl (by first | exact .inl rfl | exact .inr rfl) k_int (by first | exact .inl rfl | exact .inr rfl))
      (ss_cons (s_whl PassesOwn.never (t_cmp (z_le o) (e_var (pv 3)) (k_blt (c_len o.hk) T.n_len (k_cons (e_var (pv 1)) k_nil))) (ss_cons (s_if (t_vl (k_call F_is_needless T.g_is_needless (r.mono (by decide)) (k_cons (e_var (pv 1)) (k_cons (e_var (pv 2)) (k_cons (e_var (pv 3)) k_nil))))) (ss_cons (s_asg o (i := 1) (own := false) rfl (by first | exact .inl rfl | exact .inr rfl) (k_call F_places_without T.g_places_without (r.mono (by decide)) (k_cons (e_var (pv 1)) (k_cons (e_var (pv 3)) k_nil))) (by first | exact .inl rfl | exact .inr rfl))
      (ss_cons (s_setDc o (i := 2) (w := false) rfl rfl (sw_trueD rfl rfl rfl (by decide +kernel)) (own := [("name", 4), ("times", 5)]) (p_itm (e_var (pv 2))) (blkOk_by (N := N_plain) (sc := defScope st_plain) (by decide +kernel)) (by decide) (fun _ _ _ _ _ => (g_tp o.blk (gn_cons o.blk (i := 4) rfl (by first | exact .inl rfl | exact .inr rfl) (by first | exact .inl rfl | exact .inr rfl) (gn_cons o.blk (i := 5) rfl (by first | exact .inl rfl | exact .inr rfl) (by first | exact .inl rfl | exact .inr rfl) gn_nil)))) (fun _ _ _ _ _ => kt_nil) (fun _ _ _ _ _ => (e_var (pv 4))) (fun _ _ _ _ _ => (k_bin (z_add o.blk) (k_sl o.blk (e_var (pv 5)) pb_none (pb_some rfl) po_none (po_some (e_var (pv 3)))) (k_sl o.blk (e_var (pv 5)) (pb_some rfl) pb_none (po_some (k_bin (z_add o.blk) (e_var (pv 3)) k_int)) po_none))))
      (ss_cons (s_asg o (i := 3) (own := false) rfl (by first | exact .inl rfl | exact .inr rfl) k_int (by first | exact .inl rfl | exact .inr rfl))
      ss_nil))) (ss_cons (s_aug o (i := 3) rfl (by first | exact .inl rfl | exact .inr rfl) k_int q_add (by first | exact .inl rfl | exact .inr rfl))
      ss_nil))
      ss_nil))
      (ss_cons (s_ret (k_new (C := 0) T.mk_Line F_Line_init rfl T.g_Line (r.mono (by decide)) (k_cons (e_var (pv 1)) (k_cons (e_var (pv 2)) k_nil))))
      ss_nil)))))
theorem K_law_wound (T : Tx K mg) : ∀ n, Keeps P w K mg base T.nm (runF Pr n 16) 1 T.A_law_wound := fun n => by
  cases n with
  | zero => exact keeps_zero T.F_law_wound T.b_law_wound
  | succ n =>
  exact keeps_of T.F_law_wound sc_law_wound T.b_law_wound rfl rfl rfl (by decide) fun cdv A outer s H E o r =>
    (ss_cons (s_asg o (i := 2) (own := false) rfl (by first | exact .inl rfl | exact .inr rfl) k_int (by first | exact .inl rfl | exact .inr rfl))
      (ss_cons (s_if (t_cmp (z_lt o) (e_var (pv 1)) (k_blt (c_len o.hk) T.n_len (k_cons (e_var (pv 0)) k_nil))) (ss_cons (s_asg o (i := 2) (own := false) rfl (by first | exact .inl rfl | exact .inr rfl) (k_sub o (e_var (pv 0)) (e_var (pv 1))) (by first | exact .inl rfl | exact .inr rfl))
      ss_nil) ss_nil)
      (ss_cons (s_ret (k_lst (k_cons (k_blt (c_max2 o.hc) T.n_max (k_cons k_int (k_cons (k_bin (z_sub o) (e_var (pv 2)) (k_bin (z_pow o) k_int k_int)) k_nil))) (k_cons (k_bin (z_add o) (k_bin (z_add o) (k_bin (z_mul o) (k_bin (z_mod o) (k_typ c_int T.n_int (k_cons (e_var (pv 2)) k_nil)) (k_bin (z_add o) (k_bin (z_pow o) k_int k_int) k_int)) k_int) (k_bin (z_mul o) k_int (e_var (pv 1)))) k_int) (k_cons k_int k_nil)))))
      ss_nil)))
theorem K_law_spin (T : Tx K mg) : ∀ n, Keeps P w K mg base T.nm (runF Pr n 17) 1 T.A_law_spin := fun n => by
  cases n with
  | zero => exact keeps_zero T.F_law_spin T.b_law_spin
  | succ n =>
  exact keeps_of T.F_law_spin sc_law_spin T.b_law_spin rfl rfl rfl (by decide) fun cdv A outer s H E o r =>
    (ss_cons (s_if (t_cmp (z_gt o) (k_sub o (e_var (pv 0)) k_int) k_int) (ss_cons (s_asg o (i := 2) (own := false) rfl (by first | exact .inl rfl | exact .inr rfl) (k_bin (z_mod o) (k_typ c_int T.n_int (k_cons (k_sub o (e_var (pv 0)) k_int) k_nil)) (e_var (pv 1))) (by first | exact .inl rfl | exact .inr rfl))
      (ss_cons (s_sub o (i := 0) (pv 0) k_int (k_bin (z_fdv o) (k_sub o (e_var (pv 0)) k_int) (e_var (pv 1))))
      (ss_cons (s_ret (e_var (pv 2)))
      ss_nil))) ss_nil)
      (ss_cons (s_sub o (i := 0) (pv 0) k_int (k_bin (z_add o) (k_sub o (e_var (pv 0)) k_int) k_int))
      (ss_cons (s_asg o (i := 3) (own := false) rfl (by first | exact .inl rfl | exact .inr rfl) (k_bin (z_mod o) (k_typ c_int T.n_int (k_cons (k_bin (z_pow o) (k_bin (z_add o) (k_sub o (e_var (pv 0)) k_int) (k_bin (z_mul o) k_int (k_sub o (e_var (pv 0)) k_int))) k_int) k_nil)) (k_bin (z_add o) (k_bin (z_pow o) k_int k_int) k_int)) (by first | exact .inl rfl | exact .inr rfl))
      (ss_cons (s_asg o (i := 3) (own := false) rfl (by first | exact .inl rfl | exact .inr rfl) (k_bin (z_mod o) (k_typ c_int T.n_int (k_cons (k_bin (z_pow o) (k_bin (z_add o) (e_var (pv 3)) (k_bin (z_mul o) k_int (k_sub o (e_var (pv 0)) k_int))) k_int) k_nil)) (k_bin (z_add o) (k_bin (z_pow o) k_int k_int) k_int)) (by first | exact .inl rfl | exact .inr rfl))
      (ss_cons (s_ret (k_bin (z_mod o) (k_typ c_int T.n_int (k_cons (k_bin (z_fdv o) (e_var (pv 3)) k_int) k_nil)) (e_var (pv 1))))
      ss_nil)))))
theorem K_law_mixed (T : Tx K mg) : ∀ n, Keeps P w K mg base T.nm (runF Pr n 18) 2 T.A_law_mixed := fun n => by
  cases n with
  | zero => exact keeps_zero T.F_law_mixed T.b_law_mixed
  | succ n =>
  have F_law_spin := K_law_spin (P := P) (w := w) (base := base) T n
  exact keeps_of T.F_law_mixed sc_law_mixed T.b_law_mixed rfl rfl rfl (by decide) fun cdv A outer s H E o r =>
    (ss_cons (s_par2 o (i := 2) (j := 3) (owns := [true, true]) rfl rfl (by decide) rfl rfl (k_cons (k_typ (c_list o.hc o.hk) T.n_list (k_cons (e_var (pv 1)) k_nil)) (k_cons (k_lst k_nil) k_nil)))
      (ss_cons (s_whl PassesOwn.never (t_cmp (z_ne o) (e_var (pv 2)) (k_lst k_nil)) (ss_cons (s_exp (k_mut (mo := .append) o PySem.F.slot_list_append PySem.F.type_list_append mt_append (pv 3) (k_cons (k_mut (mo := .popAt) o PySem.F.slot_list_pop PySem.F.type_list_pop mt_popAt (pv 2) (k_cons (k_call F_law_spin T.g_law_spin (r.mono (by decide)) (k_cons (e_var (pv 0)) (k_cons (k_blt (c_len o.hk) T.n_len (k_cons (e_var (pv 2)) k_nil)) k_nil))) k_nil)) k_nil)))
      ss_nil))
      (ss_cons (s_ret (e_var (pv 3)))
      ss_nil)))
theorem K_law_some_room (T : Tx K mg) : ∀ n, Keeps P w K mg base T.nm (runF Pr n 19) 2 T.A_law_some_room := fun n => by
  cases n with
  | zero => exact keeps_zero T.F_law_some_room T.b_law_some_room
  | succ n =>
  have F_law_spin := K_law_spin (P := P) (w := w) (base := base) T n
  exact keeps_of T.F_law_some_room sc_law_some_room T.b_law_some_room rfl rfl rfl (by decide) fun cdv A outer s H E o r =>
    (ss_cons (s_asg o (i := 2) (own := true) rfl (by first | exact .inl rfl | exact .inr rfl) (k_lst k_nil) (by first | exact .inl rfl | exact .inr rfl))
      (ss_cons (s_for o PassesOwn.never (p_rng T.n_range (k_bin (z_sub o) (e_var (pv 1)) k_int)) (g_nm o (i := 3) rfl (by first | exact .inl rfl | exact .inr rfl) (by first | exact .inl rfl | exact .inr rfl)) (ss_cons (s_exp (k_mut (mo := .append) o PySem.F.slot_list_append PySem.F.type_list_append mt_append (pv 2) (k_cons (k_blt (c_min2 o.hc) T.n_min (k_cons (k_sub o (k_lst (k_cons k_int (k_cons k_int (k_cons k_int (k_cons k_int (k_cons k_int k_nil)))))) (k_call F_law_spin T.g_law_spin (r.mono (by decide)) (k_cons (e_var (pv 0)) (k_cons k_int k_nil)))) (k_cons (k_bin (z_sub o) (k_bin (z_sub o) k_int (e_var (pv 1))) (k_blt (c_sum o.hc o.hk) T.n_sum (k_cons (e_var (pv 2)) k_nil))) k_nil))) k_nil)))
      ss_nil))
      (ss_cons (s_ret (e_var (pv 2)))
      ss_nil)))
theorem K_law_some_kinds (T : Tx K mg) : ∀ n, Keeps P w K mg base T.nm (runF Pr n 20) 3 T.A_law_some_kinds := fun n => by
  cases n with
  | zero => exact keeps_zero T.F_law_some_kinds T.b_law_some_kinds
  | succ n =>
  have F_law_mixed := K_law_mixed (P := P) (w := w) (base := base) T n
  have F_law_spin := K_law_spin (P := P) (w := w) (base := base) T n
  exact keeps_of T.F_law_some_kinds sc_law_some_kinds T.b_law_some_kinds rfl rfl rfl (by decide) fun cdv A outer s H E o r =>
    (ss_cons (s_asg o (i := 3) (own := true) rfl (by first | exact .inl rfl | exact .inr rfl) k_dn (by first | exact .inl rfl | exact .inr rfl))
      (ss_cons (s_for o PassesOwn.never (p_seq (k_sl o (k_call F_law_mixed T.g_law_mixed (r.mono (by decide)) (k_cons (e_var (pv 0)) (k_cons (k_lst (k_cons k_str (k_cons k_str (k_cons k_str (k_cons k_str (k_cons k_str k_nil)))))) k_nil))) pb_none (pb_some rfl) po_none (po_some (k_bin (z_add o) k_int (k_call F_law_spin T.g_law_spin (r.mono (by decide)) (k_cons (e_var (pv 0)) (k_cons k_int k_nil))))))) (g_nm o (i := 4) rfl (by first | exact .inl rfl | exact .inr rfl) (by first | exact .inl rfl | exact .inr rfl)) (ss_cons (s_sub o (i := 3) (pv 3) (e_var (pv 4)) (k_lc o (own := [("_law_turn", 5)]) (p_rng T.n_range (e_var (pv 1))) (blkOk_by (N := N_law_some_kinds) (sc := defScope st_law_some_kinds) (by decide +kernel)) (by decide) (fun _ _ _ _ _ => (g_nm o.blk (i := 5) rfl (by first | exact .inl rfl | exact .inr rfl) (by first | exact .inl rfl | exact .inr rfl))) (fun _ _ _ _ _ => kt_nil) (fun _ _ _ _ _ => (k_sub o.blk (k_lst (k_cons k_int (k_cons k_int (k_cons k_int (k_cons (k_call F_law_spin T.g_law_spin (r.mono (by decide)) (k_cons (e_var (pv 0)) (k_cons k_int k_nil))) (k_cons (k_call F_law_spin T.g_law_spin (r.mono (by decide)) (k_cons (e_var (pv 0)) (k_cons (e_var (pv 2)) k_nil))) k_nil)))))) (k_call F_law_spin T.g_law_spin (r.mono (by decide)) (k_cons (e_var (pv 0)) (k_cons k_int k_nil)))))))
      ss_nil))
      (ss_cons (s_ret (e_var (pv 3)))
      ss_nil)))
theorem K_law_idle_kinds (T : Tx K mg) : ∀ n, Keeps P w K mg base T.nm (runF Pr n 35) 4 T.A_law_idle_kinds := fun n => by
  cases n with
  | zero => exact keeps_zero T.F_law_idle_kinds T.b_law_idle_kinds
  | succ n =>
  have F_law_spin := K_law_spin (P := P) (w := w) (base := base) T n
  have F_law_mixed := K_law_mixed (P := P) (w := w) (base := base) T n
  have F_law_some_kinds := K_law_some_kinds (P := P) (w := w) (base := base) T n
  exact keeps_of T.F_law_idle_kinds sc_law_idle_kinds T.b_law_idle_kinds rfl rfl rfl (by decide) fun cdv A outer s H E o r =>
    (ss_cons (s_asg o (i := 2) (own := true) rfl (by first | exact .inl rfl | exact .inr rfl) (k_call F_law_some_kinds T.g_law_some_kinds (r.mono (by decide)) (k_cons (e_var (pv 0)) (k_cons (e_var (pv 1)) (k_cons k_int k_nil)))) (by first | exact .inl rfl | exact .inr rfl))
      (ss_cons (s_asg o (i := 3) (own := false) rfl (by first | exact .inl rfl | exact .inr rfl) (k_lc o (own := [("_law_station", 7)]) (p_rng T.n_range (e_var (pv 1))) (blkOk_by (N := N_law_idle_kinds) (sc := defScope st_law_idle_kinds) (by decide +kernel)) (by decide) (fun _ _ _ _ _ => (g_nm o.blk (i := 7) rfl (by first | exact .inl rfl | exact .inr rfl) (by first | exact .inl rfl | exact .inr rfl))) (fun _ _ _ _ _ => (kt_one (t_cmp (z_eq o.blk) (k_call F_law_spin T.g_law_spin (r.mono (by decide)) (k_cons (e_var (pv 0)) (k_cons k_int k_nil))) k_int))) (fun _ _ _ _ _ => (e_var (pv 7)))) (by first | exact .inl rfl | exact .inr rfl))
      (ss_cons (s_asg o (i := 4) (own := false) rfl (by first | exact .inl rfl | exact .inr rfl) (k_sub o (k_call F_law_mixed T.g_law_mixed (r.mono (by decide)) (k_cons (e_var (pv 0)) (k_cons (k_typ (c_list o.hc o.hk) T.n_list (k_cons (e_var (pv 2)) k_nil)) k_nil))) k_int) (by first | exact .inl rfl | exact .inr rfl))
      (ss_cons (s_asg o (i := 5) (own := false) rfl (by first | exact .inl rfl | exact .inr rfl) (k_cmp (z_eq o) (k_call F_law_spin T.g_law_spin (r.mono (by decide)) (k_cons (e_var (pv 0)) (k_cons k_int k_nil))) k_int) (by first | exact .inl rfl | exact .inr rfl))
      (ss_cons (s_for o PassesOwn.never (p_seq (k_blt (c_sorted o.hc o.hk) T.n_sorted (k_cons (e_var (pv 2)) k_nil))) (g_nm o (i := 6) rfl (by first | exact .inl rfl | exact .inr rfl) (by first | exact .inl rfl | exact .inr rfl)) (ss_cons (s_if (PW.pt (w_or (t_cmp (z_ne o) (e_var (pv 6)) (e_var (pv 4))) (w_or1 (t_not (t_vl (e_var (pv 5))))))) (ss_cons (s_sub o (i := 2) (pv 2) (e_var (pv 6)) (k_lc o (own := [("_law_station", 7), ("_law_time", 8)]) (p_enm T.n_enumerate (k_sub o (e_var (pv 2)) (e_var (pv 6)))) (blkOk_by (N := N_law_idle_kinds) (sc := defScope st_law_idle_kinds) (by decide +kernel)) (by decide) (fun _ _ _ _ _ => (g_tp o.blk (gn_cons o.blk (i := 7) rfl (by first | exact .inl rfl | exact .inr rfl) (by first | exact .inl rfl | exact .inr rfl) (gn_cons o.blk (i := 8) rfl (by first | exact .inl rfl | exact .inr rfl) (by first | exact .inl rfl | exact .inr rfl) gn_nil)))) (fun _ _ _ _ _ => kt_nil) (fun _ _ _ _ _ => (k_ite (t_cmp (z_in o.blk) (e_var (pv 7)) (e_var (pv 3))) k_int (e_var (pv 8))))))
      ss_nil) ss_nil)
      ss_nil))
      (ss_cons (s_ret (e_var (pv 2)))
      ss_nil))))))
theorem K_law_next (T : Tx K mg) : ∀ n, Keeps P w K mg base T.nm (runF Pr n 36) 1 T.A_law_next := fun n => by
  cases n with
  | zero => exact keeps_zero T.F_law_next T.b_law_next
  | succ n =>
  exact keeps_of T.F_law_next sc_law_next T.b_law_next rfl rfl rfl (by decide) fun cdv A outer s H E o r =>
    (ss_cons (s_if (t_cmp (z_eq o) (e_var (pv 0)) (k_lst k_nil)) (ss_cons (s_ret k_non)
      ss_nil) ss_nil)
      (ss_cons (s_for o PassesOwn.never (p_rng T.n_range (k_bin (z_add o) (k_blt (c_len o.hk) T.n_len (k_cons (e_var (pv 0)) k_nil)) k_int)) (g_nm o (i := 2) rfl (by first | exact .inl rfl | exact .inr rfl) (by first | exact .inl rfl | exact .inr rfl)) (ss_cons (s_if (t_cmp (z_eq o) (k_blt (c_sum o.hc o.hk) T.n_sum (k_cons (k_lc o (own := [("_law_name", 4)]) (p_seq (e_var (pv 1))) (blkOk_by (N := N_law_next) (sc := defScope st_law_next) (by decide +kernel)) (by decide) (fun _ _ _ _ _ => (g_nm o.blk (i := 4) rfl (by first | exact .inl rfl | exact .inr rfl) (by first | exact .inl rfl | exact .inr rfl))) (fun _ _ _ _ _ => kt_nil) (fun _ _ _ _ _ => (k_sub o.blk (k_sub o.blk (e_var (pv 1)) (e_var (pv 4))) (e_var (pv 2))))) k_nil)) k_int) (ss_cons (s_if (t_cmp (z_eq o) (e_var (pv 2)) k_int) (ss_cons (s_ret (k_tup (k_cons (e_var (pv 2)) (k_cons (k_sl o (e_var (pv 0)) (pb_some rfl) pb_none (po_some k_int) po_none) k_nil))))
      ss_nil) ss_nil)
      (ss_cons (s_if (t_cmp (z_eq o) (e_var (pv 2)) (k_blt (c_len o.hk) T.n_len (k_cons (e_var (pv 0)) k_nil))) (ss_cons (s_ret (k_tup (k_cons (e_var (pv 2)) (k_cons (k_sl o (e_var (pv 0)) pb_none (pb_some rfl) po_none (po_some (k_neg k_int))) k_nil))))
      ss_nil) ss_nil)
      (ss_cons (s_if (t_cmp (z_lt o) (k_bin (z_add o) (k_sub o (e_var (pv 0)) (k_bin (z_sub o) (e_var (pv 2)) k_int)) (k_sub o (e_var (pv 0)) (e_var (pv 2)))) k_int) (ss_cons (s_asg o (i := 3) (own := false) rfl (by first | exact .inl rfl | exact .inr rfl) (k_lst (k_cons (k_bin (z_add o) (k_bin (z_add o) (k_sub o (e_var (pv 0)) (k_bin (z_sub o) (e_var (pv 2)) k_int)) (k_sub o (e_var (pv 0)) (e_var (pv 2)))) k_int) k_nil)) (by first | exact .inl rfl | exact .inr rfl))
      (ss_cons (s_ret (k_tup (k_cons (e_var (pv 2)) (k_cons (k_bin (z_add o) (k_bin (z_add o) (k_sl o (e_var (pv 0)) pb_none (pb_some rfl) po_none (po_some (k_bin (z_sub o) (e_var (pv 2)) k_int))) (e_var (pv 3))) (k_sl o (e_var (pv 0)) (pb_some rfl) pb_none (po_some (k_bin (z_add o) (e_var (pv 2)) k_int)) po_none)) k_nil))))
      ss_nil)) ss_nil)
      ss_nil))) ss_nil)
      ss_nil))
      (ss_cons (s_ret k_non)
      ss_nil)))
theorem K_law_plain_due (T : Tx K mg) : ∀ n, Keeps P w K mg base T.nm (runF Pr n 37) 7 T.A_law_plain_due := fun n => by
  cases n with
  | zero => exact keeps_zero T.F_law_plain_due T.b_law_plain_due
  | succ n =>
  have F_Line_init := K_Line_init (P := P) (w := w) (base := base) T n
  have F_law_next := K_law_next (P := P) (w := w) (base := base) T n
  exact keeps_of T.F_law_plain_due sc_law_plain_due T.b_law_plain_due rfl rfl rfl (by decide) fun cdv A outer s H E o r =>
    (ss_cons (s_for o PassesOwn.never (p_rng T.n_range k_int) (g_nm o (i := 2) rfl (by first | exact .inl rfl | exact .inr rfl) (by first | exact .inl rfl | exact .inr rfl)) (ss_cons (s_asg o (i := 3) (own := false) rfl (by first | exact .inl rfl | exact .inr rfl) (k_call F_law_next T.g_law_next (r.mono (by decide)) (k_cons (e_var (pv 0)) (k_cons (e_var (pv 1)) k_nil))) (by first | exact .inl rfl | exact .inr rfl))
      (ss_cons (s_if (t_isnN (e_var (pv 3))) (ss_cons (s_asgT o (own := false) (fun _ => by intro z; cases z) (e_var (pv 3)) (g_tp o (gn_cons o (i := 4) rfl (by first | exact .inl rfl | exact .inr rfl) (by first | exact .inl rfl | exact .inr rfl) (gn_cons o (i := 0) rfl (by first | exact .inl rfl | exact .inr rfl) (by first | exact .inl rfl | exact .inr rfl) gn_nil))))
      (ss_cons (s_asg o (i := 1) (own := false) rfl (by first | exact .inl rfl | exact .inr rfl) (k_typ (c_dict o.hc o.hk) T.n_dict (k_cons (k_lc o (own := [("_law_name", 5)]) (p_seq (e_var (pv 1))) (blkOk_by (N := N_law_plain_due) (sc := defScope st_law_plain_due) (by decide +kernel)) (by decide) (fun _ _ _ _ _ => (g_nm o.blk (i := 5) rfl (by first | exact .inl rfl | exact .inr rfl) (by first | exact .inl rfl | exact .inr rfl))) (fun _ _ _ _ _ => kt_nil) (fun _ _ _ _ _ => (k_tup (k_cons (e_var (pv 5)) (k_cons (k_bin (z_add o.blk) (k_sl o.blk (k_sub o.blk (e_var (pv 1)) (e_var (pv 5))) pb_none (pb_some rfl) po_none (po_some (e_var (pv 4)))) (k_sl o.blk (k_sub o.blk (e_var (pv 1)) (e_var (pv 5))) (pb_some rfl) pb_none (po_some (k_bin (z_add o.blk) (e_var (pv 4)) k_int)) po_none)) k_nil))))) k_nil)) (by first | exact .inl rfl | exact .inr rfl))
      ss_nil)) ss_nil)
      ss_nil)))
      (ss_cons (s_ret (k_new (C := 0) T.mk_Line F_Line_init rfl T.g_Line (r.mono (by decide)) (k_cons (e_var (pv 0)) (k_cons (e_var (pv 1)) k_nil))))
      ss_nil))
theorem K_law (T : Tx K mg) (n : Nat) : FnOk P w K mg base L2.CX0 8 T.A_law T.D_law ["_law_script"] (sp0 T.nm (runF Pr (n + 1) 25)) := by
  have F_plain := K_plain (P := P) (w := w) (base := base) T n
  have F_Line_init := K_Line_init (P := P) (w := w) (base := base) T n
  have F_Line_kinds := K_Line_kinds (P := P) (w := w) (base := base) T n
  have F_Line_places := K_Line_places (P := P) (w := w) (base := base) T n
  have F_law_spin := K_law_spin (P := P) (w := w) (base := base) T n
  have F_law_plain_due := K_law_plain_due (P := P) (w := w) (base := base) T n
  have F_Line_eq := K_Line_eq (P := P) (w := w) (base := base) T n
  have F_law_idle_kinds := K_law_idle_kinds (P := P) (w := w) (base := base) T n
  have F_law_some_room := K_law_some_room (P := P) (w := w) (base := base) T n
  have F_law_wound := K_law_wound (P := P) (w := w) (base := base) T n
  exact fn_of T.F_law sc_law rfl rfl rfl (by decide) fun cdv A outer s H E o r =>
    (ss_cons (s_for o PassesOwn.never (p_rng T.n_range (k_blt (c_max2 o.hc) T.n_max (k_cons k_int (k_cons (k_blt (c_min2 o.hc) T.n_min (k_cons k_int (k_cons (k_blt (c_len o.hk) T.n_len (k_cons (e_var (pv 0)) k_nil)) k_nil))) k_nil)))) (g_nm o (i := 1) rfl (by first | exact .inl rfl | exact .inr rfl) (by first | exact .inl rfl | exact .inr rfl)) (ss_cons (s_asg o (i := 2) (own := true) rfl (by first | exact .inl rfl | exact .inr rfl) (k_call F_law_wound T.g_law_wound (r.mono (by decide)) (k_cons (e_var (pv 0)) (k_cons (e_var (pv 1)) k_nil))) (by first | exact .inl rfl | exact .inr rfl))
      (ss_cons (s_for o PassesOwn.never (p_seq (k_lst (k_cons (k_bin (z_add o) k_int (k_call F_law_spin T.g_law_spin (r.mono (by decide)) (k_cons (e_var (pv 2)) (k_cons k_int k_nil)))) (k_cons k_int (k_cons k_int (k_cons k_int (k_cons k_int k_nil))))))) (g_nm o (i := 3) rfl (by first | exact .inl rfl | exact .inr rfl) (by first | exact .inl rfl | exact .inr rfl)) (ss_cons (s_par2 o (i := 4) (j := 5) (owns := [false, false]) rfl rfl (by decide) rfl rfl (k_cons (k_call F_law_some_room T.g_law_some_room (r.mono (by decide)) (k_cons (e_var (pv 2)) (k_cons (e_var (pv 3)) k_nil))) (k_cons (k_call F_law_idle_kinds T.g_law_idle_kinds (r.mono (by decide)) (k_cons (e_var (pv 2)) (k_cons (e_var (pv 3)) k_nil))) k_nil)))
      (ss_cons (s_asg o (i := 6) (own := false) rfl (by first | exact .inl rfl | exact .inr rfl) (k_new (C := 0) T.mk_Line F_Line_init rfl T.g_Line (r.mono (by decide)) (k_cons (e_var (pv 4)) (k_cons (e_var (pv 5)) k_nil))) (by first | exact .inl rfl | exact .inr rfl))
      (ss_cons (s_asg o (i := 7) (own := false) rfl (by first | exact .inl rfl | exact .inr rfl) (k_call F_plain T.g_plain (r.mono (by decide)) (k_cons (e_var (pv 6)) k_nil)) (by first | exact .inl rfl | exact .inr rfl))
      (ss_cons (s_if (PW.pt (w_or (t_not (t_eqo (by intro C f h; have z := mtOf_some (tab := mtL) [(0, 11)] (by decide) h; simp only [List.mem_cons, Prod.mk.injEq, List.not_mem_nil, or_false] at z; rcases z with ⟨rfl, rfl⟩; · exact ⟨_, _, ⟨F_Line_eq, T.e_Line, T.ef_Line⟩, r.mono (by decide)⟩) (e_var (pv 7)) (k_call F_law_plain_due T.g_law_plain_due (r.mono (by decide)) (k_cons (e_var (pv 4)) (k_cons (e_var (pv 5)) k_nil))))) (w_or (t_not (t_eqo (by intro C f h; have z := mtOf_some (tab := mtL) [(0, 11)] (by decide) h; simp only [List.mem_cons, Prod.mk.injEq, List.not_mem_nil, or_false] at z; rcases z with ⟨rfl, rfl⟩; · exact ⟨_, _, ⟨F_Line_eq, T.e_Line, T.ef_Line⟩, r.mono (by decide)⟩) (k_call F_plain T.g_plain (r.mono (by decide)) (k_cons (e_var (pv 7)) k_nil)) (e_var (pv 7)))) (w_or1 (t_not (t_eqo (by intro C f h; have z := mtOf_some (tab := mtL) [(0, 11)] (by decide) h; simp only [List.mem_cons, Prod.mk.injEq, List.not_mem_nil, or_false] at z; rcases z with ⟨rfl, rfl⟩; · exact ⟨_, _, ⟨F_Line_eq, T.e_Line, T.ef_Line⟩, r.mono (by decide)⟩) (e_var (pv 6)) (k_new (C := 0) T.mk_Line F_Line_init rfl T.g_Line (r.mono (by decide)) (k_cons (e_var (pv 4)) (k_cons (e_var (pv 5)) k_nil))))))))) (ss_cons (s_ret k_bl)
      ss_nil) ss_nil)
      ss_nil)))))
      ss_nil)))
      (ss_cons (s_if (t_cmp (z_ne o) (k_prop (Cn := 0) T.cl_Line T.p_Line_places F_Line_places only_Line_places (r.mono (by decide)) (k_call F_plain T.g_plain (r.mono (by decide)) (k_cons (k_new (C := 0) T.mk_Line F_Line_init rfl T.g_Line (r.mono (by decide)) (k_cons (k_lst (k_cons k_int (k_cons k_int (k_cons k_int k_nil)))) (k_cons (k_dct (kp_cons kq_str (k_lst (k_cons k_int (k_cons k_int (k_cons k_int (k_cons k_int k_nil))))) (kp_nil (ks := [])))) k_nil))) k_nil))) (k_lst (k_cons k_int (k_cons k_int k_nil)))) (ss_cons (s_ret k_bl)
      ss_nil) ss_nil)
      (ss_cons (s_asg o (i := 8) (own := false) rfl (by first | exact .inl rfl | exact .inr rfl) (k_call F_plain T.g_plain (r.mono (by decide)) (k_cons (k_new (C := 0) T.mk_Line F_Line_init rfl T.g_Line (r.mono (by decide)) (k_cons (k_lst (k_cons k_int (k_cons k_int k_nil))) (k_cons (k_dct (kp_cons kq_str (k_lst (k_cons k_int (k_cons k_int (k_cons k_int k_nil)))) (kp_cons kq_str (k_lst (k_cons k_int (k_cons k_int (k_cons k_int k_nil)))) (kp_nil (ks := []))))) k_nil))) k_nil)) (by first | exact .inl rfl | exact .inr rfl))
      (ss_cons (s_if (t_cmp (z_ne o) (k_lst (k_cons (k_prop (Cn := 0) T.cl_Line T.p_Line_places F_Line_places only_Line_places (r.mono (by decide)) (e_var (pv 8))) (k_cons (k_prop (Cn := 0) T.cl_Line T.p_Line_kinds F_Line_kinds only_Line_kinds (r.mono (by decide)) (e_var (pv 8))) k_nil))) (k_lst (k_cons (k_lst k_nil) (k_cons (k_dct (kp_cons kq_str (k_lst (k_cons k_int k_nil)) (kp_cons kq_str (k_lst (k_cons k_int k_nil)) (kp_nil (ks := []))))) k_nil)))) (ss_cons (s_ret k_bl)
      ss_nil) ss_nil)
      (ss_cons (s_ret (k_cmp (z_eq o) (k_prop (Cn := 0) T.cl_Line T.p_Line_kinds F_Line_kinds only_Line_kinds (r.mono (by decide)) (k_call F_plain T.g_plain (r.mono (by decide)) (k_cons (k_new (C := 0) T.mk_Line F_Line_init rfl T.g_Line (r.mono (by decide)) (k_cons (k_lst (k_cons k_int (k_cons k_int (k_cons k_int k_nil)))) (k_cons (k_dct (kp_cons kq_str (k_lst (k_cons k_int (k_cons k_int (k_cons k_int (k_cons k_int k_nil))))) (kp_nil (ks := [])))) k_nil))) k_nil))) (k_dct (kp_cons kq_str (k_lst (k_cons k_int k_nil)) (kp_nil (ks := []))))))
      ss_nil)))))
end
end L03

set_option Elab.async false
set_option linter.all false
set_option maxRecDepth 100000
set_option maxHeartbeats 4000000
namespace L03
open PySem L2 PV
def Plain : Prop := ∀ ns : List Int, ns.length ≤ 63 → (∀ z ∈ ns, Builtin.Int.intBits z ≤ 1048576) → ∃ os, runF Pr 41 25 [.fz (.lst (ns.map D.int))] = .ok (.f (.bl true)) os
theorem all_mk {l : PySem.W.OpenLaw} {w : World} {K : PySem.W.Frag} {h : Heap} {mg : Str → Option Value} {fa C_Line A_is_int A_is_whole A_is_time A_is_name A_valid_places A_require_kinds A_Line_init A_Line_places P_Line_places A_Line_kinds P_Line_kinds A_Line_stations P_Line_stations A_Line_eq A_require_line A_is_needless A_places_without A_plain A_law_wound A_law_spin A_law_mixed A_law_some_room A_law_some_kinds A_law_idle_kinds A_law_next A_law_plain_due A_law : Addr} {od_is_int an_is_int : Option Addr} {sl_is_int : Array (Option Value)} {oc_is_int kV_is_int dc_is_int pm_is_int cd_is_int ct_is_int : Value} {od_is_whole an_is_whole : Option Addr} {sl_is_whole : Array (Option Value)} {oc_is_whole kV_is_whole dc_is_whole pm_is_whole cd_is_whole ct_is_whole : Value} {od_is_time an_is_time : Option Addr} {sl_is_time : Array (Option Value)} {oc_is_time kV_is_time dc_is_time pm_is_time cd_is_time ct_is_time : Value} {od_is_name an_is_name : Option Addr} {sl_is_name : Array (Option Value)} {oc_is_name kV_is_name dc_is_name pm_is_name cd_is_name ct_is_name : Value} {od_valid_places an_valid_places : Option Addr} {sl_valid_places : Array (Option Value)} {oc_valid_places kV_valid_places dc_valid_places pm_valid_places cd_valid_places ct_valid_places : Value} {od_require_kinds an_require_kinds : Option Addr} {sl_require_kinds : Array (Option Value)} {oc_require_kinds kV_require_kinds dc_require_kinds pm_require_kinds cd_require_kinds ct_require_kinds : Value} {od_Line_init an_Line_init : Option Addr} {sl_Line_init : Array (Option Value)} {oc_Line_init kV_Line_init dc_Line_init pm_Line_init cd_Line_init ct_Line_init : Value} {od_Line_places an_Line_places : Option Addr} {sl_Line_places : Array (Option Value)} {oc_Line_places kV_Line_places dc_Line_places pm_Line_places cd_Line_places ct_Line_places : Value} {rest_Line_places : List Value} {od_Line_kinds an_Line_kinds : Option Addr} {sl_Line_kinds : Array (Option Value)} {oc_Line_kinds kV_Line_kinds dc_Line_kinds pm_Line_kinds cd_Line_kinds ct_Line_kinds : Value} {rest_Line_kinds : List Value} {od_Line_stations an_Line_stations : Option Addr} {sl_Line_stations : Array (Option Value)} {oc_Line_stations kV_Line_stations dc_Line_stations pm_Line_stations cd_Line_stations ct_Line_stations : Value} {rest_Line_stations : List Value} {od_Line_eq an_Line_eq : Option Addr} {sl_Line_eq : Array (Option Value)} {oc_Line_eq kV_Line_eq dc_Line_eq pm_Line_eq cd_Line_eq ct_Line_eq : Value} {od_require_line an_require_line : Option Addr} {sl_require_line : Array (Option Value)} {oc_require_line kV_require_line dc_require_line pm_require_line cd_require_line ct_require_line : Value} {od_is_needless an_is_needless : Option Addr} {sl_is_needless : Array (Option Value)} {oc_is_needless kV_is_needless dc_is_needless pm_is_needless cd_is_needless ct_is_needless : Value} {od_places_without an_places_without : Option Addr} {sl_places_without : Array (Option Value)} {oc_places_without kV_places_without dc_places_without pm_places_without cd_places_without ct_places_without : Value} {od_plain an_plain : Option Addr} {sl_plain : Array (Option Value)} {oc_plain kV_plain dc_plain pm_plain cd_plain ct_plain : Value} {od_law_wound an_law_wound : Option Addr} {sl_law_wound : Array (Option Value)} {oc_law_wound kV_law_wound dc_law_wound pm_law_wound cd_law_wound ct_law_wound : Value} {od_law_spin an_law_spin : Option Addr} {sl_law_spin : Array (Option Value)} {oc_law_spin kV_law_spin dc_law_spin pm_law_spin cd_law_spin ct_law_spin : Value} {od_law_mixed an_law_mixed : Option Addr} {sl_law_mixed : Array (Option Value)} {oc_law_mixed kV_law_mixed dc_law_mixed pm_law_mixed cd_law_mixed ct_law_mixed : Value} {od_law_some_room an_law_some_room : Option Addr} {sl_law_some_room : Array (Option Value)} {oc_law_some_room kV_law_some_room dc_law_some_room pm_law_some_room cd_law_some_room ct_law_some_room : Value} {od_law_some_kinds an_law_some_kinds : Option Addr} {sl_law_some_kinds : Array (Option Value)} {oc_law_some_kinds kV_law_some_kinds dc_law_some_kinds pm_law_some_kinds cd_law_some_kinds ct_law_some_kinds : Value} {od_law_idle_kinds an_law_idle_kinds : Option Addr} {sl_law_idle_kinds : Array (Option Value)} {oc_law_idle_kinds kV_law_idle_kinds dc_law_idle_kinds pm_law_idle_kinds cd_law_idle_kinds ct_law_idle_kinds : Value} {od_law_next an_law_next : Option Addr} {sl_law_next : Array (Option Value)} {oc_law_next kV_law_next dc_law_next pm_law_next cd_law_next ct_law_next : Value} {od_law_plain_due an_law_plain_due : Option Addr} {sl_law_plain_due : Array (Option Value)} {oc_law_plain_due kV_law_plain_due dc_law_plain_due pm_law_plain_due cd_law_plain_due ct_law_plain_due : Value} {od_law an_law : Option Addr} {sl_law : Array (Option Value)} {oc_law kV_law dc_law pm_law cd_law ct_law : Value} {t_MOST_KINDS : Nat} {t_MOST_NUMBER : Nat} {t_MOST_NUMBERS : Nat} {t_MOST_PLACES : Nat} {t_MOST_STATIONS : Nat} (X : K.In h) (G : h.Ns mainGlobals mg) (hfa : mg "law" = some (.ref fa)) (plain : Plain)
    (gC_Line : PySem.W.nsIn K mainGlobals "Line" = some (some (.ref C_Line)))
    (pg_Line : PySem.W.plainGet K C_Line Str.empty = true)
    (hd_Line : PySem.W.hasDictIn K C_Line = true)
    (po_Line : PySem.W.plainOver K C_Line = true)
    (sa_Line : PySem.W.findIn K (.ref C_Line) "__setattr__" = some (some (.builtin "object.__setattr__")))
    (ha_Line : PySem.W.findIn K (.ref C_Line) "__class__" = some (some (.builtin "object.__class__")))
    (hn_Line : PySem.W.specialIn K (.builtin "object.__class__") "__get__" = some (some (.builtin "getset_descriptor.__get__")))
    (ht_Line : PySem.W.takesIn K (.builtin "object.__class__") = some true)
    (hm_Line : PySem.W.mroIn K C_Line (.type "object") = some true)
    (is_Line : PySem.W.isClsIn K C_Line = true)
    (ty_Line : PySem.W.typeIn K (.ref C_Line) = some (.type "type"))
    (noNoneType_Line : PySem.W.subIn K (.type "NoneType") (.ref C_Line) = some false)
    (nobool_Line : PySem.W.subIn K (.type "bool") (.ref C_Line) = some false)
    (noint_Line : PySem.W.subIn K (.type "int") (.ref C_Line) = some false)
    (nostr_Line : PySem.W.subIn K (.type "str") (.ref C_Line) = some false)
    (nolist_Line : PySem.W.subIn K (.type "list") (.ref C_Line) = some false)
    (notuple_Line : PySem.W.subIn K (.type "tuple") (.ref C_Line) = some false)
    (nodict_Line : PySem.W.subIn K (.type "dict") (.ref C_Line) = some false)
    (a_is_int : PySem.W.nsIn K mainGlobals "is_int" = some (some (.ref A_is_int)))
    (l_is_int : K.lookup A_is_int = some ⟨oc_is_int, od_is_int, .func (PySem.W.fnOf "is_int" "is_int" (defArgs st_is_int) (defBody st_is_int) (defScope st_is_int) .none kV_is_int dc_is_int pm_is_int an_is_int cd_is_int ct_is_int), sl_is_int⟩)
    (c_is_int : PySem.W.codeIn K cd_is_int "is_int" = true)
    (k_is_int : PySem.W.keepIn K (.ref A_is_int) = true)
    (a_is_whole : PySem.W.nsIn K mainGlobals "is_whole" = some (some (.ref A_is_whole)))
    (l_is_whole : K.lookup A_is_whole = some ⟨oc_is_whole, od_is_whole, .func (PySem.W.fnOf "is_whole" "is_whole" (defArgs st_is_whole) (defBody st_is_whole) (defScope st_is_whole) .none kV_is_whole dc_is_whole pm_is_whole an_is_whole cd_is_whole ct_is_whole), sl_is_whole⟩)
    (c_is_whole : PySem.W.codeIn K cd_is_whole "is_whole" = true)
    (k_is_whole : PySem.W.keepIn K (.ref A_is_whole) = true)
    (a_is_time : PySem.W.nsIn K mainGlobals "is_time" = some (some (.ref A_is_time)))
    (l_is_time : K.lookup A_is_time = some ⟨oc_is_time, od_is_time, .func (PySem.W.fnOf "is_time" "is_time" (defArgs st_is_time) (defBody st_is_time) (defScope st_is_time) .none kV_is_time dc_is_time pm_is_time an_is_time cd_is_time ct_is_time), sl_is_time⟩)
    (c_is_time : PySem.W.codeIn K cd_is_time "is_time" = true)
    (k_is_time : PySem.W.keepIn K (.ref A_is_time) = true)
    (a_is_name : PySem.W.nsIn K mainGlobals "is_name" = some (some (.ref A_is_name)))
    (l_is_name : K.lookup A_is_name = some ⟨oc_is_name, od_is_name, .func (PySem.W.fnOf "is_name" "is_name" (defArgs st_is_name) (defBody st_is_name) (defScope st_is_name) .none kV_is_name dc_is_name pm_is_name an_is_name cd_is_name ct_is_name), sl_is_name⟩)
    (c_is_name : PySem.W.codeIn K cd_is_name "is_name" = true)
    (k_is_name : PySem.W.keepIn K (.ref A_is_name) = true)
    (a_valid_places : PySem.W.nsIn K mainGlobals "valid_places" = some (some (.ref A_valid_places)))
    (l_valid_places : K.lookup A_valid_places = some ⟨oc_valid_places, od_valid_places, .func (PySem.W.fnOf "valid_places" "valid_places" (defArgs st_valid_places) (defBody st_valid_places) (defScope st_valid_places) .none kV_valid_places dc_valid_places pm_valid_places an_valid_places cd_valid_places ct_valid_places), sl_valid_places⟩)
    (c_valid_places : PySem.W.codeIn K cd_valid_places "valid_places" = true)
    (k_valid_places : PySem.W.keepIn K (.ref A_valid_places) = true)
    (a_require_kinds : PySem.W.nsIn K mainGlobals "require_kinds" = some (some (.ref A_require_kinds)))
    (l_require_kinds : K.lookup A_require_kinds = some ⟨oc_require_kinds, od_require_kinds, .func (PySem.W.fnOf "require_kinds" "require_kinds" (defArgs st_require_kinds) (defBody st_require_kinds) (defScope st_require_kinds) .none kV_require_kinds dc_require_kinds pm_require_kinds an_require_kinds cd_require_kinds ct_require_kinds), sl_require_kinds⟩)
    (c_require_kinds : PySem.W.codeIn K cd_require_kinds "require_kinds" = true)
    (k_require_kinds : PySem.W.keepIn K (.ref A_require_kinds) = true)
    (a_Line_init : PySem.W.findIn K (.ref C_Line) "__init__" = some (some (.ref A_Line_init)))
    (l_Line_init : K.lookup A_Line_init = some ⟨oc_Line_init, od_Line_init, .func (PySem.W.fnOf "__init__" "Line.__init__" (defArgs st_Line_init) (defBody st_Line_init) (defScope st_Line_init) .none kV_Line_init dc_Line_init pm_Line_init an_Line_init cd_Line_init ct_Line_init), sl_Line_init⟩)
    (c_Line_init : PySem.W.codeIn K cd_Line_init "Line.__init__" = true)
    (k_Line_init : PySem.W.keepIn K (.ref A_Line_init) = true)
    (i_Line_init : PySem.W.isFn K (.ref A_Line_init) = true)
    (mk_Line : PySem.W.makesIn K C_Line = true)
    (kc_Line : PySem.W.keepIn K (.ref C_Line) = true)
    (a_Line_places : PySem.W.findIn K (.ref C_Line) "places" = some (some (.ref P_Line_places)))
    (pget_Line_places : PySem.W.specialIn K (.ref P_Line_places) "__get__" = some (some (.builtin "property.__get__")))
    (ptak_Line_places : PySem.W.takesIn K (.ref P_Line_places) = some true)
    (prec_Line_places : PySem.W.recIn K P_Line_places "property" = some (.ref A_Line_places :: rest_Line_places))
    (l_Line_places : K.lookup A_Line_places = some ⟨oc_Line_places, od_Line_places, .func (PySem.W.fnOf "places" "Line.places" (defArgs st_Line_places) (defBody st_Line_places) (defScope st_Line_places) .none kV_Line_places dc_Line_places pm_Line_places an_Line_places cd_Line_places ct_Line_places), sl_Line_places⟩)
    (c_Line_places : PySem.W.codeIn K cd_Line_places "Line.places" = true)
    (k_Line_places : PySem.W.keepIn K (.ref A_Line_places) = true)
    (a_Line_kinds : PySem.W.findIn K (.ref C_Line) "kinds" = some (some (.ref P_Line_kinds)))
    (pget_Line_kinds : PySem.W.specialIn K (.ref P_Line_kinds) "__get__" = some (some (.builtin "property.__get__")))
    (ptak_Line_kinds : PySem.W.takesIn K (.ref P_Line_kinds) = some true)
    (prec_Line_kinds : PySem.W.recIn K P_Line_kinds "property" = some (.ref A_Line_kinds :: rest_Line_kinds))
    (l_Line_kinds : K.lookup A_Line_kinds = some ⟨oc_Line_kinds, od_Line_kinds, .func (PySem.W.fnOf "kinds" "Line.kinds" (defArgs st_Line_kinds) (defBody st_Line_kinds) (defScope st_Line_kinds) .none kV_Line_kinds dc_Line_kinds pm_Line_kinds an_Line_kinds cd_Line_kinds ct_Line_kinds), sl_Line_kinds⟩)
    (c_Line_kinds : PySem.W.codeIn K cd_Line_kinds "Line.kinds" = true)
    (k_Line_kinds : PySem.W.keepIn K (.ref A_Line_kinds) = true)
    (a_Line_stations : PySem.W.findIn K (.ref C_Line) "stations" = some (some (.ref P_Line_stations)))
    (pget_Line_stations : PySem.W.specialIn K (.ref P_Line_stations) "__get__" = some (some (.builtin "property.__get__")))
    (ptak_Line_stations : PySem.W.takesIn K (.ref P_Line_stations) = some true)
    (prec_Line_stations : PySem.W.recIn K P_Line_stations "property" = some (.ref A_Line_stations :: rest_Line_stations))
    (l_Line_stations : K.lookup A_Line_stations = some ⟨oc_Line_stations, od_Line_stations, .func (PySem.W.fnOf "stations" "Line.stations" (defArgs st_Line_stations) (defBody st_Line_stations) (defScope st_Line_stations) .none kV_Line_stations dc_Line_stations pm_Line_stations an_Line_stations cd_Line_stations ct_Line_stations), sl_Line_stations⟩)
    (c_Line_stations : PySem.W.codeIn K cd_Line_stations "Line.stations" = true)
    (k_Line_stations : PySem.W.keepIn K (.ref A_Line_stations) = true)
    (a_Line_eq : PySem.W.findIn K (.ref C_Line) "__eq__" = some (some (.ref A_Line_eq)))
    (l_Line_eq : K.lookup A_Line_eq = some ⟨oc_Line_eq, od_Line_eq, .func (PySem.W.fnOf "__eq__" "Line.__eq__" (defArgs st_Line_eq) (defBody st_Line_eq) (defScope st_Line_eq) .none kV_Line_eq dc_Line_eq pm_Line_eq an_Line_eq cd_Line_eq ct_Line_eq), sl_Line_eq⟩)
    (c_Line_eq : PySem.W.codeIn K cd_Line_eq "Line.__eq__" = true)
    (k_Line_eq : PySem.W.keepIn K (.ref A_Line_eq) = true)
    (i_Line_eq : PySem.W.isFn K (.ref A_Line_eq) = true)
    (a_require_line : PySem.W.nsIn K mainGlobals "require_line" = some (some (.ref A_require_line)))
    (l_require_line : K.lookup A_require_line = some ⟨oc_require_line, od_require_line, .func (PySem.W.fnOf "require_line" "require_line" (defArgs st_require_line) (defBody st_require_line) (defScope st_require_line) .none kV_require_line dc_require_line pm_require_line an_require_line cd_require_line ct_require_line), sl_require_line⟩)
    (c_require_line : PySem.W.codeIn K cd_require_line "require_line" = true)
    (k_require_line : PySem.W.keepIn K (.ref A_require_line) = true)
    (a_is_needless : PySem.W.nsIn K mainGlobals "is_needless" = some (some (.ref A_is_needless)))
    (l_is_needless : K.lookup A_is_needless = some ⟨oc_is_needless, od_is_needless, .func (PySem.W.fnOf "is_needless" "is_needless" (defArgs st_is_needless) (defBody st_is_needless) (defScope st_is_needless) .none kV_is_needless dc_is_needless pm_is_needless an_is_needless cd_is_needless ct_is_needless), sl_is_needless⟩)
    (c_is_needless : PySem.W.codeIn K cd_is_needless "is_needless" = true)
    (k_is_needless : PySem.W.keepIn K (.ref A_is_needless) = true)
    (a_places_without : PySem.W.nsIn K mainGlobals "places_without" = some (some (.ref A_places_without)))
    (l_places_without : K.lookup A_places_without = some ⟨oc_places_without, od_places_without, .func (PySem.W.fnOf "places_without" "places_without" (defArgs st_places_without) (defBody st_places_without) (defScope st_places_without) .none kV_places_without dc_places_without pm_places_without an_places_without cd_places_without ct_places_without), sl_places_without⟩)
    (c_places_without : PySem.W.codeIn K cd_places_without "places_without" = true)
    (k_places_without : PySem.W.keepIn K (.ref A_places_without) = true)
    (a_plain : PySem.W.nsIn K mainGlobals "plain" = some (some (.ref A_plain)))
    (l_plain : K.lookup A_plain = some ⟨oc_plain, od_plain, .func (PySem.W.fnOf "plain" "plain" (defArgs st_plain) (defBody st_plain) (defScope st_plain) .none kV_plain dc_plain pm_plain an_plain cd_plain ct_plain), sl_plain⟩)
    (c_plain : PySem.W.codeIn K cd_plain "plain" = true)
    (k_plain : PySem.W.keepIn K (.ref A_plain) = true)
    (a_law_wound : PySem.W.nsIn K mainGlobals "_law_wound" = some (some (.ref A_law_wound)))
    (l_law_wound : K.lookup A_law_wound = some ⟨oc_law_wound, od_law_wound, .func (PySem.W.fnOf "_law_wound" "_law_wound" (defArgs st_law_wound) (defBody st_law_wound) (defScope st_law_wound) .none kV_law_wound dc_law_wound pm_law_wound an_law_wound cd_law_wound ct_law_wound), sl_law_wound⟩)
    (c_law_wound : PySem.W.codeIn K cd_law_wound "_law_wound" = true)
    (k_law_wound : PySem.W.keepIn K (.ref A_law_wound) = true)
    (a_law_spin : PySem.W.nsIn K mainGlobals "_law_spin" = some (some (.ref A_law_spin)))
    (l_law_spin : K.lookup A_law_spin = some ⟨oc_law_spin, od_law_spin, .func (PySem.W.fnOf "_law_spin" "_law_spin" (defArgs st_law_spin) (defBody st_law_spin) (defScope st_law_spin) .none kV_law_spin dc_law_spin pm_law_spin an_law_spin cd_law_spin ct_law_spin), sl_law_spin⟩)
    (c_law_spin : PySem.W.codeIn K cd_law_spin "_law_spin" = true)
    (k_law_spin : PySem.W.keepIn K (.ref A_law_spin) = true)
    (a_law_mixed : PySem.W.nsIn K mainGlobals "_law_mixed" = some (some (.ref A_law_mixed)))
    (l_law_mixed : K.lookup A_law_mixed = some ⟨oc_law_mixed, od_law_mixed, .func (PySem.W.fnOf "_law_mixed" "_law_mixed" (defArgs st_law_mixed) (defBody st_law_mixed) (defScope st_law_mixed) .none kV_law_mixed dc_law_mixed pm_law_mixed an_law_mixed cd_law_mixed ct_law_mixed), sl_law_mixed⟩)
    (c_law_mixed : PySem.W.codeIn K cd_law_mixed "_law_mixed" = true)
    (k_law_mixed : PySem.W.keepIn K (.ref A_law_mixed) = true)
    (a_law_some_room : PySem.W.nsIn K mainGlobals "_law_some_room" = some (some (.ref A_law_some_room)))
    (l_law_some_room : K.lookup A_law_some_room = some ⟨oc_law_some_room, od_law_some_room, .func (PySem.W.fnOf "_law_some_room" "_law_some_room" (defArgs st_law_some_room) (defBody st_law_some_room) (defScope st_law_some_room) .none kV_law_some_room dc_law_some_room pm_law_some_room an_law_some_room cd_law_some_room ct_law_some_room), sl_law_some_room⟩)
    (c_law_some_room : PySem.W.codeIn K cd_law_some_room "_law_some_room" = true)
    (k_law_some_room : PySem.W.keepIn K (.ref A_law_some_room) = true)
    (a_law_some_kinds : PySem.W.nsIn K mainGlobals "_law_some_kinds" = some (some (.ref A_law_some_kinds)))
    (l_law_some_kinds : K.lookup A_law_some_kinds = some ⟨oc_law_some_kinds, od_law_some_kinds, .func (PySem.W.fnOf "_law_some_kinds" "_law_some_kinds" (defArgs st_law_some_kinds) (defBody st_law_some_kinds) (defScope st_law_some_kinds) .none kV_law_some_kinds dc_law_some_kinds pm_law_some_kinds an_law_some_kinds cd_law_some_kinds ct_law_some_kinds), sl_law_some_kinds⟩)
    (c_law_some_kinds : PySem.W.codeIn K cd_law_some_kinds "_law_some_kinds" = true)
    (k_law_some_kinds : PySem.W.keepIn K (.ref A_law_some_kinds) = true)
    (a_law_idle_kinds : PySem.W.nsIn K mainGlobals "_law_idle_kinds" = some (some (.ref A_law_idle_kinds)))
    (l_law_idle_kinds : K.lookup A_law_idle_kinds = some ⟨oc_law_idle_kinds, od_law_idle_kinds, .func (PySem.W.fnOf "_law_idle_kinds" "_law_idle_kinds" (defArgs st_law_idle_kinds) (defBody st_law_idle_kinds) (defScope st_law_idle_kinds) .none kV_law_idle_kinds dc_law_idle_kinds pm_law_idle_kinds an_law_idle_kinds cd_law_idle_kinds ct_law_idle_kinds), sl_law_idle_kinds⟩)
    (c_law_idle_kinds : PySem.W.codeIn K cd_law_idle_kinds "_law_idle_kinds" = true)
    (k_law_idle_kinds : PySem.W.keepIn K (.ref A_law_idle_kinds) = true)
    (a_law_next : PySem.W.nsIn K mainGlobals "_law_next" = some (some (.ref A_law_next)))
    (l_law_next : K.lookup A_law_next = some ⟨oc_law_next, od_law_next, .func (PySem.W.fnOf "_law_next" "_law_next" (defArgs st_law_next) (defBody st_law_next) (defScope st_law_next) .none kV_law_next dc_law_next pm_law_next an_law_next cd_law_next ct_law_next), sl_law_next⟩)
    (c_law_next : PySem.W.codeIn K cd_law_next "_law_next" = true)
    (k_law_next : PySem.W.keepIn K (.ref A_law_next) = true)
    (a_law_plain_due : PySem.W.nsIn K mainGlobals "_law_plain_due" = some (some (.ref A_law_plain_due)))
    (l_law_plain_due : K.lookup A_law_plain_due = some ⟨oc_law_plain_due, od_law_plain_due, .func (PySem.W.fnOf "_law_plain_due" "_law_plain_due" (defArgs st_law_plain_due) (defBody st_law_plain_due) (defScope st_law_plain_due) .none kV_law_plain_due dc_law_plain_due pm_law_plain_due an_law_plain_due cd_law_plain_due ct_law_plain_due), sl_law_plain_due⟩)
    (c_law_plain_due : PySem.W.codeIn K cd_law_plain_due "_law_plain_due" = true)
    (k_law_plain_due : PySem.W.keepIn K (.ref A_law_plain_due) = true)
    (a_law : PySem.W.nsIn K mainGlobals "law" = some (some (.ref A_law)))
    (l_law : K.lookup A_law = some ⟨oc_law, od_law, .func (PySem.W.fnOf "law" "law" (defArgs st_law) (defBody st_law) (defScope st_law) .none kV_law dc_law pm_law an_law cd_law ct_law), sl_law⟩)
    (c_law : PySem.W.codeIn K cd_law "law" = true)
    (k_law : PySem.W.keepIn K (.ref A_law) = true)
    (na_Line_own_places : PySem.W.findIn K (.ref C_Line) "own_places" = some none)
    (na_Line_own_kinds : PySem.W.findIn K (.ref C_Line) "own_kinds" = some none)
    (v_MOST_KINDS : PySem.W.nsIn K mainGlobals "MOST_KINDS" = some (some (.int 6 t_MOST_KINDS)))
    (v_MOST_NUMBER : PySem.W.nsIn K mainGlobals "MOST_NUMBER" = some (some (.int 1000000000000000000000000000000 t_MOST_NUMBER)))
    (v_MOST_NUMBERS : PySem.W.nsIn K mainGlobals "MOST_NUMBERS" = some (some (.int 10 t_MOST_NUMBERS)))
    (v_MOST_PLACES : PySem.W.nsIn K mainGlobals "MOST_PLACES" = some (some (.int 3 t_MOST_PLACES)))
    (v_MOST_STATIONS : PySem.W.nsIn K mainGlobals "MOST_STATIONS" = some (some (.int 5 t_MOST_STATIONS)))
    (z_all : PySem.W.nsIn K mainGlobals "all" = some none)
    (z_any : PySem.W.nsIn K mainGlobals "any" = some none)
    (z_bool : PySem.W.nsIn K mainGlobals "bool" = some none)
    (z_dict : PySem.W.nsIn K mainGlobals "dict" = some none)
    (z_enumerate : PySem.W.nsIn K mainGlobals "enumerate" = some none)
    (z_int : PySem.W.nsIn K mainGlobals "int" = some none)
    (z_isinstance : PySem.W.nsIn K mainGlobals "isinstance" = some none)
    (z_len : PySem.W.nsIn K mainGlobals "len" = some none)
    (z_list : PySem.W.nsIn K mainGlobals "list" = some none)
    (z_max : PySem.W.nsIn K mainGlobals "max" = some none)
    (z_min : PySem.W.nsIn K mainGlobals "min" = some none)
    (z_range : PySem.W.nsIn K mainGlobals "range" = some none)
    (z_sorted : PySem.W.nsIn K mainGlobals "sorted" = some none)
    (z_str : PySem.W.nsIn K mainGlobals "str" = some none)
    (z_sum : PySem.W.nsIn K mainGlobals "sum" = some none)
    (z_tuple : PySem.W.nsIn K mainGlobals "tuple" = some none)
    : ∃ fd : FuncData, (∀ (s : Shared) (v : Value), BindsTo s fd ⟨[v], []⟩ [("_law_script", v)]) ∧ ∀ base : Heap, K.In base → base.Ns mainGlobals mg → FnOk l.prog w K mg base L2.CX0 8 fa fd ["_law_script"] (spLaw K) := by
  have e : A_law = fa := by
    have e := hfa.symm.trans (PySem.W.mg_of X G a_law)
    cases e
    rfl
  subst e
  have F_is_int := fun_mk (st := st_is_int) l_is_int c_is_int k_is_int
  have F_is_whole := fun_mk (st := st_is_whole) l_is_whole c_is_whole k_is_whole
  have F_is_time := fun_mk (st := st_is_time) l_is_time c_is_time k_is_time
  have F_is_name := fun_mk (st := st_is_name) l_is_name c_is_name k_is_name
  have F_valid_places := fun_mk (st := st_valid_places) l_valid_places c_valid_places k_valid_places
  have F_require_kinds := fun_mk (st := st_require_kinds) l_require_kinds c_require_kinds k_require_kinds
  have F_Line_init := fun_mk (st := st_Line_init) l_Line_init c_Line_init k_Line_init
  have F_Line_places := fun_mk (st := st_Line_places) l_Line_places c_Line_places k_Line_places
  have F_Line_kinds := fun_mk (st := st_Line_kinds) l_Line_kinds c_Line_kinds k_Line_kinds
  have F_Line_stations := fun_mk (st := st_Line_stations) l_Line_stations c_Line_stations k_Line_stations
  have F_Line_eq := fun_mk (st := st_Line_eq) l_Line_eq c_Line_eq k_Line_eq
  have F_require_line := fun_mk (st := st_require_line) l_require_line c_require_line k_require_line
  have F_is_needless := fun_mk (st := st_is_needless) l_is_needless c_is_needless k_is_needless
  have F_places_without := fun_mk (st := st_places_without) l_places_without c_places_without k_places_without
  have F_plain := fun_mk (st := st_plain) l_plain c_plain k_plain
  have F_law_wound := fun_mk (st := st_law_wound) l_law_wound c_law_wound k_law_wound
  have F_law_spin := fun_mk (st := st_law_spin) l_law_spin c_law_spin k_law_spin
  have F_law_mixed := fun_mk (st := st_law_mixed) l_law_mixed c_law_mixed k_law_mixed
  have F_law_some_room := fun_mk (st := st_law_some_room) l_law_some_room c_law_some_room k_law_some_room
  have F_law_some_kinds := fun_mk (st := st_law_some_kinds) l_law_some_kinds c_law_some_kinds k_law_some_kinds
  have F_law_idle_kinds := fun_mk (st := st_law_idle_kinds) l_law_idle_kinds c_law_idle_kinds k_law_idle_kinds
  have F_law_next := fun_mk (st := st_law_next) l_law_next c_law_next k_law_next
  have F_law_plain_due := fun_mk (st := st_law_plain_due) l_law_plain_due c_law_plain_due k_law_plain_due
  have F_law := fun_mk (st := st_law) l_law c_law k_law
  have T : { T : Tx K mg // T.A_law = A_law ∧ T.D_law = PySem.W.fnOf "law" "law" (defArgs st_law) (defBody st_law) (defScope st_law) .none kV_law dc_law pm_law an_law cd_law ct_law } := ⟨{
    C_Line := C_Line
    cl_Line := ⟨pg_Line, hd_Line, po_Line, sa_Line⟩
    g_Line := PySem.W.mg_of X G gC_Line
    ic_Line := isC_of ⟨pg_Line, hd_Line, po_Line, sa_Line⟩ ha_Line hn_Line ht_Line hm_Line is_Line ty_Line fun n hn => by simp only [List.mem_cons, List.not_mem_nil, or_false] at hn; rcases hn with rfl | rfl | rfl | rfl | rfl | rfl | rfl <;> assumption
    A_is_int := A_is_int
    D_is_int := _
    F_is_int := F_is_int
    b_is_int := F_is_int.binds (ps := ["value"]) fun _ _ _ _ _ _ us hl => match us, hl with | [_], _ => rfl
    g_is_int := PySem.W.mg_of X G a_is_int
    A_is_whole := A_is_whole
    D_is_whole := _
    F_is_whole := F_is_whole
    b_is_whole := F_is_whole.binds (ps := ["value", "low", "high"]) fun _ _ _ _ _ _ us hl => match us, hl with | [_, _, _], _ => rfl
    g_is_whole := PySem.W.mg_of X G a_is_whole
    A_is_time := A_is_time
    D_is_time := _
    F_is_time := F_is_time
    b_is_time := F_is_time.binds (ps := ["value"]) fun _ _ _ _ _ _ us hl => match us, hl with | [_], _ => rfl
    g_is_time := PySem.W.mg_of X G a_is_time
    A_is_name := A_is_name
    D_is_name := _
    F_is_name := F_is_name
    b_is_name := F_is_name.binds (ps := ["value"]) fun _ _ _ _ _ _ us hl => match us, hl with | [_], _ => rfl
    g_is_name := PySem.W.mg_of X G a_is_name
    A_valid_places := A_valid_places
    D_valid_places := _
    F_valid_places := F_valid_places
    b_valid_places := F_valid_places.binds (ps := ["value"]) fun _ _ _ _ _ _ us hl => match us, hl with | [_], _ => rfl
    g_valid_places := PySem.W.mg_of X G a_valid_places
    A_require_kinds := A_require_kinds
    D_require_kinds := _
    F_require_kinds := F_require_kinds
    b_require_kinds := F_require_kinds.binds (ps := ["value", "stations"]) fun _ _ _ _ _ _ us hl => match us, hl with | [_, _], _ => rfl
    g_require_kinds := PySem.W.mg_of X G a_require_kinds
    A_Line_init := A_Line_init
    D_Line_init := _
    F_Line_init := F_Line_init
    b_Line_init := F_Line_init.binds (ps := ["self", "places", "kinds"]) fun _ _ _ _ _ _ us hl => match us, hl with | [_, _, _], _ => rfl
    mk_Line := ⟨mk_Line, a_Line_init, i_Line_init, kc_Line⟩
    A_Line_places := A_Line_places
    D_Line_places := _
    F_Line_places := F_Line_places
    b_Line_places := F_Line_places.binds (ps := ["self"]) fun _ _ _ _ _ _ us hl => match us, hl with | [_], _ => rfl
    P_Line_places := P_Line_places
    p_Line_places := ⟨a_Line_places, pget_Line_places, ptak_Line_places, ⟨_, prec_Line_places⟩⟩
    A_Line_kinds := A_Line_kinds
    D_Line_kinds := _
    F_Line_kinds := F_Line_kinds
    b_Line_kinds := F_Line_kinds.binds (ps := ["self"]) fun _ _ _ _ _ _ us hl => match us, hl with | [_], _ => rfl
    P_Line_kinds := P_Line_kinds
    p_Line_kinds := ⟨a_Line_kinds, pget_Line_kinds, ptak_Line_kinds, ⟨_, prec_Line_kinds⟩⟩
    A_Line_stations := A_Line_stations
    D_Line_stations := _
    F_Line_stations := F_Line_stations
    b_Line_stations := F_Line_stations.binds (ps := ["self"]) fun _ _ _ _ _ _ us hl => match us, hl with | [_], _ => rfl
    P_Line_stations := P_Line_stations
    p_Line_stations := ⟨a_Line_stations, pget_Line_stations, ptak_Line_stations, ⟨_, prec_Line_stations⟩⟩
    A_Line_eq := A_Line_eq
    D_Line_eq := _
    F_Line_eq := F_Line_eq
    b_Line_eq := F_Line_eq.binds (ps := ["self", "other"]) fun _ _ _ _ _ _ us hl => match us, hl with | [_, _], _ => rfl
    e_Line := a_Line_eq
    ef_Line := i_Line_eq
    A_require_line := A_require_line
    D_require_line := _
    F_require_line := F_require_line
    b_require_line := F_require_line.binds (ps := ["value"]) fun _ _ _ _ _ _ us hl => match us, hl with | [_], _ => rfl
    g_require_line := PySem.W.mg_of X G a_require_line
    A_is_needless := A_is_needless
    D_is_needless := _
    F_is_needless := F_is_needless
    b_is_needless := F_is_needless.binds (ps := ["places", "kinds", "station"]) fun _ _ _ _ _ _ us hl => match us, hl with | [_, _, _], _ => rfl
    g_is_needless := PySem.W.mg_of X G a_is_needless
    A_places_without := A_places_without
    D_places_without := _
    F_places_without := F_places_without
    b_places_without := F_places_without.binds (ps := ["places", "station"]) fun _ _ _ _ _ _ us hl => match us, hl with | [_, _], _ => rfl
    g_places_without := PySem.W.mg_of X G a_places_without
    A_plain := A_plain
    D_plain := _
    F_plain := F_plain
    b_plain := F_plain.binds (ps := ["line"]) fun _ _ _ _ _ _ us hl => match us, hl with | [_], _ => rfl
    g_plain := PySem.W.mg_of X G a_plain
    A_law_wound := A_law_wound
    D_law_wound := _
    F_law_wound := F_law_wound
    b_law_wound := F_law_wound.binds (ps := ["_law_script", "_law_k"]) fun _ _ _ _ _ _ us hl => match us, hl with | [_, _], _ => rfl
    g_law_wound := PySem.W.mg_of X G a_law_wound
    A_law_spin := A_law_spin
    D_law_spin := _
    F_law_spin := F_law_spin
    b_law_spin := F_law_spin.binds (ps := ["_law_reel", "_law_many"]) fun _ _ _ _ _ _ us hl => match us, hl with | [_, _], _ => rfl
    g_law_spin := PySem.W.mg_of X G a_law_spin
    A_law_mixed := A_law_mixed
    D_law_mixed := _
    F_law_mixed := F_law_mixed
    b_law_mixed := F_law_mixed.binds (ps := ["_law_reel", "_law_items"]) fun _ _ _ _ _ _ us hl => match us, hl with | [_, _], _ => rfl
    g_law_mixed := PySem.W.mg_of X G a_law_mixed
    A_law_some_room := A_law_some_room
    D_law_some_room := _
    F_law_some_room := F_law_some_room
    b_law_some_room := F_law_some_room.binds (ps := ["_law_reel", "_law_many"]) fun _ _ _ _ _ _ us hl => match us, hl with | [_, _], _ => rfl
    g_law_some_room := PySem.W.mg_of X G a_law_some_room
    A_law_some_kinds := A_law_some_kinds
    D_law_some_kinds := _
    F_law_some_kinds := F_law_some_kinds
    b_law_some_kinds := F_law_some_kinds.binds (ps := ["_law_reel", "_law_many", "_law_wide"]) fun _ _ _ _ _ _ us hl => match us, hl with | [_, _, _], _ => rfl
    g_law_some_kinds := PySem.W.mg_of X G a_law_some_kinds
    A_law_idle_kinds := A_law_idle_kinds
    D_law_idle_kinds := _
    F_law_idle_kinds := F_law_idle_kinds
    b_law_idle_kinds := F_law_idle_kinds.binds (ps := ["_law_reel", "_law_many"]) fun _ _ _ _ _ _ us hl => match us, hl with | [_, _], _ => rfl
    g_law_idle_kinds := PySem.W.mg_of X G a_law_idle_kinds
    A_law_next := A_law_next
    D_law_next := _
    F_law_next := F_law_next
    b_law_next := F_law_next.binds (ps := ["_law_room", "_law_kinds"]) fun _ _ _ _ _ _ us hl => match us, hl with | [_, _], _ => rfl
    g_law_next := PySem.W.mg_of X G a_law_next
    A_law_plain_due := A_law_plain_due
    D_law_plain_due := _
    F_law_plain_due := F_law_plain_due
    b_law_plain_due := F_law_plain_due.binds (ps := ["_law_room", "_law_kinds"]) fun _ _ _ _ _ _ us hl => match us, hl with | [_, _], _ => rfl
    g_law_plain_due := PySem.W.mg_of X G a_law_plain_due
    A_law := A_law
    D_law := _
    F_law := F_law
    b_law := F_law.binds (ps := ["_law_script"]) fun _ _ _ _ _ _ us hl => match us, hl with | [_], _ => rfl
    g_law := PySem.W.mg_of X G a_law
    na_Line_own_places := na_Line_own_places
    na_Line_own_kinds := na_Line_own_kinds
    i_MOST_KINDS := ⟨t_MOST_KINDS, PySem.W.mg_of X G v_MOST_KINDS⟩
    i_MOST_NUMBER := ⟨t_MOST_NUMBER, PySem.W.mg_of X G v_MOST_NUMBER⟩
    i_MOST_NUMBERS := ⟨t_MOST_NUMBERS, PySem.W.mg_of X G v_MOST_NUMBERS⟩
    i_MOST_PLACES := ⟨t_MOST_PLACES, PySem.W.mg_of X G v_MOST_PLACES⟩
    i_MOST_STATIONS := ⟨t_MOST_STATIONS, PySem.W.mg_of X G v_MOST_STATIONS⟩
    n_all := PySem.W.mg_none_of X G z_all
    n_any := PySem.W.mg_none_of X G z_any
    n_bool := PySem.W.mg_none_of X G z_bool
    n_dict := PySem.W.mg_none_of X G z_dict
    n_enumerate := PySem.W.mg_none_of X G z_enumerate
    n_int := PySem.W.mg_none_of X G z_int
    n_isinstance := PySem.W.mg_none_of X G z_isinstance
    n_len := PySem.W.mg_none_of X G z_len
    n_list := PySem.W.mg_none_of X G z_list
    n_max := PySem.W.mg_none_of X G z_max
    n_min := PySem.W.mg_none_of X G z_min
    n_range := PySem.W.mg_none_of X G z_range
    n_sorted := PySem.W.mg_none_of X G z_sorted
    n_str := PySem.W.mg_none_of X G z_str
    n_sum := PySem.W.mg_none_of X G z_sum
    n_tuple := PySem.W.mg_none_of X G z_tuple
    }, rfl, rfl⟩
  obtain ⟨T, e1, e2⟩ := T
  refine ⟨PySem.W.fnOf "law" "law" (defArgs st_law) (defBody st_law) (defScope st_law) .none kV_law dc_law pm_law an_law cd_law ct_law, fun s v => .of_eq rfl, fun base _ _ => ?_⟩
  have q := K_law (P := l.prog) (w := w) (base := base) T 40
  rw [e1, e2] at q
  exact q.imp (law_sp rfl plain)
theorem walk {l : PySem.W.OpenLaw} {q : Program} {loose : List Str} {XP : (Str → Option Value) → Heap → Prop} {YP : World → Heap → Prop} {d : DefRec} {K : Params → PySem.W.Frag} (hn : l.most = some 63) (hdf : d.params.defaults = [])
    (hY : ∀ (w : World) (h : Heap), YP w h → (K w.params).In h) (nl : ∀ w : World, NoList (K w.params) = true)
    (F : ∀ (w : World) (mg : Str → Option Value) (fa : Addr) (h : Heap), (K w.params).In h → h.Ns mainGlobals mg → mg d.name = some (.ref fa) →
      ∃ fd : FuncData, (∀ (s : Shared) (u : Value), BindsTo s fd ⟨[u], []⟩ [("_law_script", u)]) ∧ ∀ base : Heap, (K w.params).In base → base.Ns mainGlobals mg → FnOk l.prog w (K w.params) mg base L2.CX0 8 fa fd ["_law_script"] (spLaw (K w.params))) :
    PySem.W.WalkO q loose XP YP l.row.toRowW d [] (fun f vs => PySem.call f vs) :=
  L2.walk_ofB (n := 63) (k := 8) (x := "_law_script") (CX := fun _ => L2.CX0) (sp := fun w => spLaw (K w.params)) hn (by decide) hdf ⟨rfl, by decide, by decide⟩ hY F (fun w _ a ns hl hb _ hS => ⟨nl w, a, ns, rfl, hS, hl, hb, fun _ => rfl⟩) fun _ _ _ _ _ z => z
end L03
open PySem PySem.W PyProof.Rows in
set_option maxRecDepth 100000 in
set_option maxHeartbeats 0 in
theorem PySem.Challenge.cw_linepaces_k03_plain_lines_holds : PySem.Challenge.rw_linepaces_k03_plain_lines.Holds := by
  w_on; o_law; k_head; (case hw => w_witness2)
  k_fill
  refine L03.walk (l := PySem.Challenge.rw_linepaces_k03_plain_lines) rfl rfl (fun w h Y => PySem.W.kIn_of Y) ?nl ?F
  case nl =>
    intro w
    rfl
  case F =>
    intro w mg fa h KX G hmg
    refine' L03.all_mk KX G hmg L03.plain ?gC_Line ?pg_Line ?hd_Line ?po_Line ?sa_Line ?ha_Line ?hn_Line ?ht_Line ?hm_Line ?is_Line ?ty_Line ?noNoneType_Line ?nobool_Line ?noint_Line ?nostr_Line ?nolist_Line ?notuple_Line ?nodict_Line ?a_is_int ?l_is_int ?c_is_int ?k_is_int ?a_is_whole ?l_is_whole ?c_is_whole ?k_is_whole ?a_is_time ?l_is_time ?c_is_time ?k_is_time ?a_is_name ?l_is_name ?c_is_name ?k_is_name ?a_valid_places ?l_valid_places ?c_valid_places ?k_valid_places ?a_require_kinds ?l_require_kinds ?c_require_kinds ?k_require_kinds ?a_Line_init ?l_Line_init ?c_Line_init ?k_Line_init ?i_Line_init ?mk_Line ?kc_Line ?a_Line_places ?pget_Line_places ?ptak_Line_places ?prec_Line_places ?l_Line_places ?c_Line_places ?k_Line_places ?a_Line_kinds ?pget_Line_kinds ?ptak_Line_kinds ?prec_Line_kinds ?l_Line_kinds ?c_Line_kinds ?k_Line_kinds ?a_Line_stations ?pget_Line_stations ?ptak_Line_stations ?prec_Line_stations ?l_Line_stations ?c_Line_stations ?k_Line_stations ?a_Line_eq ?l_Line_eq ?c_Line_eq ?k_Line_eq ?i_Line_eq ?a_require_line ?l_require_line ?c_require_line ?k_require_line ?a_is_needless ?l_is_needless ?c_is_needless ?k_is_needless ?a_places_without ?l_places_without ?c_places_without ?k_places_without ?a_plain ?l_plain ?c_plain ?k_plain ?a_law_wound ?l_law_wound ?c_law_wound ?k_law_wound ?a_law_spin ?l_law_spin ?c_law_spin ?k_law_spin ?a_law_mixed ?l_law_mixed ?c_law_mixed ?k_law_mixed ?a_law_some_room ?l_law_some_room ?c_law_some_room ?k_law_some_room ?a_law_some_kinds ?l_law_some_kinds ?c_law_some_kinds ?k_law_some_kinds ?a_law_idle_kinds ?l_law_idle_kinds ?c_law_idle_kinds ?k_law_idle_kinds ?a_law_next ?l_law_next ?c_law_next ?k_law_next ?a_law_plain_due ?l_law_plain_due ?c_law_plain_due ?k_law_plain_due ?a_law ?l_law ?c_law ?k_law ?na_Line_own_places ?na_Line_own_kinds ?v_MOST_KINDS ?v_MOST_NUMBER ?v_MOST_NUMBERS ?v_MOST_PLACES ?v_MOST_STATIONS ?z_all ?z_any ?z_bool ?z_dict ?z_enumerate ?z_int ?z_isinstance ?z_len ?z_list ?z_max ?z_min ?z_range ?z_sorted ?z_str ?z_sum ?z_tuple
    (case gC_Line => k_is)
    (case pg_Line => k_is)
    (case hd_Line => k_is)
    (case po_Line => k_is)
    (case sa_Line => k_is)
    (case ha_Line => k_is)
    (case hn_Line => k_is)
    (case ht_Line => k_is)
    (case hm_Line => k_is)
    (case is_Line => k_is)
    (case ty_Line => k_is)
    (case noNoneType_Line => k_is)
    (case nobool_Line => k_is)
    (case noint_Line => k_is)
    (case nostr_Line => k_is)
    (case nolist_Line => k_is)
    (case notuple_Line => k_is)
    (case nodict_Line => k_is)
    (case a_is_int => k_is)
    (case l_is_int => k_is)
    (case c_is_int => k_is)
    (case k_is_int => k_is)
    (case a_is_whole => k_is)
    (case l_is_whole => k_is)
    (case c_is_whole => k_is)
    (case k_is_whole => k_is)
    (case a_is_time => k_is)
    (case l_is_time => k_is)
    (case c_is_time => k_is)
    (case k_is_time => k_is)
    (case a_is_name => k_is)
    (case l_is_name => k_is)
    (case c_is_name => k_is)
    (case k_is_name => k_is)
    (case a_valid_places => k_is)
    (case l_valid_places => k_is)
    (case c_valid_places => k_is)
    (case k_valid_places => k_is)
    (case a_require_kinds => k_is)
    (case l_require_kinds => k_is)
    (case c_require_kinds => k_is)
    (case k_require_kinds => k_is)
    (case a_Line_init => k_is)
    (case l_Line_init => k_is)
    (case c_Line_init => k_is)
    (case k_Line_init => k_is)
    (case i_Line_init => k_is)
    (case mk_Line => k_is)
    (case kc_Line => k_is)
    (case a_Line_places => k_is)
    (case pget_Line_places => k_is)
    (case ptak_Line_places => k_is)
    (case prec_Line_places => k_is)
    (case l_Line_places => k_is)
    (case c_Line_places => k_is)
    (case k_Line_places => k_is)
    (case a_Line_kinds => k_is)
    (case pget_Line_kinds => k_is)
    (case ptak_Line_kinds => k_is)
    (case prec_Line_kinds => k_is)
    (case l_Line_kinds => k_is)
    (case c_Line_kinds => k_is)
    (case k_Line_kinds => k_is)
    (case a_Line_stations => k_is)
    (case pget_Line_stations => k_is)
    (case ptak_Line_stations => k_is)
    (case prec_Line_stations => k_is)
    (case l_Line_stations => k_is)
    (case c_Line_stations => k_is)
    (case k_Line_stations => k_is)
    (case a_Line_eq => k_is)
    (case l_Line_eq => k_is)
    (case c_Line_eq => k_is)
    (case k_Line_eq => k_is)
    (case i_Line_eq => k_is)
    (case a_require_line => k_is)
    (case l_require_line => k_is)
    (case c_require_line => k_is)
    (case k_require_line => k_is)
    (case a_is_needless => k_is)
    (case l_is_needless => k_is)
    (case c_is_needless => k_is)
    (case k_is_needless => k_is)
    (case a_places_without => k_is)
    (case l_places_without => k_is)
    (case c_places_without => k_is)
    (case k_places_without => k_is)
    (case a_plain => k_is)
    (case l_plain => k_is)
    (case c_plain => k_is)
    (case k_plain => k_is)
    (case a_law_wound => k_is)
    (case l_law_wound => k_is)
    (case c_law_wound => k_is)
    (case k_law_wound => k_is)
    (case a_law_spin => k_is)
    (case l_law_spin => k_is)
    (case c_law_spin => k_is)
    (case k_law_spin => k_is)
    (case a_law_mixed => k_is)
    (case l_law_mixed => k_is)
    (case c_law_mixed => k_is)
    (case k_law_mixed => k_is)
    (case a_law_some_room => k_is)
    (case l_law_some_room => k_is)
    (case c_law_some_room => k_is)
    (case k_law_some_room => k_is)
    (case a_law_some_kinds => k_is)
    (case l_law_some_kinds => k_is)
    (case c_law_some_kinds => k_is)
    (case k_law_some_kinds => k_is)
    (case a_law_idle_kinds => k_is)
    (case l_law_idle_kinds => k_is)
    (case c_law_idle_kinds => k_is)
    (case k_law_idle_kinds => k_is)
    (case a_law_next => k_is)
    (case l_law_next => k_is)
    (case c_law_next => k_is)
    (case k_law_next => k_is)
    (case a_law_plain_due => k_is)
    (case l_law_plain_due => k_is)
    (case c_law_plain_due => k_is)
    (case k_law_plain_due => k_is)
    (case a_law => k_is)
    (case l_law => k_is)
    (case c_law => k_is)
    (case k_law => k_is)
    (case na_Line_own_places => k_is)
    (case na_Line_own_kinds => k_is)
    (case v_MOST_KINDS => k_is)
    (case v_MOST_NUMBER => k_is)
    (case v_MOST_NUMBERS => k_is)
    (case v_MOST_PLACES => k_is)
    (case v_MOST_STATIONS => k_is)
    (case z_all => k_is)
    (case z_any => k_is)
    (case z_bool => k_is)
    (case z_dict => k_is)
    (case z_enumerate => k_is)
    (case z_int => k_is)
    (case z_isinstance => k_is)
    (case z_len => k_is)
    (case z_list => k_is)
    (case z_max => k_is)
    (case z_min => k_is)
    (case z_range => k_is)
    (case z_sorted => k_is)
    (case z_str => k_is)
    (case z_sum => k_is)
    (case z_tuple => k_is)
