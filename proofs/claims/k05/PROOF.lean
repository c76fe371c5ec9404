import PyProof.Rows.All
import Wide.All
import OpenK.AllK
import Wide.FinOn
import HandS.ForMost
import HandS.ForExc
import HandS.ExcInit
import HandS.ExcIs
import HandS.ExcField
import PyProof.ReprRoads
import HandS.Style
import HandS.DictComp
import HandS.DeepEq
import HandS.Wide
import HandS.WideBits
import HandS.TupAny
import HandS.More
import HandS.Dict
import HandS.List
import HandS.IsInst
import HandS.Conv
import HandS.Iter
import HandS.Star
import HandS.Words
import HandS.Property
import HandS.RaiseMore
import HandS.OwnEq
import HandS.EndBits
import KE.KDictZip
import KE.KDictKeyed
import KE.GoesMore
import HandS.Deep
import HandS.Set
import HandS.Strs
import PyProof.Rows.SetFrom
import PySem.Challenge.RW_linepaces_k05_pieces_one_by_one
set_option Elab.async false
set_option linter.all false
set_option maxRecDepth 100000
/-! PvA: a small language of values (trees) and its meaning: data D, operations, expressions CE, statements CS, ev, ex. Plain Lean, no machine. -/
namespace PV
open PySem L2

/-- data: what a value is, all objects opened -/
inductive D where
  | non | bl (b : Bool) | int (i : Int) | str (x : Str)
  | lst (xs : List D) | tup (xs : List D)
  | dct (kvs : List (Key × D)) | dcT (kvs : List (List Key × D))
  | obj (C : Nat) (fs : List (Nat × D))
  | exn (C : Nat) (fs : List (Nat × D))
  deriving Inhabited

/-- own lists: in a list, or under the keys of a dict -/
structure Od where
  q : Option (List Key)
  ks : List (List D)
instance : Coe (List (List D)) Od := ⟨fun ks => ⟨none, ks⟩⟩
/-- a slot of a frame: nothing; a value that no one changes; an own object (its top may be changed here); an own object of the caller's; an own list (dict) of own lists -/
inductive Slot where
  | no | fz (d : D) | ow (d : D) | pw (d : D) | od (o : Od)
  deriving Inhabited
abbrev Env := List Slot
/-- a value: frozen, new (nobody else knows it), or the own object in slot i -/
inductive Val where
  | f (d : D) | n (d : D) | v (i : Nat) | t (xs : List (Bool × D))
/-- an exception: its class, its fields -/
structure XV where
  c : Nat
  fs : List (Nat × D)
/-- what an expression comes to -/
inductive Out (α : Type) where
  | ok (a : α) (ρ : Env) | exc (e : XV) (ρ : Env) | bad
/-- what a statement comes to -/
inductive SOut where
  | nx (ρ : Env) | rt (v : Val) (ρ : Env) | br (ρ : Env) | ct (ρ : Env) | exc (e : XV) (ρ : Env) | bad
/-- what a call comes to: the value, the arguments behind it -/
inductive FOut where
  | ok (v : Val) (outs : List Slot) | exc (e : XV) (outs : List Slot) | bad

/-- operations upon values that are read -/
inductive Op where
  | add | sub | mul | fdv | mod | pow | shl | neg
  | lt | le | gt | ge | eq | ne | isN | isnN | inn | nin
  | idx | slc | rev | len | int_ | max2 | min2 | max1 | min1 | sum | list_ | tuple_ | sorted_ | all_ | any_ | abs_ | dvm
  | dictP | rangeL | rangeL2 | str_ | join (z : Str) | index | count | isInt | isBool | isStr | isList | isTuple | isDict | isObj (C : Nat) | sset | dictZ | listZ | repr_
  | exc0 (C : Nat) | exc1 (C a : Nat) | isExc (all bs : List Nat) | exf (a : Nat) (bs : List Nat) | isObjs (C : Nat) (bs : List Nat)
  deriving DecidableEq

/-- changes of an own object -/
inductive MOp where
  | append | extend | pop | popAt | clear
  deriving DecidableEq

/-- targets -/
inductive CT where
  | nm (i : Nat) | tp (is : List Nat) | tq (is : List (List Nat))
mutual
inductive CE where
  | cst (d : D) | var (i : Nat) | glb (g : Nat)
  | op (o : Op) (es : CEs)
  | and_ (a b : CE) | or_ (a b : CE) | not_ (a : CE) | ite (c a b : CE)
  | chn (o o' : Op) (a b c : CE)
  | lst (es : CEs) | lstS (es : CEs) (st : List Bool) | tup (es : CEs) | dctN (T : Bool) | dct (ks : List Key) (vs : CEs) | dctS (m : CE) (k v : CE)
  | fld (a : Nat) (e : CE)
  | call (f : Nat) (keep : List Bool) (es : CEs)
  | prp (m : Nat) (e : CE)
  | mth (m : Nat) (e : CE) (keep : List Bool) (es : CEs)
  | new (C : Nat) (keep : List Bool) (es : CEs)
  | eqo (neg : Bool) (a b : CE)
  | sli (e lo hi : CE)
  | eql (a b : CE)
  | lix (a b : CE)
  | lcn (a b : CE)
  | mut (o : MOp) (i : Nat) (es : CEs)
  | odx (i : Nat) (k j : CE)
  | odxK (i : Nat) (k j : CE)
  | lc (e : CE) (t : CT) (it : CI) (c : CE) (own : List Nat)
  | dc (k v : CE) (t : CT) (it : CI) (c : CE) (own : List Nat)
  | lc2 (e : CE) (t : CT) (it : CI) (c : CE) (t1 : CT) (e1 : CE) (c1 : CE) (own own1 : List Nat)
inductive CEs where
  | nil | cons (e : CE) (es : CEs)
inductive CI where
  | seq (e : CE) | rng (e : CE) | rng2 (a b : CE) | rngC (a b : CE) (c : Int) | zip (a b : CE) | enm (e : CE) | itm (e : CE) | val (e : CE)
end
mutual
inductive CS where
  | asg (t : CT) (own : Bool) (e : CE)
  | par (is : List Nat) (owns : List Bool) (es : CEs)
  | unp (is : List Nat) (owns : List Bool) (f : Nat) (keep : List Bool) (es : CEs)
  | retT (es : CEs)
  | aug (i : Nat) (o : Op) (e : CE)
  | sset (i : Nat) (k e : CE)
  | fset (i : Nat) (a : Nat) (e : CE)
  | exp (e : CE) | ret (e : CE) | retN
  | ifs (c : CE) (a b : CSs)
  | fors (t : CT) (it : CI) (b : CSs)
  | forO (t : CT) (i : Nat) (b : CSs)
  | forE (t : CT) (i : Nat) (b : CSs)
  | odl (i j : Nat) (e : CE) (t : CT) (it : CI) (own : List Nat)
  | oda (i : Nat) (k e : CE)
  | odd (i : Nat) (es : CEs) (t : CT) (it : CI) (own : List Nat)
  | ods (dk : Bool) (i : Nat) (k j e : CE)
  | frz (i : Nat)
  | apt (j : Nat) (es : CEs)
  | whl (c : CE) (b : CSs)
  | pass | brk | cnt | wall
  | rai (C : Nat) (a : Option Nat) (e : CE)
  | tre (b : CSs) (bs : List Nat) (j i : Nat)
  | trx (b : CSs) (bs : List Nat) (s : CSs)
inductive CSs where
  | nil | cons (s : CS) (ss : CSs)
end

/-! ### operations -/
def keyP : Key → PyData
  | .inl i => .int i
  | .inr x => .str x
mutual
/-- what repr shows -/
def pyD : D → Option PyData
  | .non => some .none
  | .bl b => some (.bool b)
  | .int i => some (.int i)
  | .str x => some (.str x)
  | .lst xs => (pyDs xs).map .list
  | .tup xs => (pyDs xs).map .tuple
  | .dct kvs => (pyKs kvs).map .dict
  | .dcT _ => none
  | .obj _ _ => none
  | .exn _ _ => none
def pyDs : List D → Option (List PyData)
  | [] => some []
  | d :: r => (pyD d).bind fun p => (pyDs r).map (p :: ·)
def pyKs : List (Key × D) → Option (List (PyData × PyData))
  | [] => some []
  | (k, d) :: r => (pyD d).bind fun p => (pyKs r).map ((keyP k, p) :: ·)
end
/-- the greatest size of a list, a text -/
abbrev LIM : Nat := 16000000
/-- == of flat data -/
def D.eqf : D → D → Bool
  | .non, .non => true
  | .bl a, .bl b => a == b
  | .bl a, .int b => (if a then 1 else 0) == b
  | .int a, .bl b => a == (if b then 1 else 0)
  | .int a, .int b => a == b
  | .str a, .str b => a == b
  | _, _ => false
/-- no list, tuple, dict, object -/
def D.flat : D → Bool
  | .non => true | .bl _ => true | .int _ => true | .str _ => true | _ => false
def intsOf : List D → Option (List Int)
  | [] => some []
  | .int i :: r => (intsOf r).map (i :: ·)
  | _ :: _ => none
def boolsOf : List D → Option (List Bool)
  | [] => some []
  | .bl b :: r => (boolsOf r).map (b :: ·)
  | _ :: _ => none
def strsOf : List D → Option (List Str)
  | [] => some []
  | .str x :: r => (strsOf r).map (x :: ·)
  | _ :: _ => none
def maxL : Int → List Int → Int
  | m, [] => m
  | m, x :: r => maxL (if x > m then x else m) r
def minL : Int → List Int → Int
  | m, [] => m
  | m, x :: r => minL (if x < m then x else m) r
def ixOf (n : Nat) (i : Int) : Option Nat := if 0 ≤ i then (if i < n then some i.toNat else none) else if -(n : Int) ≤ i then some (i + n).toNat else none
def at? {α : Type} (xs : List α) (i : Int) : Option α := (ixOf xs.length i).bind fun j => xs[j]?
/-- the place that an optional bound of a slice means -/
def slIx (n : Nat) (dft : Nat) : Option Int → Nat
  | none => dft
  | some i => if i < 0 then (i + n).toNat else min i.toNat n
def cut {α : Type} (xs : List α) (lo hi : Option Int) : List α := (xs.drop (slIx xs.length 0 lo)).take (slIx xs.length xs.length hi - slIx xs.length 0 lo)
def bound : D → Option (Option Int)
  | .non => some none
  | .int i => some (some i)
  | _ => none
def keyOf : D → Option Key
  | .int i => some (.inl i)
  | .str x => some (.inr x)
  | _ => none
def keyD : Key → D
  | .inl i => .int i
  | .inr x => .str x
def keysOf : List D → Option (List Key)
  | [] => some []
  | x :: r => match keyOf x, keysOf r with
    | some k, some ks => some (k :: ks)
    | _, _ => none
def look {κ : Type} [DecidableEq κ] (kvs : List (κ × D)) (k : κ) : Option D := (kvs.find? fun p => decide (p.1 = k)).map (·.2)
/-- all of them, where all are known -/
def allO : List (Option Bool) → Option Bool
  | [] => some true
  | some a :: r => (allO r).map (a && ·)
  | none :: _ => none
/-- has ys equal values at the keys of the other dict? -/
def hitsO (f : D → D → Option Bool) (ys : List (Key × D)) : List (Key × D) → Option Bool
  | [] => some true
  | (k, x) :: r => match look ys k with
    | none => some false
    | some y => match f x y with
      | some a => (hitsO f ys r).map (a && ·)
      | none => none
/-- == of flat data, where both are so -/
def flatE (a b : D) : Option Bool := if a.flat && b.flat then some (D.eqf a b) else none
/-- == of data of nesting at most n, without dicts and objects -/
def D.eq2 : Nat → D → D → Option Bool
  | 0, a, b => flatE a b
  | n + 1, a, b => match a, b with
    | .lst xs, .lst ys => if xs.length = ys.length then allO (List.zipWith (D.eq2 n) xs ys) else some false
    | .tup xs, .tup ys => if xs.length = ys.length then allO (List.zipWith (D.eq2 n) xs ys) else (allO (List.zipWith (D.eq2 n) xs ys)).map fun _ => false
    | a, b => flatE a b
/-- == of data of nesting at most n, without objects; dicts not in tuples -/
def D.eq3 : Nat → D → D → Option Bool
  | 0, a, b => flatE a b
  | n + 1, a, b => match a, b with
    | .lst xs, .lst ys => if xs.length = ys.length then allO (List.zipWith (D.eq3 n) xs ys) else some false
    | .dct xs, .dct ys => if xs.length = ys.length then hitsO (D.eq3 n) ys xs else some false
    | a, b => D.eq2 n a b
def putD {κ : Type} [DecidableEq κ] (k : κ) (x : D) : List (κ × D) → List (κ × D)
  | [] => [(k, x)]
  | (j, y) :: r => if j = k then (j, x) :: r else (j, y) :: putD k x r
def putAll {κ : Type} [DecidableEq κ] : List (κ × D) → List (κ × D) → List (κ × D)
  | acc, [] => acc
  | acc, (k, x) :: r => putAll (putD k x acc) r
def pairsOf : List D → Option (List (Key × D))
  | [] => some []
  | .tup [k, x] :: r => match keyOf k, pairsOf r with
    | some k, some ps => some ((k, x) :: ps)
    | _, _ => none
  | _ :: _ => none
def getF : List (Nat × D) → Nat → Option D
  | [], _ => none
  | (k, d) :: r, a => if k = a then some d else getF r a
def setF (a : Nat) (d : D) : List (Nat × D) → List (Nat × D)
  | [] => [(a, d)]
  | (k, x) :: r => if k = a then (k, d) :: r else (k, x) :: setF a d r
def leStr (a b : Str) : Bool := !decide (b.cps.toList < a.cps.toList)
def insStr (x : Str) : List Str → List Str
  | [] => [x]
  | y :: r => if leStr x y then x :: y :: r else y :: insStr x r
def sortStr : List Str → List Str
  | [] => []
  | x :: r => insStr x (sortStr r)
def insInt (x : Int) : List Int → List Int
  | [] => [x]
  | y :: r => if x ≤ y then x :: y :: r else y :: insInt x r
def sortInt : List Int → List Int
  | [] => []
  | x :: r => insInt x (sortInt r)
/-- the result: is it a new object? -/
abbrev R1 := Option Val
def fD (d : D) : R1 := some (.f d)
def nD (d : D) : R1 := some (.n d)
def small (i : Int) : Bool := decide (-(2 ^ 62) ≤ i ∧ i < 2 ^ 62)
def mulOk (i j : Int) : Bool := decide (i.natAbs.log2 + j.natAbs.log2 < 1000000)
def oAdd : D → D → R1
  | .int a, .int b => fD (.int (a + b))
  | .str a, .str b => if a.length + b.length ≤ LIM then fD (.str (a ++ b)) else none
  | .lst a, .lst b => if a.length + b.length ≤ LIM then nD (.lst (a ++ b)) else none
  | .tup a, .tup b => if a.length + b.length ≤ LIM then fD (.tup (a ++ b)) else none
  | _, _ => none
def oSub : D → D → R1
  | .int a, .int b => fD (.int (a - b))
  | _, _ => none
def oMul : D → D → R1
  | .int a, .int b => if mulOk a b then fD (.int (a * b)) else none
  | .lst a, .int b => if a.length * b.toNat ≤ LIM ∧ small b then nD (.lst (List.replicate b.toNat a).flatten) else none
  | _, _ => none
def oFdv : D → D → R1
  | .int a, .int b => if 0 < b ∧ b.natAbs.log2 < 9000 then fD (.int (a / b)) else none
  | _, _ => none
def oMod : D → D → R1
  | .int a, .int b => if 0 < b then fD (.int (a % b)) else none
  | _, _ => none
def oPow : D → D → R1
  | .int a, .int b => if 0 ≤ b ∧ ((a.natAbs.log2 + 1 : Nat) : Int) * b ≤ 1000000 then fD (.int (a ^ b.toNat)) else none
  | _, _ => none
def oShl : D → D → R1
  | .int a, .int b => if 0 ≤ b ∧ b ≤ 1000000 ∧ a.natAbs < 2 ^ 64 then fD (.int (a * 2 ^ b.toNat)) else none
  | _, _ => none
def oCmp (p : Int → Int → Bool) : D → D → R1
  | .int a, .int b => fD (.bl (p a b))
  | _, _ => none
def oEq (neg : Bool) (a b : D) : R1 := (D.eq3 40 a b).bind fun e => fD (.bl (neg ^^ e))
def isNone : D → Bool
  | .non => true | _ => false
def isSign : Str → Bool := fun z => z.length == 1
def oIn (neg : Bool) : D → D → R1
  | a, .lst xs => if D.flat a && xs.all D.flat then fD (.bl (neg ^^ xs.any fun x => D.eqf x a)) else none
  | a, .tup xs => if D.flat a && xs.all D.flat then fD (.bl (neg ^^ xs.any fun x => D.eqf x a)) else none
  | a, .dct kvs => (keyOf a).bind fun k => fD (.bl (neg ^^ (look kvs k).isSome))
  | .str y, .str z => if isSign y then fD (.bl (neg ^^ decide (y.cps.getD 0 0 ∈ z.cps.toList))) else none
  | _, _ => none
def oIdx : D → D → R1
  | .lst xs, .int i => (at? xs i).map .f
  | .tup xs, .int i => (at? xs i).map .f
  | .str z, .int i => if z.length ≤ LIM then (at? z.cps.toList i).map fun c => .f (.str ⟨#[c]⟩) else none
  | .dct kvs, k => ((keyOf k).bind (look kvs)).map .f
  | .dcT kvs, .tup ks => ((keysOf ks).bind (look kvs)).map .f
  | _, _ => none
def oSlc (x lo hi : D) : R1 := (bound lo).bind fun l => (bound hi).bind fun h => match x with
  | .lst xs => nD (.lst (cut xs l h))
  | .tup xs => fD (.tup (cut xs l h))
  | _ => none
def oRev : D → R1
  | .lst xs => nD (.lst xs.reverse)
  | .tup xs => fD (.tup xs.reverse)
  | _ => none
/-- sep.join(texts) -/
def oJoin (z : Str) : D → R1
  | .lst xs => (strsOf xs).bind fun ys => if (ys.map (·.length)).sum + ys.length * z.length ≤ LIM then fD (.str (Str.join z ys)) else none
  | .tup xs => (strsOf xs).bind fun ys => if (ys.map (·.length)).sum + ys.length * z.length ≤ LIM then fD (.str (Str.join z ys)) else none
  | _ => none
def oLen : D → R1
  | .lst xs => fD (.int xs.length)
  | .tup xs => fD (.int xs.length)
  | .dct xs => fD (.int xs.length)
  | .str z => if z.length ≤ LIM then fD (.int z.length) else none
  | _ => none
/-- repr(d) -/
def oRepr (d : D) : R1 := (pyD d).bind fun p => if p.showable = true ∧ p.depth ≤ 60 ∧ p.shown.length ≤ LIM then fD (.str p.shown) else none
/-- str(d): of an int, a text -/
def oStr : D → R1
  | .int i => if i.natAbs.log2 < 1920 then fD (.str (toString i)) else none
  | .str x => fD (.str x)
  | _ => none
def oInt : D → R1
  | .int i => fD (.int i)
  | .bl b => fD (.int (if b then 1 else 0))
  | _ => none
def oTwo (g : Int → Int → Int) : D → D → R1
  | .int a, .int b => fD (.int (g a b))
  | _, _ => none
def oOne (g : Int → Int) : D → R1
  | .int a => fD (.int (g a))
  | _ => none
def oInts (g : List Int → Option Int) : D → R1
  | .lst xs => (intsOf xs).bind fun is => (g is).bind fun i => fD (.int i)
  | _ => none
def oBools (g : List Bool → Bool) : D → R1
  | .lst xs => (boolsOf xs).bind fun is => fD (.bl (g is))
  | _ => none
def oList : D → R1
  | .lst xs => nD (.lst xs)
  | .tup xs => nD (.lst xs)
  | .dct kvs => nD (.lst (kvs.map fun p => keyD p.1))
  | _ => none
def oTuple : D → R1
  | .lst xs => fD (.tup xs)
  | .tup xs => fD (.tup xs)
  | _ => none
def sortD (xs : List D) : Option (List D) := match strsOf xs with
  | some ks => if ks.length < 64 then some ((sortStr ks).map .str) else none
  | none => (intsOf xs).bind fun is => if is.length < 64 then some ((sortInt is).map .int) else none
def oSorted : D → R1
  | .dct kvs => (sortD (kvs.map fun p => keyD p.1)).bind fun ys => nD (.lst ys)
  | .lst xs => (sortD xs).bind fun ys => nD (.lst ys)
  | _ => none
def oDvm : D → D → R1
  | .int a, .int b => if 0 < b ∧ b.natAbs.log2 < 9000 then fD (.tup [.int (a / b), .int (a % b)]) else none
  | _, _ => none
def oDict : D → R1
  | .lst xs => (pairsOf xs).bind fun ps => nD (.dct (putAll [] ps))
  | .dct kvs => nD (.dct kvs)
  | _ => none
def keysOfT : List D → Option (List (List Key))
  | [] => some []
  | .tup ks :: r => (keysOf ks).bind fun k => (keysOfT r).map (k :: ·)
  | _ => none
/-- dict(zip(ks, xs)), the keys tuples -/
def oDictZ : D → D → R1
  | .lst ks, .lst xs => (keysOfT ks).bind fun ks => if ks.length = xs.length then nD (.dcT (putAll [] (ks.zip xs))) else none
  | _, _ => none
/-- an exception made with one argument: kept in the field a (a none: not kept) -/
def oExc (C : Nat) (a : Option Nat) (d : D) : R1 := if d.flat then fD (.exn C (match a with | some a => [(a, d)] | none => [])) else none
/-- isinstance with an exception class: all are the exception classes, bs those of them below it -/
def oIsExc (all bs : List Nat) : D → R1
  | .exn B _ => if B ∈ all then fD (.bl (decide (B ∈ bs))) else none
  | _ => none
/-- a field of an exception -/
def oExf (a : Nat) (bs : List Nat) : D → R1
  | .exn B fs => if B ∈ bs then (getF fs a).bind fD else none
  | _ => none
/-- list(zip(xs, ys)) -/
def oListZ : D → D → R1
  | .lst xs, .lst ys => nD (.lst ((xs.zip ys).map fun p => .tup [p.1, p.2]))
  | _, _ => none
/-- the first place of a value among others -/
def ixFind (d : PyData) : List PyData → Option Nat
  | [] => none
  | x :: r => if PyData.eqv x d = true then some 0 else (ixFind d r).map (· + 1)
/-- xs.index(y) -/
def oIndex : D → D → R1
  | .lst xs, y => (pyDs xs).bind fun ds => (pyD y).bind fun d => if SeqAt.shaped (.list ds) = true ∧ SeqAt.shaped d = true ∧ d.depth ≤ 60 then (ixFind d ds).bind fun j => fD (.int (j : Nat)) else none
  | _, _ => none
/-- xs.count(y), texts -/
def oCount : D → D → R1
  | .lst xs, .str y => (strsOf xs).bind fun ys => fD (.int ((ys.filter fun x => x == y).length : Nat))
  | _, _ => none
def dedup : List Str → List Str
  | [] => []
  | x :: r => if (dedup r).any (fun y => y == x) then dedup r else x :: dedup r
/-- sorted(set(xs)), texts -/
def oSset : D → R1
  | .lst xs => (strsOf xs).bind fun ys => if ys.length ≤ 4000 ∧ (dedup ys).length < 64 then nD (.lst ((sortStr (dedup ys)).map .str)) else none
  | _ => none
def oIs (p : D → Bool) (d : D) : R1 := fD (.bl (p d))
/-- isinstance with a built-in type: not asked of an object -/
def oTy (p : D → Bool) : D → R1
  | .obj _ _ => none
  | .exn _ _ => none
  | .dcT _ => none
  | d => fD (.bl (p d))
/-- isinstance with an own class: of objects, its own alone -/
def oObj (C : Nat) : D → R1
  | .obj B _ => if B = C then fD (.bl true) else none
  | .exn _ _ => none
  | .dcT _ => none
  | _ => fD (.bl false)
/-- isinstance with an own class, where objects of the classes bs may come too -/
def oObjs (C : Nat) (bs : List Nat) : D → R1
  | .obj B _ => if B = C then fD (.bl true) else if B ∈ bs then fD (.bl false) else none
  | .exn _ _ => none
  | .dcT _ => none
  | _ => fD (.bl false)
def dInt : D → Bool
  | .int _ => true | .bl _ => true | _ => false
def dBool : D → Bool
  | .bl _ => true | _ => false
def dStr : D → Bool
  | .str _ => true | _ => false
def dList : D → Bool
  | .lst _ => true | _ => false
def dTuple : D → Bool
  | .tup _ => true | _ => false
def dDict : D → Bool
  | .dct _ => true | .dcT _ => true | _ => false
def opD : Op → List D → R1
  | .add, [a, b] => oAdd a b
  | .sub, [a, b] => oSub a b
  | .mul, [a, b] => oMul a b
  | .fdv, [a, b] => oFdv a b
  | .mod, [a, b] => oMod a b
  | .pow, [a, b] => oPow a b
  | .shl, [a, b] => oShl a b
  | .neg, [a] => oOne (fun i => -i) a
  | .lt, [a, b] => oCmp (fun i j => decide (i < j)) a b
  | .le, [a, b] => oCmp (fun i j => decide (i ≤ j)) a b
  | .gt, [a, b] => oCmp (fun i j => decide (j < i)) a b
  | .ge, [a, b] => oCmp (fun i j => decide (j ≤ i)) a b
  | .eq, [a, b] => oEq false a b
  | .ne, [a, b] => oEq true a b
  | .isN, [a] => oIs isNone a
  | .isnN, [a] => oIs (fun d => !isNone d) a
  | .inn, [a, b] => oIn false a b
  | .nin, [a, b] => oIn true a b
  | .idx, [a, b] => oIdx a b
  | .slc, [a, b, c] => oSlc a b c
  | .rev, [a] => oRev a
  | .join z, [a] => oJoin z a
  | .len, [a] => oLen a
  | .int_, [a] => oInt a
  | .max2, [a, b] => oTwo (fun i j => if j > i then j else i) a b
  | .min2, [a, b] => oTwo (fun i j => if j < i then j else i) a b
  | .max1, [a] => oInts (fun is => match is with | [] => none | i :: r => some (maxL i r)) a
  | .min1, [a] => oInts (fun is => match is with | [] => none | i :: r => some (minL i r)) a
  | .sum, [a] => oInts (fun is => some is.sum) a
  | .list_, [a] => oList a
  | .tuple_, [a] => oTuple a
  | .sorted_, [a] => oSorted a
  | .all_, [a] => oBools (fun bs => bs.all id) a
  | .any_, [a] => oBools (fun bs => bs.any id) a
  | .abs_, [a] => oOne (fun i => if i < 0 then -i else i) a
  | .dvm, [a, b] => oDvm a b
  | .repr_, [a] => oRepr a
  | .str_, [a] => oStr a
  | .dictP, [a] => oDict a
  | .dictZ, [a, b] => oDictZ a b
  | .index, [a, b] => oIndex a b
  | .count, [a, b] => oCount a b
  | .sset, [a] => oSset a
  | .listZ, [a, b] => oListZ a b
  | .exc0 C, [a] => oExc C none a
  | .exc1 C n, [a] => oExc C (some n) a
  | .isExc all bs, [a] => oIsExc all bs a
  | .isObjs C bs, [a] => oObjs C bs a
  | .exf n bs, [a] => oExf n bs a
  | .isInt, [a] => oTy dInt a
  | .isBool, [a] => oTy dBool a
  | .isStr, [a] => oTy dStr a
  | .isList, [a] => oTy dList a
  | .isTuple, [a] => oTy dTuple a
  | .isDict, [a] => oTy dDict a
  | .isObj C, [a] => oObj C a
  | _, _ => none

/-- x op= y: ints -/
def opAug (o : Op) : D → D → R1
  | .int a, .int b => opD o [.int a, .int b]
  | _, _ => none
/-! ### reading slots and values -/
def slotAt (ρ : Env) (i : Nat) : Slot := ρ.getD i .no
/-- the data of a value -/
def rd (ρ : Env) : Val → Option D
  | .f d => some d
  | .n d => some d
  | .v i => match slotAt ρ i with
    | .ow d => some d | .pw d => some d | .fz d => some d | _ => none
  | .t _ => none
def rds (ρ : Env) : List Val → Option (List D)
  | [] => some []
  | x :: r => match rd ρ x, rds ρ r with
    | some d, some ds => some (d :: ds)
    | _, _ => none
/-- a value is handed on: it is frozen -/
def fr (ρ : Env) : Val → Option (D × Env)
  | .f d => some (d, ρ)
  | .n d => some (d, ρ)
  | .v i => match slotAt ρ i with
    | .ow d => some (d, ρ.set i (.fz d)) | .fz d => some (d, ρ) | _ => none
  | .t _ => none
def frs (ρ : Env) : List Val → Option (List D × Env)
  | [] => some ([], ρ)
  | x :: r => match fr ρ x with
    | some (d, ρ1) => match frs ρ1 r with
      | some (ds, ρ2) => some (d :: ds, ρ2)
      | none => none
    | none => none
/-- arguments of a call: kept own objects are lent -/
def lend (ρ : Env) (used : List Nat) : List Bool → List Val → Option (List Slot × Env)
  | _, [] => some ([], ρ)
  | k, x :: r =>
    match k.headD false, x with
    | true, .v i => match slotAt ρ i with
      | .ow d => if i ∈ used then none else (lend ρ (i :: used) k.tail r).map fun p => (.ow d :: p.1, p.2)
      | .pw d => if i ∈ used then none else (lend ρ (i :: used) k.tail r).map fun p => (.ow d :: p.1, p.2)
      | .fz d => (lend ρ used k.tail r).map fun p => (.fz d :: p.1, p.2)
      | _ => none
    | _, .v i => if i ∈ used then none else match fr ρ (.v i) with
      | some (d, ρ1) => (lend ρ1 used k.tail r).map fun p => (.fz d :: p.1, p.2)
      | none => none
    | _, .f d => (lend ρ used k.tail r).map fun p => (.fz d :: p.1, p.2)
    | _, .n d => (lend ρ used k.tail r).map fun p => (.fz d :: p.1, p.2)
    | _, .t _ => none
/-- behind a call: what was lent comes back as it is now -/
def backS (ρ : Env) (i : Nat) (o : Slot) : Env := match o, slotAt ρ i with
  | .ow d, .ow _ => ρ.set i (.ow d)
  | .ow d, .pw _ => ρ.set i (.pw d)
  | _, _ => ρ
def back (ρ : Env) : List Val → List Slot → List Slot → Env
  | .v i :: vs, .ow _ :: as, o :: os => back (backS ρ i o) vs as os
  | _ :: vs, _ :: as, _ :: os => back ρ vs as os
  | _, _, _ => ρ

/-- tables: the functions, the module's constants, the methods by class and name -/
structure Tb where
  fn : Nat → List Slot → FOut
  gl : Nat → D
  mt : Nat → Nat → Option Nat
  /-- has the class the attribute? -/
  fl : Nat → Nat → Bool
/-- the code of __init__ and __eq__ among the methods' names -/
abbrev mInit : Nat := 0
abbrev mEq : Nat := 1

/-- a name is stored (an object lent by the caller stays at its name) -/
def setS (ρ : Env) (i : Nat) (s : Slot) : Option Env := match slotAt ρ i with
  | .pw _ => none
  | _ => if i < ρ.length then some (ρ.set i s) else none
def setMany (ρ : Env) : List Nat → List D → Option Env
  | [], [] => some ρ
  | i :: is, d :: ds => (setS ρ i (.fz d)).bind fun ρ1 => setMany ρ1 is ds
  | _, _ => none
def itemsOf : D → Option (List D)
  | .lst xs => some xs | .tup xs => some xs | _ => none
/-- an item of a display: itself, or its items -/
def spread : Bool → D → Option (List D)
  | false, d => some [d]
  | true, d => itemsOf d
def setQ (ρ : Env) : List (List Nat) → List D → Option Env
  | [], [] => some ρ
  | [i] :: is, d :: ds => (setS ρ i (.fz d)).bind fun ρ1 => setQ ρ1 is ds
  | js :: is, .tup xs :: ds => (setMany ρ js xs).bind fun ρ1 => setQ ρ1 is ds
  | _, _ => none
/-- a target takes data -/
def tgt (ρ : Env) (t : CT) (d : D) : Option Env := match t with
  | .nm i => setS ρ i (.fz d)
  | .tp is => match d with
    | .tup xs => setMany ρ is xs
    | .lst xs => setMany ρ is xs
    | _ => none
  | .tq is => match d with
    | .tup xs => setQ ρ is xs
    | _ => none
def wipeE (ρ : Env) : List Nat → Env
  | [] => ρ
  | i :: is => (wipeE ρ is).set i .no
/-- behind a comprehension its own names are as they were -/
def unwipe (ρ0 ρ : Env) : List Nat → Env
  | [] => ρ
  | i :: is => (unwipe ρ0 ρ is).set i (slotAt ρ0 i)
def Out.bind {α β : Type} (x : Out α) (f : α → Env → Out β) : Out β := match x with
  | .ok a ρ => f a ρ
  | .exc e ρ => .exc e ρ
  | .bad => .bad
def lift {α : Type} (o : Option α) (ρ : Env) : Out α := match o with
  | some a => .ok a ρ
  | none => .bad
/-- a function's answer in the caller's frame -/
def ans (ρ : Env) (vs : List Val) (as : List Slot) : FOut → Out Val
  | .ok (.f d) os => .ok (.f d) (back ρ vs as os)
  | .ok (.n d) os => .ok (.n d) (back ρ vs as os)
  | .ok (.v _) _ => .bad
  | .ok (.t _) _ => .bad
  | .exc e os => .exc e (back ρ vs as os)
  | .bad => .bad
def tv : Bool × D → Val
  | (true, d) => .n d
  | (false, d) => .f d
/-- a function's answer that is a new tuple -/
def ansT (ρ : Env) (vs : List Val) (as : List Slot) : FOut → Out (List (Bool × D))
  | .ok (.t xs) os => .ok xs (back ρ vs as os)
  | .exc e os => .exc e (back ρ vs as os)
  | _ => .bad
/-- the items of a tuple that is given back: own things leave their slots -/
def moveAll (ρ : Env) : List Val → Option (List (Bool × D) × Env)
  | [] => some ([], ρ)
  | .f d :: r => (moveAll ρ r).map fun p => ((false, d) :: p.1, p.2)
  | .n d :: r => (moveAll ρ r).map fun p => ((true, d) :: p.1, p.2)
  | .v i :: r => match slotAt ρ i with
    | .ow d => (moveAll (ρ.set i .no) r).map fun p => ((true, d) :: p.1, p.2)
    | .fz d => (moveAll ρ r).map fun p => ((false, d) :: p.1, p.2)
    | _ => none
  | .t _ :: _ => none
/-- a loop over items -/
def each {α : Type} (f : α → D → Env → Out α) : α → List D → Env → Out α
  | a, [], ρ => .ok a ρ
  | a, x :: r, ρ => match f a x ρ with
    | .ok b ρ1 => each f b r ρ1
    | .exc e ρ1 => .exc e ρ1
    | .bad => .bad
def eachS (f : D → Env → SOut) : List D → Env → SOut
  | [], ρ => .nx ρ
  | x :: r, ρ => match f x ρ with
    | .nx ρ1 => eachS f r ρ1
    | .ct ρ1 => eachS f r ρ1
    | .br ρ1 => .nx ρ1
    | .rt v ρ1 => .rt v ρ1
    | .exc e ρ1 => .exc e ρ1
    | .bad => .bad
/-- a loop over the own list in slot i, as it is at each turn -/
def eachO (f : D → Env → SOut) (i : Nat) : Nat → Nat → Env → SOut
  | 0, _, _ => .bad
  | n + 1, k, ρ => match slotAt ρ i with
    | .pw (.lst xs) => match xs[k]? with
      | none => .nx ρ
      | some x => match f x ρ with
        | .nx ρ1 => eachO f i n (k + 1) ρ1
        | .ct ρ1 => eachO f i n (k + 1) ρ1
        | .br ρ1 => .nx ρ1
        | .rt v ρ1 => .rt v ρ1
        | .exc e ρ1 => .exc e ρ1
        | .bad => .bad
    | _ => .bad
/-- the same with the places' numbers -/
def eachE (f : D → Env → SOut) (i : Nat) : Nat → Nat → Env → SOut
  | 0, _, _ => .bad
  | n + 1, k, ρ => match slotAt ρ i with
    | .pw (.lst xs) => match xs[k]? with
      | none => .nx ρ
      | some x => match f (.tup [.int (k : Nat), x]) ρ with
        | .nx ρ1 => eachE f i n (k + 1) ρ1
        | .ct ρ1 => eachE f i n (k + 1) ρ1
        | .br ρ1 => .nx ρ1
        | .rt v ρ1 => .rt v ρ1
        | .exc e ρ1 => .exc e ρ1
        | .bad => .bad
    | _ => .bad
/-- what was lent to a loop is own again -/
def unPw (i : Nat) (ρ : Env) : Env := match slotAt ρ i with
  | .pw d => ρ.set i (.ow d)
  | _ => ρ
def SOut.unP (i : Nat) : SOut → SOut
  | .nx ρ => .nx (unPw i ρ)
  | .rt v ρ => .rt v (unPw i ρ)
  | .br ρ => .br (unPw i ρ)
  | .ct ρ => .ct (unPw i ρ)
  | .exc e ρ => .exc e (unPw i ρ)
  | .bad => .bad
/-- an own object in slot i is changed -/
def putOwn (ρ : Env) (i : Nat) (d : D) : Option Env := match slotAt ρ i with
  | .ow _ => some (ρ.set i (.ow d))
  | .pw _ => some (ρ.set i (.pw d))
  | _ => none
def ownAt (ρ : Env) (i : Nat) : Option D := match slotAt ρ i with
  | .ow d => some d
  | .pw d => some d
  | _ => none
/-- a change of an own list or dict: the value, the object behind it -/
def mutD : MOp → D → List D → Option (D × D)
  | .append, .lst xs, [x] => if xs.length < LIM then some (.non, .lst (xs ++ [x])) else none
  | .extend, .lst xs, [.lst ys] => if xs.length + ys.length ≤ LIM then some (.non, .lst (xs ++ ys)) else none
  | .pop, .lst xs, [] => (xs[xs.length - 1]?).map fun x => (x, .lst xs.dropLast)
  | .popAt, .lst xs, [.int i] => if small i then (ixOf xs.length i).bind fun k => (xs[k]?).map fun x => (x, .lst (xs.eraseIdx k)) else none
  | .clear, .lst _, [] => some (.non, .lst [])
  | _, _, _ => none
def csize : CEs → Nat
  | .nil => 0
  | .cons _ r => csize r + 1
def catSt : List Bool → List D → Option (List D)
  | [], [] => some []
  | true :: st, .lst xs :: ds => (catSt st ds).map (xs ++ ·)
  | false :: st, d :: ds => (catSt st ds).map (d :: ·)
  | _, _ => none
def zipK : List D → List D → Option (List (Key × D))
  | [], [] => some []
  | k :: ks, v :: vs => match keyOf k, zipK ks vs with
    | some k, some r => some ((k, v) :: r)
    | _, _ => none
  | _, _ => none
def mapRange (a : Int) (n : Nat) : List D := (List.range n).map fun (i : Nat) => .int (a + (i : Int))

/-- the place of a key -/
def keyIx (k : Key) : List Key → Option Nat
  | [] => none
  | j :: r => if j = k then some 0 else (keyIx k r).map (· + 1)
/-- which of the own lists: by a place, by a key -/
def Od.ix (o : Od) (dk : Bool) (d : D) : Option Nat := match o.q, dk, d with
  | none, false, .int a => ixOf o.ks.length a
  | some keys, true, d => (keyOf d).bind fun k => keyIx k keys
  | _, _, _ => none
def Od.dat (o : Od) : D := match o.q with
  | none => .lst (o.ks.map .lst)
  | some keys => .dct (keys.zip (o.ks.map .lst))
/-- a key, a new list -/
def keyed : List Val → Option (Key × List D)
  | [.f a, .n (.lst ds)] => (keyOf a).map fun k => (k, ds)
  | _ => none
/-! ### evaluation -/
def gather {α : Type} (f : D → Env → Out (List α)) : List D → Env → Out (List α)
  | [], ρ => .ok [] ρ
  | x :: r, ρ => (f x ρ).bind fun o ρ1 => (gather f r ρ1).bind fun ds ρ2 => .ok (o ++ ds) ρ2
/-- o[k] = x -/
def setD : D → D → D → Option D
  | .lst xs, .int j, x => (ixOf xs.length j).map fun m => .lst (xs.set m x)
  | .dct kvs, k, x => (keyOf k).bind fun k => if kvs.length < LIM then some (.dct (putD k x kvs)) else none
  | _, _, _ => none
/-- the values of a, b = x, y ahead of the stores -/
def prep (ρ : Env) : List Bool → List Val → Option (List Val × Env)
  | _, [] => some ([], ρ)
  | k, .n d :: r => if k.headD false then (prep ρ k.tail r).map fun p => (.n d :: p.1, p.2) else (prep ρ k.tail r).map fun p => (.f d :: p.1, p.2)
  | k, x :: r => (fr ρ x).bind fun q => (prep q.2 k.tail r).map fun p => (.f q.1 :: p.1, p.2)
def put1 (ρ : Env) (i : Nat) : Val → Option Env
  | .f d => setS ρ i (.fz d)
  | .n d => setS ρ i (.ow d)
  | .v _ => none
  | .t _ => none
/-- no exception leaves a comprehension -/
def calm {α : Type} : Out α → Out α
  | .exc _ _ => .bad
  | x => x
def okD (v : Val) (ρ : Env) : Out D := match fr ρ v with
  | some (d, ρ1) => .ok d ρ1
  | none => .bad
/-- a value as a truth value -/
def truth {α : Type} (v : Val) (ρ : Env) (f : Bool → Env → Out α) : Out α := match v with
  | .f (.bl b) => f b ρ
  | _ => .bad
/-- a bound of a slice that is not written -/
def absent : CE → Bool
  | .cst .non => true
  | _ => false
def partOf (v : Val) (ρ : Env) : Out (Option Int) := match v with
  | .f (.int i) => .ok (some i) ρ
  | _ => .bad
/-- x[lo:hi] -/
def sliD (lo hi : Option Int) : D → R1
  | .lst xs => nD (.lst (cut xs lo hi))
  | .tup xs => fD (.tup (cut xs lo hi))
  | .str z => if z.length ≤ LIM then fD (.str ⟨(cut z.cps.toList lo hi).toArray⟩) else none
  | _ => none
def callF (T : Tb) (f : Nat) (keep : List Bool) (vs : List Val) (ρ : Env) : Out Val := match lend ρ [] keep vs with
  | some (as, ρ1) => ans ρ1 vs as (T.fn f as)
  | none => .bad
def callT (T : Tb) (f : Nat) (keep : List Bool) (vs : List Val) (ρ : Env) : Out (List (Bool × D)) := match lend ρ [] keep vs with
  | some (as, ρ1) => ansT ρ1 vs as (T.fn f as)
  | none => .bad
/-- may d stand on the right of an own == of class C? -/
def fitE (C : Nat) : D → Bool
  | .obj B _ => decide (B = C)
  | .exn _ _ => false
  | .dcT _ => false
  | _ => true
/-- two lists of objects of one class each, equal pair by pair by the own == -/
def allEq (T : Tb) : List D → List D → Bool
  | [], [] => true
  | .obj C fs :: xs, .obj B gs :: ys => decide (B = C) && (match T.mt C mEq with
    | some f => (match T.fn f [.fz (.obj C fs), .fz (.obj B gs)] with
      | .ok (.f (.bl true)) _ => true
      | _ => false)
    | none => false) && allEq T xs ys
  | _, _ => false
mutual
def ev (T : Tb) : CE → Env → Out Val
  | .cst d, ρ => .ok (.f d) ρ
  | .var i, ρ => match slotAt ρ i with
    | .fz d => .ok (.f d) ρ
    | .no => .bad
    | .od _ => .bad
    | _ => .ok (.v i) ρ
  | .glb g, ρ => .ok (.f (T.gl g)) ρ
  | .op o es, ρ => (evs T es ρ).bind fun vs ρ1 => lift ((rds ρ1 vs).bind (opD o)) ρ1
  | .and_ a b, ρ => (ev T a ρ).bind fun v ρ1 => truth v ρ1 fun k ρ1 => if k then ev T b ρ1 else .ok (.f (.bl false)) ρ1
  | .or_ a b, ρ => (ev T a ρ).bind fun v ρ1 => truth v ρ1 fun k ρ1 => if k then .ok (.f (.bl true)) ρ1 else ev T b ρ1
  | .not_ a, ρ => (ev T a ρ).bind fun v ρ1 => truth v ρ1 fun k ρ1 => .ok (.f (.bl (!k))) ρ1
  | .ite c a b, ρ => (ev T c ρ).bind fun v ρ1 => truth v ρ1 fun k ρ1 => if k then ev T a ρ1 else ev T b ρ1
  | .chn o o' a b c, ρ => (ev T a ρ).bind fun x ρ1 => (ev T b ρ1).bind fun y ρ2 => (lift ((rds ρ2 [x, y]).bind (opD o)) ρ2).bind fun v ρ2 => truth v ρ2 fun k ρ2 =>
      if k then (ev T c ρ2).bind fun z ρ3 => lift ((rds ρ3 [y, z]).bind (opD o')) ρ3 else .ok (.f (.bl false)) ρ2
  | .lst es, ρ => (evs T es ρ).bind fun vs ρ1 => match frs ρ1 vs with
    | some (ds, ρ2) => if ds.length ≤ LIM then .ok (.n (.lst ds)) ρ2 else .bad
    | none => .bad
  | .lstS es st, ρ => (evsS T es st ρ).bind fun ds ρ1 => if ds.length ≤ LIM then .ok (.n (.lst ds)) ρ1 else .bad
  | .tup es, ρ => (evs T es ρ).bind fun vs ρ1 => match frs ρ1 vs with
    | some (ds, ρ2) => if ds.length ≤ LIM then .ok (.f (.tup ds)) ρ2 else .bad
    | none => .bad
  | .dctN k, ρ => .ok (.n (if k then .dcT [] else .dct [])) ρ
  | .dct ks es, ρ => (calm (evsS T es [] ρ)).bind fun ds ρ1 => if ds.length ≤ 15 ∧ ks.length = ds.length then .ok (.n (.dct (putAll [] (ks.zip ds)))) ρ1 else .bad
  | .dctS m k e, ρ => (ev T m ρ).bind fun m ρ1 => (ev T k ρ1).bind fun k ρ2 => (ev T e ρ2).bind fun e ρ3 => match rd ρ3 m, rd ρ3 k, fr ρ3 e with
    | some (.dct kvs), some k, some (d, ρ4) => match keyOf k with
      | some k => .ok (.n (.dct (putD k d kvs))) ρ4
      | none => .bad
    | _, _, _ => .bad
  | .fld a e, ρ => (ev T e ρ).bind fun v ρ1 => match rd ρ1 v with
    | some (.obj C fs) => if T.fl C a then (match getF fs a with
      | some d => .ok (.f d) ρ1
      | none => .bad) else .bad
    | _ => .bad
  | .call f keep es, ρ => (evs T es ρ).bind fun vs ρ1 => callF T f keep vs ρ1
  | .prp m e, ρ => (ev T e ρ).bind fun v ρ1 => match rd ρ1 v with
    | some (.obj C _) => match T.mt C m with
      | some f => calm (callF T f [true] [v] ρ1)
      | none => .bad
    | _ => .bad
  | .mth m e keep es, ρ => (ev T e ρ).bind fun v ρ1 => match rd ρ1 v with
    | some (.obj C _) => match T.mt C m with
      | some f => (evs T es ρ1).bind fun vs ρ2 => callF T f (true :: keep) (v :: vs) ρ2
      | none => .bad
    | _ => .bad
  | .new C keep es, ρ => (evs T es ρ).bind fun vs ρ1 => match T.mt C mInit, lend ρ1 [] keep vs with
    | some f, some (as, ρ2) => match T.fn f (.ow (.obj C []) :: as) with
      | .ok (.f .non) (.ow d :: os) => .ok (.n d) (back ρ2 vs as os)
      | .exc e (_ :: os) => .exc e (back ρ2 vs as os)
      | _ => .bad
    | _, _ => .bad
  | .eqo neg a b, ρ => (ev T a ρ).bind fun x ρ1 => (ev T b ρ1).bind fun y ρ2 => match rd ρ2 x, rd ρ2 y with
    | some (.obj C _), some d => if fitE C d = true then (match T.mt C mEq with
      | some f => (callF T f [] [x, y] ρ2).bind fun v ρ3 => truth v ρ3 fun k ρ3 => .ok (.f (.bl (neg ^^ k))) ρ3
      | none => .bad) else .bad
    | _, _ => .bad
  | .lix a b, ρ => (ev T a ρ).bind fun x ρ1 => match rd ρ1 x with
    | some (.lst _) => (ev T b ρ1).bind fun y ρ2 => match rd ρ2 x, rd ρ2 y with
      | some d, some e => lift (oIndex d e) ρ2
      | _, _ => .bad
    | _ => .bad
  | .lcn a b, ρ => (ev T a ρ).bind fun x ρ1 => match rd ρ1 x with
    | some (.lst _) => (ev T b ρ1).bind fun y ρ2 => match rd ρ2 x, rd ρ2 y with
      | some d, some e => lift (oCount d e) ρ2
      | _, _ => .bad
    | _ => .bad
  | .eql a b, ρ => (ev T a ρ).bind fun x ρ1 => (ev T b ρ1).bind fun y ρ2 => match x, y with
    | .n (.lst xs), .n (.lst ys) => if allEq T xs ys then .ok (.f (.bl true)) ρ2 else .bad
    | _, _ => .bad
  | .sli e lo hi, ρ => (ev T e ρ).bind fun v ρ1 => (if absent lo then .ok none ρ1 else (ev T lo ρ1).bind partOf).bind fun l ρ2 => (if absent hi then .ok none ρ2 else (ev T hi ρ2).bind partOf).bind fun h ρ3 => lift ((rd ρ3 v).bind (sliD l h)) ρ3
  | .mut o i es, ρ => match ownAt ρ i with
    | some (.lst _) => (evs T es ρ).bind fun vs ρ1 => match (if o = .append then frs ρ1 vs else (rds ρ1 vs).map fun ds => (ds, ρ1)) with
      | some (ds, ρ2) => match (ownAt ρ2 i).bind fun d => mutD o d ds with
        | some (r, d) => match putOwn ρ2 i d with
          | some ρ3 => .ok (.f r) ρ3
          | none => .bad
        | none => .bad
      | none => .bad
    | _ => .bad
  | .odx i k j, ρ => match slotAt ρ i with
    | .od ⟨none, _⟩ => (ev T k ρ).bind fun v ρ1 => match slotAt ρ1 i, v with
      | .od ⟨none, ks⟩, .f (.int a) => match at? ks a with
        | some ds => (ev T j ρ1).bind fun w ρ2 => match w with
          | .f (.int b) => (match at? ds b with
            | some d => .ok (.f d) ρ2
            | none => .bad)
          | _ => .bad
        | none => .bad
      | _, _ => .bad
    | _ => .bad
  | .odxK i k j, ρ => match slotAt ρ i with
    | .od _ => (ev T k ρ).bind fun v ρ1 => match slotAt ρ1 i, v with
      | .od o, .f a => match (o.ix true a).bind fun m => o.ks[m]? with
        | some ds => (ev T j ρ1).bind fun w ρ2 => match w with
          | .f (.int b) => (match at? ds b with
            | some d => .ok (.f d) ρ2
            | none => .bad)
          | _ => .bad
        | none => .bad
      | _, _ => .bad
    | _ => .bad
  | .lc e t it c own, ρ => (evI T it ρ).bind fun items ρ1 =>
      (calm (gather (fun x ρ => match tgt ρ t x with
        | none => .bad
        | some ρ => (ev T c ρ).bind fun b ρ => truth b ρ fun k ρ => if k then (ev T e ρ).bind fun v ρ => (okD v ρ).bind fun d ρ => .ok [d] (wipeE ρ own) else .ok [] (wipeE ρ own)) items (wipeE ρ1 own))).bind fun ds ρ2 =>
      if ds.length ≤ LIM then .ok (.n (.lst ds)) (unwipe ρ1 ρ2 own) else .bad
  | .dc k e t it c own, ρ => (evI T it ρ).bind fun items ρ1 =>
      (calm (gather (fun x ρ => match tgt ρ t x with
        | none => .bad
        | some ρ => (ev T c ρ).bind fun b ρ => truth b ρ fun q ρ => if q then (ev T k ρ).bind fun kv ρ => (ev T e ρ).bind fun v ρ => match (rd ρ kv).bind keyOf with
          | some key => (okD v ρ).bind fun d ρ => .ok [(key, d)] (wipeE ρ own)
          | none => .bad
          else .ok [] (wipeE ρ own)) items (wipeE ρ1 own))).bind fun ps ρ2 =>
      if ps.length ≤ LIM then .ok (.n (.dct (putAll [] ps))) (unwipe ρ1 ρ2 own) else .bad
  | .lc2 e t it c t1 e1 c1 own own1, ρ => (evI T it ρ).bind fun items ρ1 =>
      (calm (gather (fun x ρ => match tgt ρ t x with
        | none => .bad
        | some ρ => (ev T c ρ).bind fun b ρ => truth b ρ fun k ρ => if k then (ev T e1 ρ).bind fun v ρ => (okD v ρ).bind fun d ρ => match itemsOf d with
            | none => .bad
            | some items1 => (gather (fun x ρ => match tgt ρ t1 x with
                | none => .bad
                | some ρ => (ev T c1 ρ).bind fun b ρ => truth b ρ fun k ρ => if k then (ev T e ρ).bind fun v ρ => (okD v ρ).bind fun d ρ => .ok [d] (wipeE ρ own1) else .ok [] (wipeE ρ own1)) items1 (wipeE ρ own1)).bind fun ds ρ => .ok ds (wipeE ρ own)
          else .ok [] (wipeE ρ own)) items (wipeE ρ1 own))).bind fun ds ρ2 =>
      if ds.length ≤ LIM then .ok (.n (.lst ds)) (unwipe ρ1 ρ2 own) else .bad
def evs (T : Tb) : CEs → Env → Out (List Val)
  | .nil, ρ => .ok [] ρ
  | .cons e es, ρ => (ev T e ρ).bind fun v ρ1 => (evs T es ρ1).bind fun vs ρ2 => .ok (v :: vs) ρ2
/-- items of a display, each frozen at once; a starred one gives its items -/
def evsS (T : Tb) : CEs → List Bool → Env → Out (List D)
  | .nil, _, ρ => .ok [] ρ
  | .cons e es, st, ρ => (ev T e ρ).bind fun v ρ1 => (okD v ρ1).bind fun d ρ2 => match spread (st.headD false) d with
    | some xs => (evsS T es st.tail ρ2).bind fun ds ρ3 => .ok (xs ++ ds) ρ3
    | none => .bad
def evI (T : Tb) : CI → Env → Out (List D)
  | .seq e, ρ => (ev T e ρ).bind fun v ρ1 => (okD v ρ1).bind fun d ρ2 => match d with
    | .lst xs => .ok xs ρ2
    | .tup xs => .ok xs ρ2
    | .dct kvs => .ok (kvs.map fun p => keyD p.1) ρ2
    | .str z => .ok (z.cps.toList.map fun c => .str ⟨#[c]⟩) ρ2
    | _ => .bad
  | .rng e, ρ => (ev T e ρ).bind fun v ρ1 => match v with
    | .f (.int n) => if small n then .ok (mapRange 0 n.toNat) ρ1 else .bad
    | _ => .bad
  | .rng2 a b, ρ => (ev T a ρ).bind fun v ρ1 => (ev T b ρ1).bind fun w ρ2 => match v, w with
    | .f (.int i), .f (.int j) => if small i && small j then .ok (mapRange i (j - i).toNat) ρ2 else .bad
    | _, _ => .bad
  | .rngC a b c, ρ => (ev T a ρ).bind fun v ρ1 => (ev T b ρ1).bind fun w ρ2 => match v, w with
    | .f (.int i), .f (.int j) => if small i && small j && decide (c = -1) then .ok ((List.range (i - j).toNat).map fun (k : Nat) => .int (i - (k : Int))) ρ2 else .bad
    | _, _ => .bad
  | .zip a b, ρ => (ev T a ρ).bind fun v ρ1 => (ev T b ρ1).bind fun w ρ2 => (okD v ρ2).bind fun x ρ3 => (okD w ρ3).bind fun y ρ4 => match x, y with
    | .lst xs, .lst ys => .ok ((xs.zip ys).map fun p => .tup [p.1, p.2]) ρ4
    | _, _ => .bad
  | .enm e, ρ => (ev T e ρ).bind fun v ρ1 => (okD v ρ1).bind fun d ρ2 => match d with
    | .lst xs => .ok ((xs.zipIdx).map fun p => .tup [.int (p.2 : Nat), p.1]) ρ2
    | .tup xs => .ok ((xs.zipIdx).map fun p => .tup [.int (p.2 : Nat), p.1]) ρ2
    | _ => .bad
  | .itm e, ρ => (ev T e ρ).bind fun v ρ1 => (okD v ρ1).bind fun d ρ2 => match d with
    | .dct kvs => .ok (kvs.map fun p => .tup [keyD p.1, p.2]) ρ2
    | _ => .bad
  | .val e, ρ => (ev T e ρ).bind fun v ρ1 => (okD v ρ1).bind fun d ρ2 => match d with
    | .dct kvs => .ok (kvs.map (·.2)) ρ2
    | _ => .bad
end
/-- is the slot empty? -/
def isNo : Slot → Bool
  | .no => true
  | _ => false
/-- a statement behind an expression -/
def Out.toS {α : Type} (x : Out α) (f : α → Env → SOut) : SOut := match x with
  | .ok a ρ => f a ρ
  | .exc e ρ => .exc e ρ
  | .bad => .bad
def nxt : Option Env → SOut
  | some ρ => .nx ρ
  | none => .bad
def store (ρ : Env) (i : Nat) (own : Bool) (v : Val) : Option Env := match own, v with
  | true, .n d => setS ρ i (.ow d)
  | _, v => (fr ρ v).bind fun p => setS p.2 i (.fz p.1)
def storeAll (ρ : Env) : List Nat → List Val → Option Env
  | [], [] => some ρ
  | i :: is, v :: vs => (put1 ρ i v).bind fun ρ1 => storeAll ρ1 is vs
  | _, _ => none
def SOut.seq (x : SOut) (f : Env → SOut) : SOut := match x with
  | .nx ρ => f ρ
  | y => y
/-- the most turns of a while -/
abbrev TURNS : Nat := 1000000
def whileN (c : Env → Out Val) (b : Env → SOut) : Nat → Env → SOut
  | 0, _ => .bad
  | n + 1, ρ => (c ρ).toS fun v ρ1 => match v with
    | .f (.bl true) => match b ρ1 with
      | .nx ρ2 => whileN c b n ρ2
      | .ct ρ2 => whileN c b n ρ2
      | .br ρ2 => .nx ρ2
      | .rt v ρ2 => .rt v ρ2
      | .exc e ρ2 => .exc e ρ2
      | .bad => .bad
    | .f (.bl false) => .nx ρ1
    | _ => .bad
/-- a new list -/
def newL : Val → Bool
  | .n (.lst xs) => decide (xs.length < LIM)
  | _ => false
mutual
def ex (T : Tb) : CS → Env → SOut
  | .asg (.nm i) own e, ρ => (ev T e ρ).toS fun v ρ1 => nxt (store ρ1 i own v)
  | .asg t _ e, ρ => (ev T e ρ).toS fun v ρ1 => (okD v ρ1).toS fun d ρ2 => nxt (tgt ρ2 t d)
  | .par is owns es, ρ => (evs T es ρ).toS fun vs ρ1 => nxt ((prep ρ1 owns vs).bind fun p => storeAll p.2 is p.1)
  | .unp is owns f keep es, ρ => (evs T es ρ).toS fun vs ρ1 => (callT T f keep vs ρ1).toS fun xs ρ2 => nxt ((prep ρ2 owns (xs.map tv)).bind fun p => storeAll p.2 is p.1)
  | .retT es, ρ => (evs T es ρ).toS fun vs ρ1 => match moveAll ρ1 vs with
    | some (xs, ρ2) => if xs.length ≤ LIM then .rt (.t xs) ρ2 else .bad
    | none => .bad
  | .aug i o e, ρ => match slotAt ρ i with
    | .fz x => (ev T e ρ).toS fun v ρ1 => match (rd ρ1 v).bind fun y => opAug o x y with
      | some (.f d) => nxt (setS ρ1 i (.fz d))
      | _ => .bad
    | _ => .bad
  | .sset i k e, ρ => if (ownAt ρ i).isSome then (ev T e ρ).toS fun v ρ1 => (ev T k ρ1).toS fun kv ρ2 => match rd ρ2 kv, fr ρ2 v with
    | some k, some (d, ρ3) => nxt (((ownAt ρ3 i).bind fun o => setD o k d).bind fun o => putOwn ρ3 i o)
    | _, _ => .bad
    else .bad
  | .fset i a e, ρ => if (ownAt ρ i).isSome then (ev T e ρ).toS fun v ρ1 => (okD v ρ1).toS fun d ρ2 => match ownAt ρ2 i with
    | some (.obj C fs) => if fs.length < 1000 && T.fl C a then nxt (putOwn ρ2 i (.obj C (setF a d fs))) else .bad
    | _ => .bad
    else .bad
  | .exp e, ρ => (ev T e ρ).toS fun _ ρ1 => .nx ρ1
  | .ret e, ρ => (ev T e ρ).toS fun v ρ1 => match v with
    | .v i => match slotAt ρ1 i with
      | .ow d => .rt (.n d) (ρ1.set i .no)
      | .fz d => .rt (.f d) ρ1
      | _ => .bad
    | v => .rt v ρ1
  | .retN, ρ => .rt (.f .non) ρ
  | .ifs c a b, ρ => (ev T c ρ).toS fun v ρ1 => match v with
    | .f (.bl true) => exs T a ρ1
    | .f (.bl false) => exs T b ρ1
    | _ => .bad
  | .fors t it b, ρ => (evI T it ρ).toS fun items ρ1 => eachS (fun x ρ => match tgt ρ t x with
    | some ρ => exs T b ρ
    | none => .bad) items ρ1
  | .forO t i b, ρ => match slotAt ρ i with
    | .pw _ => eachO (fun x ρ => match tgt ρ t x with
      | some ρ => exs T b ρ
      | none => .bad) i LIM 0 ρ
    | .ow d => (eachO (fun x ρ => match tgt ρ t x with
      | some ρ => exs T b ρ
      | none => .bad) i LIM 0 (ρ.set i (.pw d))).unP i
    | _ => .bad
  | .forE t i b, ρ => match slotAt ρ i with
    | .pw _ => eachE (fun x ρ => match tgt ρ t x with
      | some ρ => exs T b ρ
      | none => .bad) i LIM 0 ρ
    | .fz (.lst xs) => eachS (fun x ρ => match tgt ρ t x with
      | some ρ => exs T b ρ
      | none => .bad) (xs.zipIdx.map fun p => .tup [.int (p.2 : Nat), p.1]) ρ
    | _ => .bad
  | .odl i j e t it own, ρ => (evI T it ρ).toS fun items ρ1 => (calm (gather (fun x ρ => match tgt ρ t x with
        | none => .bad
        | some ρ => (ev T e ρ).bind fun v ρ => match v with
          | .n (.lst ds) => .ok [ds] (wipeE ρ own)
          | _ => .bad) items (wipeE ρ1 own))).toS fun kss ρ2 =>
      if kss.length ≤ LIM ∧ i ≠ j then nxt ((setS (unwipe ρ1 ρ2 own) i (.od ⟨none, kss⟩)).bind fun ρ3 => setS ρ3 j (.ow (.lst []))) else .bad
  | .oda i k e, ρ => match slotAt ρ i with
    | .od ⟨none, _⟩ => (ev T k ρ).toS fun v ρ1 => match slotAt ρ1 i, v with
      | .od ⟨none, ks⟩, .f (.int a) => match ixOf ks.length a with
        | some m => (match ks[m]? with
          | some ds => (ev T e ρ1).toS fun w ρ2 => (okD w ρ2).toS fun d ρ3 => if ds.length < LIM then .nx (ρ3.set i (.od ⟨none, ks.set m (ds ++ [d])⟩)) else .bad
          | none => .bad)
        | none => .bad
      | _, _ => .bad
    | _ => .bad
  | .odd i es t it own, ρ => (evI T it ρ).toS fun items ρ1 => (calm (gather (fun x ρ => match tgt ρ t x with
        | none => .bad
        | some ρ => (evs T es ρ).bind fun vs ρ => match keyed vs with
          | some p => .ok [p] (wipeE ρ own)
          | none => .bad) items (wipeE ρ1 own))).toS fun ps ρ2 =>
      if ps.length ≤ LIM ∧ (ps.map (·.1)).Nodup then nxt (setS (unwipe ρ1 ρ2 own) i (.od ⟨some (ps.map (·.1)), ps.map (·.2)⟩)) else .bad
  | .ods dk i k j e, ρ => match slotAt ρ i with
    | .od _ => (ev T e ρ).toS fun w ρ1 => (ev T k ρ1).toS fun v ρ2 => match slotAt ρ2 i, v with
      | .od o, .f a => match o.ix dk a with
        | some m => (match o.ks[m]? with
          | some ds => (ev T j ρ2).toS fun u ρ3 => match w, u with
            | .f d, .f (.int b) => (match ixOf ds.length b with
              | some l => .nx (ρ3.set i (.od ⟨o.q, o.ks.set m (ds.set l d)⟩))
              | none => .bad)
            | _, _ => .bad
          | none => .bad)
        | none => .bad
      | _, _ => .bad
    | _ => .bad
  | .frz i, ρ => match slotAt ρ i with
    | .od o => .nx (ρ.set i (.fz o.dat))
    | _ => .bad
  | .apt j es, ρ => (evs T es ρ).toS fun vs ρ1 => if vs ≠ [] ∧ vs.length ≤ 1000 ∧ vs.all newL = true then nxt (setS ρ1 j .no) else .bad
  | .whl c b, ρ => whileN (fun ρ => ev T c ρ) (fun ρ => exs T b ρ) TURNS ρ
  | .pass, ρ => .nx ρ
  | .brk, ρ => .br ρ
  | .cnt, ρ => .ct ρ
  | .wall, _ => .bad
  | .rai C a e, ρ => (ev T e ρ).toS fun v ρ1 => (okD v ρ1).toS fun d ρ2 => .exc ⟨C, match a with | some a => [(a, d)] | none => []⟩ ρ2
  | .tre b bs j i, ρ => match exs T b ρ with
    | .exc e ρ1 => if e.c ∈ bs ∧ i ≠ j ∧ isNo (slotAt ρ1 j) = true then nxt (setS ρ1 i (.fz (.exn e.c e.fs))) else .bad
    | r => r
  | .trx b bs s, ρ => match exs T b ρ with
    | .exc e ρ1 => if e.c ∈ bs then exs T s ρ1 else .exc e ρ1
    | r => r
def exs (T : Tb) : CSs → Env → SOut
  | .nil, ρ => .nx ρ
  | .cons s ss, ρ => (ex T s ρ).seq fun ρ1 => exs T ss ρ1
end
def inS : Slot → Slot
  | .ow d => .pw d
  | s => s
def outS : Slot → Slot
  | .pw d => .ow d
  | s => s
/-- a def run on its arguments -/
def run (T : Tb) (nl : Nat) (b : CSs) (as : List Slot) : FOut := match exs T b (as.map inS ++ List.replicate (nl - as.length) .no) with
  | .rt (.f d) ρ => .ok (.f d) ((ρ.take as.length).map outS)
  | .rt (.n d) ρ => .ok (.n d) ((ρ.take as.length).map outS)
  | .rt (.t xs) ρ => .ok (.t xs) ((ρ.take as.length).map outS)
  | .nx ρ => .ok (.f .non) ((ρ.take as.length).map outS)
  | .exc e ρ => .exc e ((ρ.take as.length).map outS)
  | _ => .bad
/-- a def: its code, or what it does -/
inductive FDef where
  | body (np nl : Nat) (b : CSs) | prim (φ : List Slot → FOut)
/-- a program -/
structure Pg where
  fd : Nat → Option FDef
  gl : Nat → D
  mt : Nat → Nat → Option Nat
  fl : Nat → Nat → Bool
def runF (P : Pg) : Nat → Nat → List Slot → FOut
  | 0, _, _ => .bad
  | n + 1, f, as => match P.fd f with
    | some (.body np nl b) => if as.length = np then run ⟨runF P n, P.gl, P.mt, P.fl⟩ nl b as else .bad
    | some (.prim φ) => φ as
    | none => .bad
end PV

set_option Elab.async false
set_option linter.all false
set_option maxRecDepth 100000
set_option maxHeartbeats 1000000
/-! PvB: what data stand for in the machine's abstract heap: Rep, Rel, the step of a part of the program. -/
namespace PV
open PySem L2

/-- the written part, the classes' places, the attributes' names -/
structure Nm where
  K : PySem.W.Frag
  cl : Nat → Addr
  an : Nat → Str

/-- what stands at an exception, or at its dict -/
def IsEx : HO → Prop
  | .ext _ => True
  | .xd _ => True
  | _ => False
/-- an exception object of the class at C stands at a; its dict -/
def ExAt (F : Hp) (a C : Addr) (d : Option Addr) : Prop := ∃ φ, F a = some (.ext φ) ∧ ∀ h : Heap, φ h → ∃ (oe : Obj) (vs : Array Value), h.get? a = some oe ∧ Zc (.ref C) d oe ∧ oe.data = .fields vs
/-- the dict of an exception -/
def ExD (F : Hp) (dx : Addr) (ws : List (Str × V)) : Prop := F dx = some (.xd ws) ∨ ∃ φ, F dx = some (.ext φ) ∧ ∀ h : Heap, φ h → ∃ mA, h.Ns1 dx mA ∧ ∀ f, RelO (ws.lookup f) (mA f)
mutual
/-- v stands for d, all its objects frozen in F -/
def Rep (M : Nm) (F : Hp) : D → V → Prop
  | .non, v => v = .non
  | .bl b, v => v = .bl b
  | .int i, v => v = .int i
  | .str x, v => v = .str x
  | .lst ds, v => ∃ a vs, v = .ref a ∧ Rd F a (.lst vs) ∧ Reps M F ds vs
  | .tup ds, v => ∃ a vs, v = .ref a ∧ F a = some (.tup vs) ∧ Reps M F ds vs
  | .dct kvs, v => ∃ a ws, v = .ref a ∧ Rd F a (.dK ws) ∧ RepK M F kvs ws
  | .dcT kvs, v => ∃ a ws, v = .ref a ∧ Rd F a (.dT ws) ∧ RepKT M F kvs ws
  | .obj C fs, v => ∃ a dx ws, v = .ref a ∧ F a = some (.ins (M.cl C) dx ws) ∧ RepA M F fs ws
  | .exn C fs, v => ∃ a d, v = .ref a ∧ ExAt F a (M.cl C) d ∧ ((d = none ∧ fs = []) ∨ ∃ dx ws, d = some dx ∧ ExD F dx ws ∧ RepA M F fs ws)
def Reps (M : Nm) (F : Hp) : List D → List V → Prop
  | [], vs => vs = []
  | d :: ds, vs => ∃ v ws, vs = v :: ws ∧ Rep M F d v ∧ Reps M F ds ws
def RepK (M : Nm) (F : Hp) : List (Key × D) → List (Key × V) → Prop
  | [], vs => vs = []
  | (k, d) :: ds, vs => ∃ v ws, vs = (k, v) :: ws ∧ Rep M F d v ∧ RepK M F ds ws
def RepKT (M : Nm) (F : Hp) : List (List Key × D) → List (List Key × V) → Prop
  | [], vs => vs = []
  | (k, d) :: ds, vs => ∃ v ws, vs = (k, v) :: ws ∧ Rep M F d v ∧ RepKT M F ds ws
def RepA (M : Nm) (F : Hp) : List (Nat × D) → List (Str × V) → Prop
  | [], vs => vs = []
  | (a, d) :: ds, vs => ∃ v ws, vs = (M.an a, v) :: ws ∧ Rep M F d v ∧ RepA M F ds ws
end

/-- what is frozen stays (a dict may be locked and unlocked) -/
structure Le (F F' : Hp) : Prop where
  l : ∀ a xs, Rd F a (.lst xs) → Rd F' a (.lst xs)
  t : ∀ a xs, F a = some (.tup xs) → F' a = some (.tup xs)
  tr : ∀ a xs, Rd F a (.tup xs) → Rd F' a (.tup xs)
  k : ∀ a xs, Rd F a (.dK xs) → Rd F' a (.dK xs)
  kt : ∀ a xs, Rd F a (.dT xs) → Rd F' a (.dT xs)
  i : ∀ a C dx fs, F a = some (.ins C dx fs) → F' a = some (.ins C dx fs)
  x : ∀ a u, IsEx u → F a = some u → F' a = some u
  d : ∀ a, F' a = none → F a = none
  o : ∀ a x, F' a = some (.own x) → F a = none ∨ F a = some (.own x)
theorem Le.refl (F : Hp) : Le F F := ⟨fun _ _ h => h, fun _ _ h => h, fun _ _ h => h, fun _ _ h => h, fun _ _ h => h, fun _ _ _ _ h => h, fun _ _ _ h => h, fun _ h => h, fun _ _ h => .inr h⟩
theorem Le.trans {F F1 F2 : Hp} (a : Le F F1) (b : Le F1 F2) : Le F F2 := ⟨fun x y h => b.l x y (a.l x y h), fun x y h => b.t x y (a.t x y h), fun x y h => b.tr x y (a.tr x y h), fun x y h => b.k x y (a.k x y h),
  fun x y h => b.kt x y (a.kt x y h), fun x y z w h => b.i x y z w (a.i x y z w h), fun x y z h => b.x x y z (a.x x y z h), fun x h => a.d x (b.d x h), fun x y h => (b.o x y h).elim (fun z => .inl (a.d x z)) (a.o x y)⟩
theorem rd_upd {H : Hp} {p a : Addr} {o u : HO} (h : H p = none) (r : Rd H a u) : Rd (upd H p o) a u := by
  rcases r with r | ⟨ob, r⟩
  · exact .inl (by rw [upd_ne (ne_of_none r h)]; exact r)
  · exact .inr ⟨ob, by rw [upd_ne (ne_of_none r h)]; exact r⟩
theorem Le.new {F : Hp} {p : Addr} {o : HO} (h : F p = none) : Le F (upd F p o) := by
  refine ⟨fun a xs r => rd_upd h r, fun a xs e => ?_, fun a xs r => rd_upd h r, fun a xs r => rd_upd h r, fun a xs r => rd_upd h r, fun a C dx fs e => ?_, fun a φ io e => ?_, fun a e => ?_, fun a x e => ?_⟩
  · rw [upd_ne (ne_of_none e h)]; exact e
  · rw [upd_ne (ne_of_none e h)]; exact e
  · rw [upd_ne (ne_of_none e h)]; exact e
  · by_cases q : a = p
    · rw [q]; exact h
    · rw [upd_ne q] at e; exact e
  · by_cases q : a = p
    · rw [q]; exact .inl h
    · rw [upd_ne q] at e; exact .inr e
/-- both get the same new thing -/
theorem Le.both {F H : Hp} {p : Addr} {o : HO} (l : Le F H) (h : F p = none) : Le (upd F p o) (upd H p o) := by
  have rdb : ∀ a u, (Rd F a u → Rd H a u) → Rd (upd F p o) a u → Rd (upd H p o) a u := fun a u f r => by
    by_cases q : a = p
    · subst q
      rcases r with r | ⟨ob, r⟩
      · rw [upd_same] at r; exact .inl (by rw [upd_same]; exact r)
      · rw [upd_same] at r; exact .inr ⟨ob, by rw [upd_same]; exact r⟩
    · have r' : Rd F a u := by
        rcases r with r | ⟨ob, r⟩
        · rw [upd_ne q] at r; exact .inl r
        · rw [upd_ne q] at r; exact .inr ⟨ob, r⟩
      rcases f r' with r | ⟨ob, r⟩
      · exact .inl (by rw [upd_ne q]; exact r)
      · exact .inr ⟨ob, by rw [upd_ne q]; exact r⟩
  refine ⟨fun a xs => rdb a _ (l.l a xs), fun a xs e => ?_, fun a xs => rdb a _ (l.tr a xs), fun a xs => rdb a _ (l.k a xs), fun a xs => rdb a _ (l.kt a xs), fun a C dx fs e => ?_, fun a φ io e => ?_, fun a e => ?_, fun a x e => ?_⟩
  · by_cases q : a = p
    · subst q; rw [upd_same] at e ⊢; exact e
    · rw [upd_ne q] at e ⊢; exact l.t a xs e
  · by_cases q : a = p
    · subst q; rw [upd_same] at e ⊢; exact e
    · rw [upd_ne q] at e ⊢; exact l.i a C dx fs e
  · by_cases q : a = p
    · subst q; rw [upd_same] at e ⊢; exact e
    · rw [upd_ne q] at e ⊢; exact l.x a φ io e
  · by_cases q : a = p
    · subst q; rw [upd_same] at e; cases e
    · rw [upd_ne q] at e ⊢; exact l.d a e
  · by_cases q : a = p
    · subst q; rw [upd_same] at e ⊢; exact .inr e
    · rw [upd_ne q] at e ⊢; exact l.o a x e
/-- frozen: it stands in the heap already -/
theorem Le.add {F H : Hp} {p : Addr} {o : HO} (l : Le F H) (h : F p = none) (e : H p = some o) : Le (upd F p o) H := by
  have u : upd H p o = H := by
    funext b
    unfold upd
    split
    · rename_i q; rw [q, e]
    · rfl
  rw [← u]
  exact l.both h
/-- something that F does not know is changed -/
theorem Le.mut {F H : Hp} {p : Addr} {o : HO} (l : Le F H) (h : F p = none) : Le F (upd H p o) := by
  have rdb : ∀ a u, (Rd F a u → Rd H a u) → Rd F a u → Rd (upd H p o) a u := fun a u f r => by
    have q : a ≠ p := by
      rintro rfl
      rcases r with r | ⟨ob, r⟩ <;> (rw [h] at r; cases r)
    rcases f r with r | ⟨ob, r⟩
    · exact .inl (by rw [upd_ne q]; exact r)
    · exact .inr ⟨ob, by rw [upd_ne q]; exact r⟩
  refine ⟨fun a xs => rdb a _ (l.l a xs), fun a xs e => ?_, fun a xs => rdb a _ (l.tr a xs), fun a xs => rdb a _ (l.k a xs), fun a xs => rdb a _ (l.kt a xs), fun a C dx fs e => ?_, fun a φ io e => ?_, fun a e => ?_, fun a x e => ?_⟩
  · rw [upd_ne (ne_of_none e h)]; exact l.t a xs e
  · rw [upd_ne (ne_of_none e h)]; exact l.i a C dx fs e
  · rw [upd_ne (ne_of_none e h)]; exact l.x a φ io e
  · by_cases q : a = p
    · rw [q]; exact h
    · rw [upd_ne q] at e; exact l.d a e
  · by_cases q : a = p
    · rw [q]; exact .inl h
    · rw [upd_ne q] at e; exact l.o a x e
theorem ExAt.mono {F F' : Hp} {a C : Addr} {d : Option Addr} (h : ExAt F a C d) (l : Le F F') : ExAt F' a C d := let ⟨φ, e, k⟩ := h; ⟨φ, l.x a _ True.intro e, k⟩
theorem ExD.mono {F F' : Hp} {dx : Addr} {ws : List (Str × V)} (h : ExD F dx ws) (l : Le F F') : ExD F' dx ws :=
  h.elim (fun e => .inl (l.x dx _ True.intro e)) fun ⟨φ, e, k⟩ => .inr ⟨φ, l.x dx _ True.intro e, k⟩
section
variable {M : Nm} {F F' : Hp}
mutual
theorem Rep.mono (l : Le F F') : ∀ (d : D) (v : V), Rep M F d v → Rep M F' d v
  | .non, _, h => h
  | .bl _, _, h => h
  | .int _, _, h => h
  | .str _, _, h => h
  | .lst ds, _, ⟨a, vs, e, s, r⟩ => ⟨a, vs, e, l.l a vs s, Reps.mono l ds vs r⟩
  | .tup ds, _, ⟨a, vs, e, s, r⟩ => ⟨a, vs, e, l.t a vs s, Reps.mono l ds vs r⟩
  | .dct ds, _, ⟨a, vs, e, s, r⟩ => ⟨a, vs, e, l.k a vs s, RepK.mono l ds vs r⟩
  | .dcT ds, _, ⟨a, vs, e, s, r⟩ => ⟨a, vs, e, l.kt a vs s, RepKT.mono l ds vs r⟩
  | .obj C fs, _, ⟨a, dx, ws, e, s, r⟩ => ⟨a, dx, ws, e, l.i a _ dx ws s, RepA.mono l fs ws r⟩
  | .exn C fs, _, ⟨a, d, e, s, .inl r⟩ => ⟨a, d, e, s.mono l, .inl r⟩
  | .exn C fs, _, ⟨a, d, e, s, .inr ⟨dx, ws, e2, s2, r2⟩⟩ => ⟨a, d, e, s.mono l, .inr ⟨dx, ws, e2, s2.mono l, RepA.mono l fs ws r2⟩⟩
theorem Reps.mono (l : Le F F') : ∀ (ds : List D) (vs : List V), Reps M F ds vs → Reps M F' ds vs
  | [], _, h => h
  | d :: ds, _, ⟨v, ws, e, r, rs⟩ => ⟨v, ws, e, Rep.mono l d v r, Reps.mono l ds ws rs⟩
theorem RepK.mono (l : Le F F') : ∀ (ds : List (Key × D)) (vs : List (Key × V)), RepK M F ds vs → RepK M F' ds vs
  | [], _, h => h
  | (_, d) :: ds, _, ⟨v, ws, e, r, rs⟩ => ⟨v, ws, e, Rep.mono l d v r, RepK.mono l ds ws rs⟩
theorem RepKT.mono (l : Le F F') : ∀ (ds : List (List Key × D)) (vs : List (List Key × V)), RepKT M F ds vs → RepKT M F' ds vs
  | [], _, h => h
  | (_, d) :: ds, _, ⟨v, ws, e, r, rs⟩ => ⟨v, ws, e, Rep.mono l d v r, RepKT.mono l ds ws rs⟩
theorem RepA.mono (l : Le F F') : ∀ (ds : List (Nat × D)) (vs : List (Str × V)), RepA M F ds vs → RepA M F' ds vs
  | [], _, h => h
  | (_, d) :: ds, _, ⟨v, ws, e, r, rs⟩ => ⟨v, ws, e, Rep.mono l d v r, RepA.mono l ds ws rs⟩
end
end

/-- what stands at an object's own place -/
def RepTop (M : Nm) (F : Hp) : D → HO → Prop
  | .lst ds, .lst vs => Reps M F ds vs
  | .dct ds, .dK vs => RepK M F ds vs
  | .dcT ds, .dT vs => RepKT M F ds vs
  | .obj C fs, .ins A _ vs => A = M.cl C ∧ RepA M F fs vs
  | _, _ => False
theorem RepTop.mono {M : Nm} {F F' : Hp} (l : Le F F') : ∀ {d : D} {o : HO}, RepTop M F d o → RepTop M F' d o := fun {d o} h => by
  cases d <;> cases o <;> first
    | exact h.elim
    | exact Reps.mono l _ _ h
    | exact RepK.mono l _ _ h
    | exact RepKT.mono l _ _ h
    | exact ⟨h.1, RepA.mono l _ _ h.2⟩
/-- the object at a, frozen -/
theorem RepTop.rep {M : Nm} {F : Hp} {a : Addr} : ∀ {d : D} {o : HO}, F a = some o → RepTop M F d o → Rep M F d (.ref a) := fun {d o} e h => by
  cases d <;> cases o <;> first
    | exact h.elim
    | exact ⟨a, _, rfl, .inl e, h⟩
    | (obtain ⟨rfl, h⟩ := h; exact ⟨a, _, _, rfl, e, h⟩)
/-- v is to be read as d -/
def RT (M : Nm) (F H : Hp) (d : D) (v : V) : Prop := Rep M F d v ∨ ∃ a o, v = .ref a ∧ H a = some o ∧ RepTop M F d o
theorem RT.mono {M : Nm} {F F' H : Hp} {d : D} {v : V} (l : Le F F') (h : RT M F H d v) : RT M F' H d v :=
  h.elim (fun r => .inl (Rep.mono l d v r)) fun ⟨a, o, e, q, r⟩ => .inr ⟨a, o, e, q, r.mono l⟩
section
variable {M : Nm} {F H : Hp} {v : V}
theorem RT.lstR {ds : List D} (l : Le F H) (h : RT M F H (.lst ds) v) : ∃ a vs, v = .ref a ∧ Rd H a (.lst vs) ∧ Reps M F ds vs := by
  rcases h with ⟨a, vs, e, s, r⟩ | ⟨a, o, e, q, r⟩
  · exact ⟨a, vs, e, l.l a vs s, r⟩
  · cases o <;> first | exact r.elim | exact ⟨a, _, e, .inl q, r⟩
theorem RT.lst {ds : List D} (l : Le F H) (h : RT M F H (.lst ds) v) : ∃ a vs, v = .ref a ∧ SqL M.K H a vs ∧ Reps M F ds vs :=
  let ⟨a, vs, e, s, r⟩ := h.lstR l; ⟨a, vs, e, .inl s, r⟩
theorem RT.tup {ds : List D} (l : Le F H) (h : RT M F H (.tup ds) v) : ∃ a vs, v = .ref a ∧ H a = some (.tup vs) ∧ Reps M F ds vs := by
  rcases h with ⟨a, vs, e, s, r⟩ | ⟨a, o, e, q, r⟩
  · exact ⟨a, vs, e, l.t a vs s, r⟩
  · cases o <;> exact r.elim
theorem RT.dct {ds : List (Key × D)} (l : Le F H) (h : RT M F H (.dct ds) v) : ∃ a vs, v = .ref a ∧ Rd H a (.dK vs) ∧ RepK M F ds vs := by
  rcases h with ⟨a, vs, e, s, r⟩ | ⟨a, o, e, q, r⟩
  · exact ⟨a, vs, e, l.k a vs s, r⟩
  · cases o <;> first | exact r.elim | exact ⟨a, _, e, .inl q, r⟩
theorem RT.dcT {ds : List (List Key × D)} (l : Le F H) (h : RT M F H (.dcT ds) v) : ∃ a vs, v = .ref a ∧ Rd H a (.dT vs) ∧ RepKT M F ds vs := by
  rcases h with ⟨a, vs, e, s, r⟩ | ⟨a, o, e, q, r⟩
  · exact ⟨a, vs, e, l.kt a vs s, r⟩
  · cases o <;> first | exact r.elim | exact ⟨a, _, e, .inl q, r⟩
theorem RT.obj {C : Nat} {fs : List (Nat × D)} (l : Le F H) (h : RT M F H (.obj C fs) v) : ∃ a dx ws, v = .ref a ∧ H a = some (.ins (M.cl C) dx ws) ∧ RepA M F fs ws := by
  rcases h with ⟨a, dx, vs, e, s, r⟩ | ⟨a, o, e, q, r⟩
  · exact ⟨a, dx, vs, e, l.i a _ dx vs s, r⟩
  · cases o <;> first | exact r.elim | (obtain ⟨rfl, r⟩ := r; exact ⟨a, _, _, e, q, r⟩)
theorem RT.exn {C : Nat} {fs : List (Nat × D)} (h : RT M F H (.exn C fs) v) : ∃ a d, v = .ref a ∧ ExAt F a (M.cl C) d ∧ ((d = none ∧ fs = []) ∨ ∃ dx ws, d = some dx ∧ ExD F dx ws ∧ RepA M F fs ws) := by
  rcases h with h | ⟨a, o, e, q, r⟩
  · exact h
  · cases o <;> exact r.elim
theorem RT.non (h : RT M F H .non v) : v = .non := h.elim (fun r => r) fun ⟨a, o, e, q, r⟩ => by cases o <;> exact r.elim
theorem RT.bl {b : Bool} (h : RT M F H (.bl b) v) : v = .bl b := h.elim (fun r => r) fun ⟨a, o, e, q, r⟩ => by cases o <;> exact r.elim
theorem RT.int {b : Int} (h : RT M F H (.int b) v) : v = .int b := h.elim (fun r => r) fun ⟨a, o, e, q, r⟩ => by cases o <;> exact r.elim
theorem RT.str {b : Str} (h : RT M F H (.str b) v) : v = .str b := h.elim (fun r => r) fun ⟨a, o, e, q, r⟩ => by cases o <;> exact r.elim
end

/-! ### lists of data -/
section
variable {M : Nm} {F : Hp}
theorem Reps.length : ∀ {ds : List D} {vs : List V}, Reps M F ds vs → ds.length = vs.length
  | [], _, h => by subst h; rfl
  | d :: ds, _, ⟨v, ws, e, _, r⟩ => by subst e; simp [Reps.length r]
theorem Reps.nil : Reps M F [] [] := rfl
theorem Reps.cons {d : D} {ds : List D} {v : V} {vs : List V} (h : Rep M F d v) (r : Reps M F ds vs) : Reps M F (d :: ds) (v :: vs) := ⟨v, vs, rfl, h, r⟩
theorem Reps.append : ∀ {ds es : List D} {vs ws : List V}, Reps M F ds vs → Reps M F es ws → Reps M F (ds ++ es) (vs ++ ws)
  | [], _, _, _, h, r => by subst h; exact r
  | d :: ds, _, _, _, ⟨v, xs, e, q, r⟩, s => by subst e; exact ⟨v, _, rfl, q, r.append s⟩
theorem Reps.get : ∀ {ds : List D} {vs : List V} {i : Nat} {v : V}, Reps M F ds vs → vs[i]? = some v → ∃ d, ds[i]? = some d ∧ Rep M F d v
  | [], _, _, _, h, e => by subst h; simp at e
  | d :: ds, _, 0, v, ⟨w, xs, q, r, _⟩, e => by subst q; simp at e; subst e; exact ⟨d, rfl, r⟩
  | d :: ds, _, i + 1, v, ⟨w, xs, q, _, rs⟩, e => by subst q; simp at e; obtain ⟨x, h1, h2⟩ := rs.get e; exact ⟨x, by simpa using h1, h2⟩
theorem Reps.at : ∀ {ds : List D} {vs : List V} {i : Nat} {d : D}, Reps M F ds vs → ds[i]? = some d → ∃ v, vs[i]? = some v ∧ Rep M F d v
  | [], _, _, _, h, e => by simp at e
  | d :: ds, _, 0, v, ⟨w, xs, q, r, _⟩, e => by subst q; simp at e; subst e; exact ⟨w, rfl, r⟩
  | d :: ds, _, i + 1, v, ⟨w, xs, q, _, rs⟩, e => by subst q; simp at e; obtain ⟨x, h1, h2⟩ := rs.at e; exact ⟨x, by simpa using h1, h2⟩
theorem Reps.take : ∀ (n : Nat) {ds : List D} {vs : List V}, Reps M F ds vs → Reps M F (ds.take n) (vs.take n)
  | 0, _, _, _ => by simp; exact Reps.nil
  | n + 1, [], _, h => by subst h; exact Reps.nil
  | n + 1, d :: ds, _, ⟨w, xs, q, r, rs⟩ => by subst q; exact ⟨w, _, rfl, r, rs.take n⟩
theorem Reps.drop : ∀ (n : Nat) {ds : List D} {vs : List V}, Reps M F ds vs → Reps M F (ds.drop n) (vs.drop n)
  | 0, _, _, h => h
  | n + 1, [], _, h => by subst h; exact Reps.nil
  | n + 1, d :: ds, _, ⟨w, xs, q, r, rs⟩ => by subst q; exact rs.drop n
theorem Reps.set : ∀ (n : Nat) {ds : List D} {vs : List V} {d : D} {v : V}, Reps M F ds vs → Rep M F d v → Reps M F (ds.set n d) (vs.set n v)
  | _, [], _, _, _, h, _ => by subst h; exact Reps.nil
  | 0, d :: ds, _, _, _, ⟨w, xs, q, r, rs⟩, h => by subst q; exact ⟨_, _, rfl, h, rs⟩
  | n + 1, d :: ds, _, _, _, ⟨w, xs, q, r, rs⟩, h => by subst q; exact ⟨w, _, rfl, r, rs.set n h⟩
theorem Reps.reverse : ∀ {ds : List D} {vs : List V}, Reps M F ds vs → Reps M F ds.reverse vs.reverse
  | [], _, h => by subst h; exact Reps.nil
  | d :: ds, _, ⟨w, xs, q, r, rs⟩ => by
    subst q
    rw [List.reverse_cons, List.reverse_cons]
    exact rs.reverse.append (Reps.cons r Reps.nil)
theorem Reps.erase : ∀ (n : Nat) {ds : List D} {vs : List V}, Reps M F ds vs → Reps M F (ds.eraseIdx n) (vs.eraseIdx n)
  | _, [], _, h => by subst h; exact Reps.nil
  | 0, d :: ds, _, ⟨w, xs, q, r, rs⟩ => by subst q; exact rs
  | n + 1, d :: ds, _, ⟨w, xs, q, r, rs⟩ => by subst q; exact ⟨w, _, rfl, r, rs.erase n⟩
theorem Reps.dropLast {ds : List D} {vs : List V} (h : Reps M F ds vs) : Reps M F ds.dropLast vs.dropLast := by
  rw [List.dropLast_eq_take, List.dropLast_eq_take, h.length]
  exact h.take _
theorem Reps.rep (n : Nat) {ds : List D} {vs : List V} (h : Reps M F ds vs) : Reps M F (List.replicate n ds).flatten (List.replicate n vs).flatten := by
  induction n with
  | zero => exact Reps.nil
  | succ n ih => rw [List.replicate_succ, List.replicate_succ, List.flatten_cons, List.flatten_cons]; exact h.append ih
/-- ints stand for themselves -/
theorem Reps.ints : ∀ {ds : List D} {vs : List V} {is : List Int}, Reps M F ds vs → intsOf ds = some is → vs = is.map V.int
  | [], _, is, h, e => by subst h; simp [intsOf] at e; subst e; rfl
  | d :: ds, _, is, ⟨w, xs, q, r, rs⟩, e => by
    subst q
    cases d with
    | int i =>
      rw [show intsOf (.int i :: ds) = (intsOf ds).map (i :: ·) from rfl] at e
      obtain ⟨js, h1, h2⟩ := Option.map_eq_some_iff.mp e
      subst h2
      have r' : w = .int i := r
      rw [r', List.map_cons, rs.ints h1]
    | _ => cases e
theorem Reps.bools : ∀ {ds : List D} {vs : List V} {is : List Bool}, Reps M F ds vs → boolsOf ds = some is → vs = is.map V.bl
  | [], _, is, h, e => by subst h; simp [boolsOf] at e; subst e; rfl
  | d :: ds, _, is, ⟨w, xs, q, r, rs⟩, e => by
    subst q
    cases d with
    | bl i =>
      rw [show boolsOf (.bl i :: ds) = (boolsOf ds).map (i :: ·) from rfl] at e
      obtain ⟨js, h1, h2⟩ := Option.map_eq_some_iff.mp e
      subst h2
      have r' : w = .bl i := r
      rw [r', List.map_cons, rs.bools h1]
    | _ => cases e
theorem Reps.strs : ∀ {ds : List D} {vs : List V} {is : List Str}, Reps M F ds vs → strsOf ds = some is → vs = is.map V.str
  | [], _, is, h, e => by subst h; simp [strsOf] at e; subst e; rfl
  | d :: ds, _, is, ⟨w, xs, q, r, rs⟩, e => by
    subst q
    cases d with
    | str i =>
      rw [show strsOf (.str i :: ds) = (strsOf ds).map (i :: ·) from rfl] at e
      obtain ⟨js, h1, h2⟩ := Option.map_eq_some_iff.mp e
      subst h2
      have r' : w = .str i := r
      rw [r', List.map_cons, rs.strs h1]
    | _ => cases e
theorem reps_int : ∀ (is : List Int), Reps M F (is.map D.int) (is.map V.int)
  | [] => Reps.nil
  | i :: is => Reps.cons rfl (reps_int is)
theorem reps_str : ∀ (is : List Str), Reps M F (is.map D.str) (is.map V.str)
  | [] => Reps.nil
  | i :: is => Reps.cons rfl (reps_str is)
end

/-! ### frames -/
def IsOwn : Slot → Prop
  | .ow _ => True | .pw _ => True | _ => False
/-- the own objects' places -/
def OA (ρ : Env) (σ : L2.St) (a : Addr) : Prop := ∃ i, IsOwn (slotAt ρ i) ∧ σ[i]? = some (some (.ref a))
/-- kids of an own list at a: own lists, marked -/
def Kids (M : Nm) (H0 F H : Hp) (a : Addr) : List Addr → List (List D) → Prop
  | [], ks => ks = []
  | b :: bs, ks => ∃ ds r, ks = ds :: r ∧ b ≠ a ∧ H0 b = none ∧ F b = some (.own a) ∧ (∃ vs, H b = some (.lst vs) ∧ Reps M F ds vs) ∧ Kids M H0 F H a bs r
/-- the own lists' holder -/
def Hd (H : Hp) (a : Addr) (q : Option (List Key)) (bs : List Addr) : Prop := match q with
  | none => H a = some (.lst (bs.map V.ref))
  | some keys => keys.length = bs.length ∧ H a = some (.dK (keys.zip (bs.map V.ref)))
theorem Hd.to {H H' : Hp} {a : Addr} {q : Option (List Key)} {bs : List Addr} (k : ∀ o, H a = some o → H' a = some o) (h : Hd H a q bs) : Hd H' a q bs := match q, h with
  | none, h => k _ h
  | some _, h => ⟨h.1, k _ h.2⟩
def OdAt (M : Nm) (H0 F H : Hp) (a : Addr) (o : Od) : Prop := H0 a = none ∧ F a = some (.own a) ∧ ∃ bs : List Addr, Hd H a o.q bs ∧ bs.Nodup ∧ Kids M H0 F H a bs o.ks
structure OdR (M : Nm) (H0 F H : Hp) (σ : L2.St) (ρ : Env) : Prop where
  od : ∀ i ks, slotAt ρ i = .od ks → ∃ a, σ[i]? = some (some (.ref a)) ∧ OdAt M H0 F H a ks
  ds : ∀ i j ks ls a, slotAt ρ i = .od ks → slotAt ρ j = .od ls → σ[i]? = some (some (.ref a)) → σ[j]? = some (some (.ref a)) → i = j
/-- marked things stay -/
def MkS (F F' : Hp) : Prop := ∀ b x, F b = some (.own x) → F' b = some (.own x)
def HkS (F H H' : Hp) : Prop := ∀ b x o, F b = some (.own x) → H b = some o → H' b = some o
theorem Kids.step {M : Nm} {H0 F H F' H' : Hp} {a : Addr} (l : Le F F') (m : MkS F F') (k : HkS F H H') : ∀ {bs : List Addr} {ks : List (List D)}, Kids M H0 F H a bs ks → Kids M H0 F' H' a bs ks
  | [], _, h => h
  | b :: bs, _, ⟨ds, r, e, h1, h2, h3, ⟨vs, h4, h5⟩, h6⟩ => ⟨ds, r, e, h1, h2, m _ _ h3, ⟨vs, k _ _ _ h3 h4, Reps.mono l _ _ h5⟩, h6.step l m k⟩
theorem OdAt.step {M : Nm} {H0 F H F' H' : Hp} {a : Addr} {ks : Od} (l : Le F F') (m : MkS F F') (k : HkS F H H') (h : OdAt M H0 F H a ks) : OdAt M H0 F' H' a ks :=
  let ⟨h1, h2, bs, h3, h4, h5⟩ := h; ⟨h1, m _ _ h2, bs, h3.to fun _ e => k _ _ _ h2 e, h4, h5.step l m k⟩
theorem OdR.step {M : Nm} {H0 F H F' H' : Hp} {σ σ' : L2.St} {ρ ρ' : Env} (h : OdR M H0 F H σ ρ) (l : Le F F') (m : MkS F F') (k : HkS F H H') (sl : ∀ i ks, slotAt ρ' i = .od ks → slotAt ρ i = .od ks ∧ σ'[i]? = σ[i]?) : OdR M H0 F' H' σ' ρ' where
  od := fun i ks e => by
    obtain ⟨e1, e2⟩ := sl i ks e
    obtain ⟨a, h1, h2⟩ := h.od i ks e1
    exact ⟨a, by rw [e2]; exact h1, h2.step l m k⟩
  ds := fun i j ks ls a e f g g' => by
    obtain ⟨e1, e2⟩ := sl i ks e
    obtain ⟨f1, f2⟩ := sl j ls f
    rw [e2] at g
    rw [f2] at g'
    exact h.ds i j ks ls a e1 f1 g g'
theorem MkS.refl (F : Hp) : MkS F F := fun _ _ h => h
theorem HkS.refl (F H : Hp) : HkS F H H := fun _ _ _ _ h => h
theorem MkS.new {F : Hp} {p : Addr} {o : HO} (h : F p = none) : MkS F (upd F p o) := fun b x e => by rw [upd_ne (ne_of_none e h)]; exact e
theorem HkS.mut {F H : Hp} {p : Addr} {o : HO} (h : F p = none) : HkS F H (upd H p o) := fun b x u e e' => by rw [upd_ne (ne_of_none e h)]; exact e'
structure Rel (M : Nm) (H0 F H : Hp) (σ : L2.St) (ρ : Env) : Prop where
  sub : Le F H
  len : σ.length = ρ.length
  fz : ∀ i d, slotAt ρ i = .fz d → ∃ v, σ[i]? = some (some v) ∧ Rep M F d v
  ow : ∀ i d, slotAt ρ i = .ow d ∨ slotAt ρ i = .pw d → ∃ a o, σ[i]? = some (some (.ref a)) ∧ F a = none ∧ H a = some o ∧ RepTop M F d o
  dist : ∀ i j a, IsOwn (slotAt ρ i) → IsOwn (slotAt ρ j) → σ[i]? = some (some (.ref a)) → σ[j]? = some (some (.ref a)) → i = j
  new : ∀ i d a, slotAt ρ i = .ow d → σ[i]? = some (some (.ref a)) → H0 a = none
  dom : ∀ a, H a = none → H0 a = none
  odr : OdR M H0 F H σ ρ
/-- from one state to another: A the own objects ahead, A' behind -/
structure Stp (F H : Hp) (A : Addr → Prop) (F' H' : Hp) (A' : Addr → Prop) : Prop where
  le : Le F F'
  fr : ∀ b o, H b = some o → ¬ A b → H' b = some o
  dm : ∀ b, H' b = none → H b = none
  nw : ∀ b, F b = none → F' b ≠ none → H b = none ∨ A b
  ow : ∀ b, A' b → A b ∨ H b = none
  mm : MkS F F'
theorem Stp.refl (F H : Hp) (A : Addr → Prop) : Stp F H A F H A := ⟨Le.refl F, fun _ _ h _ => h, fun _ h => h, fun _ h h' => absurd h h', fun _ h => .inl h, MkS.refl F⟩
theorem Stp.trans {F F1 F2 H H1 H2 : Hp} {A A1 A2 : Addr → Prop} (a : Stp F H A F1 H1 A1) (b : Stp F1 H1 A1 F2 H2 A2) : Stp F H A F2 H2 A2 where
  le := a.le.trans b.le
  fr := fun x o h n => b.fr x o (a.fr x o h n) fun z => (a.ow x z).elim n fun e => by rw [h] at e; cases e
  dm := fun x h => a.dm x (b.dm x h)
  nw := fun x h h' => by
    by_cases q : F1 x = none
    · rcases b.nw x q h' with e | e
      · exact .inl (a.dm x e)
      · exact (a.ow x e).elim .inr .inl
    · exact a.nw x h q
  ow := fun x h => (b.ow x h).elim (fun z => a.ow x z) fun z => .inr (a.dm x z)
  mm := fun x y h => b.mm x y (a.mm x y h)
/-- from one statement to another: what the def made and marked may change -/
structure StpW (H0 F H : Hp) (A : Addr → Prop) (F' H' : Hp) (A' : Addr → Prop) : Prop where
  le : Le F F'
  fr : ∀ b o, H b = some o → ¬ A b → (∀ x, F b = some (.own x) → H0 b ≠ none) → H' b = some o
  dm : ∀ b, H' b = none → H b = none
  nw : ∀ b, F b = none → F' b ≠ none → H b = none ∨ A b
  ow : ∀ b, A' b → A b ∨ H b = none
  mm : ∀ b x, F b = some (.own x) → H0 b ≠ none → F' b = some (.own x)
theorem Stp.w {H0 F H F' H' : Hp} {A A' : Addr → Prop} (S : Stp F H A F' H' A') : StpW H0 F H A F' H' A' := ⟨S.le, fun b o e n _ => S.fr b o e n, S.dm, S.nw, S.ow, fun b x e _ => S.mm b x e⟩
instance {H0 F H F' H' : Hp} {A A' : Addr → Prop} : Coe (Stp F H A F' H' A') (StpW H0 F H A F' H' A') := ⟨Stp.w⟩
theorem StpW.refl (H0 F H : Hp) (A : Addr → Prop) : StpW H0 F H A F H A := (Stp.refl F H A).w
theorem StpW.trans {H0 F F1 F2 H H1 H2 : Hp} {A A1 A2 : Addr → Prop} (a : StpW H0 F H A F1 H1 A1) (b : StpW H0 F1 H1 A1 F2 H2 A2) : StpW H0 F H A F2 H2 A2 where
  le := a.le.trans b.le
  fr := fun x o h n k => b.fr x o (a.fr x o h n k) (fun z => (a.ow x z).elim n fun e => by rw [h] at e; cases e) fun y e => by
    rcases a.le.o x y e with z | z
    · rcases a.nw x z (by rw [e]; intro q; cases q) with q | q
      · rw [h] at q; cases q
      · exact absurd q n
    · exact k y z
  dm := fun x h => a.dm x (b.dm x h)
  nw := fun x h h' => by
    by_cases q : F1 x = none
    · rcases b.nw x q h' with e | e
      · exact .inl (a.dm x e)
      · exact (a.ow x e).elim .inr .inl
    · exact a.nw x h q
  ow := fun x h => (b.ow x h).elim (fun z => a.ow x z) fun z => .inr (a.dm x z)
  mm := fun x y h k => b.mm x y (a.mm x y h k) k
theorem StpW.shrink {H0 F H F' H' : Hp} {A A' A2 : Addr → Prop} (S : StpW H0 F H A F' H' A') (h : ∀ a, A2 a → A' a) : StpW H0 F H A F' H' A2 := ⟨S.le, S.fr, S.dm, S.nw, fun b z => S.ow b (h b z), S.mm⟩
/-- nothing may change: as Stp -/
abbrev HAll : Hp := fun _ => some (.lst [])
theorem StpW.all {F H F' H' : Hp} {A A' : Addr → Prop} (S : StpW HAll F H A F' H' A') : Stp F H A F' H' A' := ⟨S.le, fun b o e n => S.fr b o e n fun x q z => (by cases z), S.dm, S.nw, S.ow, fun b x e => S.mm b x e fun z => (by cases z)⟩
/-- a def's whole step -/
theorem StpW.s {H0 F H F' H' : Hp} {A A' : Addr → Prop} (S : StpW H0 F H A F' H' A') (l : Le F H) (k : ∀ b, H0 b = none → H b = none) : Stp F H A F' H' A' := ⟨S.le, fun b o e n => S.fr b o e n fun x q z => (by rw [k b z] at e; cases e), S.dm, S.nw, S.ow, fun b x e => S.mm b x e fun z => (by rw [l.d b (k b z)] at e; cases e)⟩
theorem Rel.oan {M : Nm} {H0 F H : Hp} {σ : L2.St} {ρ : Env} (R : Rel M H0 F H σ ρ) {b : Addr} (h : OA ρ σ b) : F b = none := by
  obtain ⟨i, q, z⟩ := h
  cases w : slotAt ρ i with
  | no => rw [w] at q; exact q.elim
  | fz d => rw [w] at q; exact q.elim
  | ow d => obtain ⟨a, u, h1, h2, h3, _⟩ := R.ow i d (.inl w); rw [z] at h1; cases h1; exact h2
  | pw d => obtain ⟨a, u, h1, h2, h3, _⟩ := R.ow i d (.inr w); rw [z] at h1; cases h1; exact h2
  | od d => rw [w] at q; exact q.elim
theorem Rel.hks {M : Nm} {H0 F H F' H' : Hp} {σ : L2.St} {ρ : Env} {A A' : Addr → Prop} (R : Rel M H0 F H σ ρ) (S : Stp F H A F' H' A') (h : ∀ b, A b → OA ρ σ b) : HkS F H H' := fun b x o e e' => S.fr b o e' fun z => by
  rw [R.oan (h b z)] at e; cases e
/-- the slots' kinds: what an expression may do to them -/
structure ES (ρ ρ' : Env) : Prop where
  len : ρ.length = ρ'.length
  fz : ∀ i d, slotAt ρ i = .fz d → slotAt ρ' i = .fz d
  ow : ∀ i d, slotAt ρ i = .ow d → ∃ d', slotAt ρ' i = .ow d' ∨ slotAt ρ' i = .fz d'
  pw : ∀ i d, slotAt ρ i = .pw d → ∃ d', slotAt ρ' i = .pw d'
  no : ∀ i, slotAt ρ i = .no → slotAt ρ' i = .no
  od : ∀ i d, slotAt ρ i = .od d → slotAt ρ' i = .od d
theorem ES.refl (ρ : Env) : ES ρ ρ := ⟨rfl, fun _ _ h => h, fun _ d h => ⟨d, .inl h⟩, fun _ d h => ⟨d, h⟩, fun _ h => h, fun _ _ h => h⟩
theorem ES.trans {ρ ρ1 ρ2 : Env} (a : ES ρ ρ1) (b : ES ρ1 ρ2) : ES ρ ρ2 where
  len := a.len.trans b.len
  fz := fun i d h => b.fz i d (a.fz i d h)
  ow := fun i d h => by
    obtain ⟨d', e | e⟩ := a.ow i d h
    · exact b.ow i d' e
    · exact ⟨d', .inr (b.fz i d' e)⟩
  pw := fun i d h => let ⟨d', e⟩ := a.pw i d h; b.pw i d' e
  no := fun i h => b.no i (a.no i h)
  od := fun i d h => b.od i d (a.od i d h)
/-- an own list of own lists behind was one ahead -/
theorem ES.od' {ρ ρ' : Env} (e : ES ρ ρ') {i : Nat} {ks : Od} (h : slotAt ρ' i = .od ks) : slotAt ρ i = .od ks := by
  cases q : slotAt ρ i with
  | no => rw [e.no i q] at h; cases h
  | fz d => rw [e.fz i d q] at h; cases h
  | ow d => obtain ⟨d', z | z⟩ := e.ow i d q <;> (rw [z] at h; cases h)
  | pw d => obtain ⟨d', z⟩ := e.pw i d q; rw [z] at h; cases h
  | od d => rw [e.od i d q] at h; exact h
/-- an own slot behind was own ahead -/
theorem ES.own {ρ ρ' : Env} (e : ES ρ ρ') {i : Nat} (h : IsOwn (slotAt ρ' i)) : IsOwn (slotAt ρ i) := by
  cases q : slotAt ρ i with
  | no => rw [e.no i q] at h; exact h.elim
  | fz d => rw [e.fz i d q] at h; exact h.elim
  | ow d => exact True.intro
  | pw d => exact True.intro
  | od d => rw [e.od i d q] at h; exact h.elim
theorem ES.oa {ρ ρ' : Env} (e : ES ρ ρ') {σ : L2.St} {a : Addr} (h : OA ρ' σ a) : OA ρ σ a := let ⟨i, o, q⟩ := h; ⟨i, e.own o, q⟩

/-- a value -/
def VOk (M : Nm) (F H : Hp) (σ : L2.St) (ρ : Env) (v : V) : Val → Prop
  | .f d => Rep M F d v
  | .n d => ∃ a o, v = .ref a ∧ F a = none ∧ H a = some o ∧ RepTop M F d o ∧ ¬ OA ρ σ a
  | .v i => σ[i]? = some (some v) ∧ (IsOwn (slotAt ρ i) ∨ ∃ d, slotAt ρ i = .fz d)
  | .t _ => False
def VNew (H : Hp) (v : V) (x : Val) : Prop := ∀ d a, x = .n d → v = .ref a → H a = none
theorem VOk.step {M : Nm} {F F' H H' : Hp} {σ : L2.St} {ρ ρ' : Env} {v : V} {x : Val} (s : Stp F H (OA ρ σ) F' H' (OA ρ' σ)) (e : ES ρ ρ') (h : VOk M F H σ ρ v x) : VOk M F' H' σ ρ' v x := by
  cases x with
  | t _ => first | rfl | exact h.elim | exact p.elim | exact p1.elim | exact p2.elim | exact p3.elim | (exact absurd e (by intro z; cases z)) | (cases e; done)
  | f d => exact Rep.mono s.le d v h
  | n d =>
    obtain ⟨a, o, e1, e2, e3, e4, e5⟩ := h
    refine ⟨a, o, e1, ?_, s.fr a o e3 e5, e4.mono s.le, fun z => e5 (e.oa z)⟩
    cases q : F' a with
    | none => rfl
    | some u =>
      rcases s.nw a e2 (by rw [q]; exact fun z => by cases z) with z | z
      · rw [e3] at z; cases z
      · exact absurd z e5
  | v i =>
    obtain ⟨h1, h2⟩ := h
    refine ⟨h1, ?_⟩
    rcases h2 with h2 | ⟨d, h2⟩
    · cases q : slotAt ρ i with
      | no => rw [q] at h2; exact h2.elim
      | fz d => rw [q] at h2; exact h2.elim
      | ow d =>
        obtain ⟨d', z | z⟩ := e.ow i d q
        · rw [z]; exact .inl True.intro
        · exact .inr ⟨d', z⟩
      | pw d => obtain ⟨d', z⟩ := e.pw i d q; rw [z]; exact .inl True.intro
      | od d => rw [q] at h2; exact h2.elim
    · exact .inr ⟨d, e.fz i d h2⟩
/-- reading a value -/
theorem VOk.rt {M : Nm} {H0 F H : Hp} {σ : L2.St} {ρ : Env} {v : V} {x : Val} {d : D} (R : Rel M H0 F H σ ρ) (h : VOk M F H σ ρ v x) (e : rd ρ x = some d) : RT M F H d v := by
  cases x with
  | t _ => first | rfl | exact h.elim | exact p.elim | exact p1.elim | exact p2.elim | exact p3.elim | (exact absurd e (by intro z; cases z)) | (cases e; done)
  | f d' => cases e; exact .inl h
  | n d' => cases e; obtain ⟨a, o, e1, e2, e3, e4, _⟩ := h; exact .inr ⟨a, o, e1, e3, e4⟩
  | v i =>
    obtain ⟨h1, _⟩ := h
    cases q : slotAt ρ i with
    | no => simp [rd, q] at e
    | fz d' =>
      simp [rd, q] at e; subst e
      obtain ⟨w, e1, e2⟩ := R.fz i _ q
      rw [h1] at e1; cases e1; exact .inl e2
    | ow d' =>
      simp [rd, q] at e; subst e
      obtain ⟨a, o, e1, _, e3, e4⟩ := R.ow i _ (.inl q)
      rw [h1] at e1; cases e1; exact .inr ⟨a, o, rfl, e3, e4⟩
    | pw d' =>
      simp [rd, q] at e; subst e
      obtain ⟨a, o, e1, _, e3, e4⟩ := R.ow i _ (.inr q)
      rw [h1] at e1; cases e1; exact .inr ⟨a, o, rfl, e3, e4⟩
    | od d' => simp [rd, q] at e

/-! ### sets of slots -/
theorem slotAt_set (ρ : Env) (i j : Nat) (s : Slot) : slotAt (ρ.set i s) j = if j = i ∧ i < ρ.length then s else slotAt ρ j := by
  unfold slotAt
  rw [List.getD_eq_getElem?_getD, List.getD_eq_getElem?_getD, List.getElem?_set]
  by_cases h : i = j
  · subst h
    by_cases q : i < ρ.length
    · simp [q]
    · simp [q]
  · rw [if_neg h, if_neg (fun z => h z.1.symm)]
theorem od_set {ρ : Env} {i j : Nat} {s : Slot} {ks : Od} (hs : ∀ k, s ≠ .od k) (h : slotAt (ρ.set i s) j = .od ks) : slotAt ρ j = .od ks ∧ (i < ρ.length → j ≠ i) := by
  rw [slotAt_set] at h
  split at h
  · exact absurd h (hs ks)
  · rename_i q
    exact ⟨h, fun z y => q ⟨y, z⟩⟩
theorem slotAt_lt {ρ : Env} {i : Nat} (h : slotAt ρ i ≠ .no) : i < ρ.length := by
  by_cases q : i < ρ.length
  · exact q
  · exact absurd (by unfold slotAt; rw [List.getD_eq_getElem?_getD, List.getElem?_eq_none (by omega)]; rfl) h

/-- freezing, behind a part that began at Fs, Hs -/
structure Frz (M : Nm) (H0 Fs Hs : Hp) (As : Addr → Prop) (F H : Hp) (σ : L2.St) (ρ : Env) (v : V) (x : Val) (F' : Hp) (ρ' : Env) (d : D) : Prop where
  rel : Rel M H0 F' H σ ρ'
  stp : Stp Fs Hs As F' H (OA ρ' σ)
  es : ES ρ ρ'
  rep : Rep M F' d v
  le : Le F F'
  only : ∀ b, F b = none → F' b ≠ none → v = .ref b ∧ ((∃ d, x = .n d) ∨ OA ρ σ b)
theorem fr_ok {M : Nm} {H0 Fs Hs F H : Hp} {As : Addr → Prop} {σ : L2.St} {ρ ρ' : Env} {v : V} {x : Val} {d : D} (R : Rel M H0 F H σ ρ) (S : Stp Fs Hs As F H (OA ρ σ)) (h : VOk M F H σ ρ v x) (hn : VNew Hs v x) (e : fr ρ x = some (d, ρ')) :
    ∃ F', Frz M H0 Fs Hs As F H σ ρ v x F' ρ' d := by
  cases x with
  | t _ => first | rfl | exact h.elim | exact p.elim | exact p1.elim | exact p2.elim | exact p3.elim | (exact absurd e (by intro z; cases z)) | (cases e; done)
  | f d' =>
    cases e
    exact ⟨F, R, S, ES.refl _, h, Le.refl F, fun b z z' => absurd z z'⟩
  | n d' =>
    cases e
    obtain ⟨a, o, rfl, e2, e3, e4, e5⟩ := h
    have le : Le F (upd F a o) := Le.new e2
    have only : ∀ b, F b = none → upd F a o b ≠ none → b = a := fun b z z' => by
      by_cases q : b = a
      · exact q
      · rw [upd_ne q] at z'; exact absurd z z'
    refine ⟨upd F a o, ⟨R.sub.add e2 e3, R.len, fun i d z => ?_, fun i d z => ?_, R.dist, R.new, R.dom, R.odr.step le (MkS.new e2) (HkS.refl _ _) fun i ks z => ⟨z, rfl⟩⟩, ⟨S.le.trans le, S.fr, S.dm, fun b z z' => ?_, S.ow, fun b x z => MkS.new e2 b x (S.mm b x z)⟩, ES.refl _, (e4.mono le).rep upd_same, le, fun b z z' => ⟨by rw [only b z z'], .inl ⟨_, rfl⟩⟩⟩
    · obtain ⟨w, h1, h2⟩ := R.fz i d z; exact ⟨w, h1, Rep.mono le _ _ h2⟩
    · obtain ⟨b, u, h1, h2, h3, h4⟩ := R.ow i d z
      have nb : b ≠ a := by
        rintro rfl
        exact e5 ⟨i, by rcases z with z | z <;> (rw [z]; exact True.intro), h1⟩
      exact ⟨b, u, h1, by rw [upd_ne nb]; exact h2, h3, h4.mono le⟩
    · by_cases q : F b = none
      · rw [only b q z']; exact .inl (hn _ a rfl rfl)
      · exact S.nw b z q
  | v i =>
    obtain ⟨h1, h2⟩ := h
    cases q : slotAt ρ i with
    | no => simp [fr, q] at e
    | pw d' => simp [fr, q] at e
    | od d' => simp [fr, q] at e
    | fz d' =>
      simp [fr, q] at e
      obtain ⟨rfl, rfl⟩ := e
      obtain ⟨w, e1, e2⟩ := R.fz i _ q
      rw [h1] at e1; cases e1
      exact ⟨F, R, S, ES.refl _, e2, Le.refl F, fun b z z' => absurd z z'⟩
    | ow d' =>
      simp [fr, q] at e
      obtain ⟨rfl, rfl⟩ := e
      obtain ⟨a, o, e1, e2, e3, e4⟩ := R.ow i _ (.inl q)
      rw [h1] at e1; cases e1
      have le : Le F (upd F a o) := Le.new e2
      have hi : i < ρ.length := slotAt_lt (by rw [q]; intro z; cases z)
      have only : ∀ b, F b = none → upd F a o b ≠ none → b = a := fun b z z' => by
        by_cases q : b = a
        · exact q
        · rw [upd_ne q] at z'; exact absurd z z'
      have at' : ∀ j, slotAt (ρ.set i (.fz d')) j = if j = i then .fz d' else slotAt ρ j := fun j => by
        rw [slotAt_set]; by_cases z : j = i <;> simp [z, hi]
      have own' : ∀ j, IsOwn (slotAt (ρ.set i (.fz d')) j) → j ≠ i ∧ IsOwn (slotAt ρ j) := fun j z => by
        rw [at'] at z
        by_cases w : j = i
        · rw [if_pos w] at z; exact z.elim
        · rw [if_neg w] at z; exact ⟨w, z⟩
      have oa : ∀ b, OA (ρ.set i (.fz d')) σ b → OA ρ σ b := fun b ⟨j, z, w⟩ => ⟨j, (own' j z).2, w⟩
      refine ⟨upd F a o, ⟨R.sub.add e2 e3, by rw [List.length_set]; exact R.len, fun j d z => ?_, fun j d z => ?_, fun j k b z w => R.dist j k b (own' j z).2 (own' k w).2, fun j d b z w => ?_, R.dom, R.odr.step le (MkS.new e2) (HkS.refl _ _) fun j ks z => ⟨(od_set (fun _ y => by cases y) z).1, rfl⟩⟩,
        ⟨S.le.trans le, S.fr, S.dm, fun b z z' => ?_, fun b z => S.ow b (oa b z), fun b x z => MkS.new e2 b x (S.mm b x z)⟩, ⟨by rw [List.length_set], fun j d z => ?_, fun j d z => ?_, fun j d z => ?_, fun j z => ?_, fun j d z => ?_⟩, (e4.mono le).rep upd_same, le, fun b z z' => ⟨by rw [only b z z'], .inr (by rw [only b z z']; exact ⟨i, by rw [q]; exact True.intro, h1⟩)⟩⟩
      · rw [at'] at z
        by_cases w : j = i
        · rw [if_pos w] at z; cases z; subst w; exact ⟨_, h1, (e4.mono le).rep upd_same⟩
        · rw [if_neg w] at z; obtain ⟨u, h1, h2⟩ := R.fz j d z; exact ⟨u, h1, Rep.mono le _ _ h2⟩
      · rw [at'] at z
        by_cases w : j = i
        · rw [if_pos w] at z; rcases z with z | z <;> cases z
        · rw [if_neg w] at z
          obtain ⟨b, u, g1, g2, g3, g4⟩ := R.ow j d z
          have nb : b ≠ a := by
            rintro rfl
            exact w (R.dist j i b (by rcases z with z | z <;> (rw [z]; exact True.intro)) (by rw [q]; exact True.intro) g1 h1)
          exact ⟨b, u, g1, by rw [upd_ne nb]; exact g2, g3, g4.mono le⟩
      · rw [at'] at z
        by_cases y : j = i
        · rw [if_pos y] at z; cases z
        · rw [if_neg y] at z; exact R.new j d b z w
      · by_cases w : F b = none
        · rw [only b w z']
          exact (S.ow a ⟨i, by rw [q]; exact True.intro, h1⟩).elim .inr .inl
        · exact S.nw b z w
      · rw [at']; by_cases w : j = i
        · subst w; rw [q] at z; cases z
        · rw [if_neg w]; exact z
      · rw [at']; by_cases w : j = i
        · subst w; rw [q] at z; cases z; exact ⟨d', .inr (if_pos rfl)⟩
        · rw [if_neg w]; exact ⟨d, .inl z⟩
      · rw [at']; by_cases w : j = i
        · subst w; rw [q] at z; cases z
        · rw [if_neg w]; exact ⟨d, z⟩
      · rw [at']; by_cases w : j = i
        · subst w; rw [q] at z; cases z
        · rw [if_neg w]; exact z
      · rw [at']; by_cases w : j = i
        · subst w; rw [q] at z; cases z
        · rw [if_neg w]; exact z
/-- another value behind a freezing -/
theorem Frz.keep {M : Nm} {H0 Fs Hs F H F' : Hp} {As : Addr → Prop} {σ : L2.St} {ρ ρ' : Env} {v w : V} {d : D} {x y : Val} (z : Frz M H0 Fs Hs As F H σ ρ v x F' ρ' d) (h : VOk M F H σ ρ w y) (n : ∀ d d', x = .n d → y = .n d' → w ≠ v) : VOk M F' H σ ρ' w y := by
  cases y with
  | t _ => first | rfl | exact h.elim | exact p.elim | exact p1.elim | exact p2.elim | exact p3.elim | (exact absurd e (by intro z; cases z)) | (cases e; done)
  | f d => exact Rep.mono z.le d w h
  | n d =>
    obtain ⟨a, o, rfl, e2, e3, e4, e5⟩ := h
    refine ⟨a, o, rfl, ?_, e3, e4.mono z.le, fun q => e5 (z.es.oa q)⟩
    cases q : F' a with
    | none => rfl
    | some u =>
      exfalso
      obtain ⟨w1, w2⟩ := z.only a e2 (by rw [q]; exact fun z => by cases z)
      rcases w2 with ⟨d', w2⟩ | w2
      · exact n d' d w2 rfl w1.symm
      · exact e5 w2
  | v i =>
    obtain ⟨h1, h2⟩ := h
    refine ⟨h1, ?_⟩
    rcases h2 with h2 | ⟨d, h2⟩
    · cases q : slotAt ρ i with
      | no => rw [q] at h2; exact h2.elim
      | fz d => rw [q] at h2; exact h2.elim
      | ow d =>
        obtain ⟨d', z | z⟩ := z.es.ow i d q
        · rw [z]; exact .inl True.intro
        · exact .inr ⟨d', z⟩
      | pw d => obtain ⟨d', z⟩ := z.es.pw i d q; rw [z]; exact .inl True.intro
      | od d => rw [q] at h2; exact h2.elim
    · exact .inr ⟨d, z.es.fz i d h2⟩

/-! ### lists of values -/
/-- values in a row, each new one unlike those ahead -/
def VsOk (M : Nm) (F H : Hp) (σ : L2.St) (ρ : Env) : List V → List Val → Prop
  | [], xs => xs = []
  | v :: vs, xs => ∃ x ys, xs = x :: ys ∧ VOk M F H σ ρ v x ∧ VsOk M F H σ ρ vs ys ∧ ∀ w y, (w, y) ∈ vs.zip ys → ∀ d d', x = .n d → y = .n d' → w ≠ v
def VsNew (H : Hp) : List V → List Val → Prop
  | v :: vs, x :: xs => VNew H v x ∧ VsNew H vs xs
  | _, _ => True
theorem VsOk.length {M : Nm} {F H : Hp} {σ : L2.St} {ρ : Env} : ∀ {vs : List V} {xs : List Val}, VsOk M F H σ ρ vs xs → vs.length = xs.length
  | [], _, h => by subst h; rfl
  | v :: vs, _, ⟨x, ys, e, _, r, _⟩ => by subst e; simp [VsOk.length r]
theorem VsOk.step {M : Nm} {F F' H H' : Hp} {σ : L2.St} {ρ ρ' : Env} (s : Stp F H (OA ρ σ) F' H' (OA ρ' σ)) (e : ES ρ ρ') : ∀ {vs : List V} {xs : List Val}, VsOk M F H σ ρ vs xs → VsOk M F' H' σ ρ' vs xs
  | [], _, h => h
  | v :: vs, _, ⟨x, ys, q, h, r, n⟩ => ⟨x, ys, q, h.step s e, VsOk.step s e r, n⟩
theorem VsOk.rts {M : Nm} {H0 F H : Hp} {σ : L2.St} {ρ : Env} (R : Rel M H0 F H σ ρ) : ∀ {vs : List V} {xs : List Val} {ds : List D}, VsOk M F H σ ρ vs xs → rds ρ xs = some ds → Paired (RT M F H) ds vs
  | [], _, ds, h, e => by subst h; cases e; exact .nil
  | v :: vs, _, ds, ⟨x, ys, q, h, r, n⟩, e => by
    subst q
    cases h1 : rd ρ x with
    | none => simp [rds, h1] at e
    | some d =>
      cases h2 : rds ρ ys with
      | none => simp [rds, h1, h2] at e
      | some ds' =>
        simp [rds, h1, h2] at e
        subst e
        exact .cons (h.rt R h1) (r.rts R h2)
theorem VsNew.tail {H : Hp} {v : V} {vs : List V} {x : Val} {xs : List Val} (h : VsNew H (v :: vs) (x :: xs)) : VNew H v x ∧ VsNew H vs xs := h
/-- all are frozen, from the left -/
theorem frs_ok {M : Nm} {H0 Fs Hs H : Hp} {As : Addr → Prop} {σ : L2.St} : ∀ {vs : List V} {xs : List Val} {F : Hp} {ρ ρ' : Env} {ds : List D}, Rel M H0 F H σ ρ → Stp Fs Hs As F H (OA ρ σ) → VsOk M F H σ ρ vs xs → VsNew Hs vs xs → frs ρ xs = some (ds, ρ') →
    ∃ F', Rel M H0 F' H σ ρ' ∧ Stp Fs Hs As F' H (OA ρ' σ) ∧ ES ρ ρ' ∧ Reps M F' ds vs ∧ Le F F' ∧ ∀ b, F b = none → F' b ≠ none → V.ref b ∈ vs
  | [], _, F, ρ, ρ', ds, R, S, h, _, e => by
    subst h; cases e
    exact ⟨F, R, S, ES.refl _, Reps.nil, Le.refl _, fun b z z' => absurd z z'⟩
  | v :: vs, _, F, ρ, ρ', ds, R, S, ⟨x, ys, q, h, r, n⟩, hn, e => by
    subst q
    obtain ⟨hn1, hn2⟩ := hn
    cases h1 : fr ρ x with
    | none => simp [frs, h1] at e
    | some p =>
      obtain ⟨d, ρ1⟩ := p
      cases h2 : frs ρ1 ys with
      | none => simp [frs, h1, h2] at e
      | some p2 =>
        obtain ⟨ds', ρ2⟩ := p2
        simp [frs, h1, h2] at e
        obtain ⟨rfl, rfl⟩ := e
        obtain ⟨F1, z⟩ := fr_ok R S h hn1 h1
        -- the others behind it: a new one that is the frozen object cannot be
        have keep : ∀ {vs : List V} {ys : List Val}, VsOk M F H σ ρ vs ys → (∀ w y, (w, y) ∈ vs.zip ys → ∀ d d', x = .n d → y = .n d' → w ≠ v) → VsOk M F1 H σ ρ1 vs ys := by
          intro vs
          induction vs with
          | nil => intro ys h _; exact h
          | cons w vs ih =>
            rintro ys ⟨y, ys', rfl, g, gr, gn⟩ m
            exact ⟨y, ys', rfl, z.keep g (fun d d' e e' => m w y (by simp) d d' e e'), ih gr (fun w' y' hm => m w' y' (by simp [hm])), gn⟩
        obtain ⟨F2, R2, S2, E2, P2, L2, O2⟩ := frs_ok z.rel z.stp (keep r n) hn2 h2
        refine ⟨F2, R2, S2, z.es.trans E2, Reps.cons (Rep.mono L2 _ _ z.rep) P2, z.le.trans L2, fun b zb zb' => ?_⟩
        by_cases q : F1 b = none
        · exact List.mem_cons_of_mem _ (O2 b q zb')
        · rw [(z.only b zb q).1]; exact List.mem_cons_self
end PV

set_option Elab.async false
set_option linter.all false
set_option maxRecDepth 100000
set_option maxHeartbeats 1000000
/-! PvC: readings of the small language, and the rules of its expressions over the hand layer. -/
namespace PV
open PySem L2

def XOk (M : Nm) (F H : Hp) (e : XV) (cls : Value) (d : Option Addr) : Prop := cls = .ref (M.cl e.c) ∧ match d with
  | none => e.fs = []
  | some a => ∃ ws, F a = some (.xd ws) ∧ RepA M F e.fs ws
section
variable (M : Nm) (H0 : Hp) (W : WX)
def Post {α β : Type} (F H : Hp) (σ : L2.St) (ρ : Env) (VR : Hp → Hp → Env → α → β → Prop) (r : Out α) (Q : β → Hp → Prop) : Prop := match r with
  | .ok x ρ' => ∀ b F' H', Rel M H0 F' H' σ ρ' → Stp F H (OA ρ σ) F' H' (OA ρ' σ) → ES ρ ρ' → VR F' H' ρ' x b → Q b H'
  | .exc e ρ' => ∀ cls d F' H', Rel M H0 F' H' σ ρ' → Stp F H (OA ρ σ) F' H' (OA ρ' σ) → ES ρ ρ' → XOk M F' H' e cls d → W cls d σ H'
  | .bad => False
abbrev VR1 (H : Hp) (σ : L2.St) : Hp → Hp → Env → Val → V → Prop := fun F' H' ρ' x v => VOk M F' H' σ ρ' v x ∧ VNew H v x
abbrev VRs (H : Hp) (σ : L2.St) : Hp → Hp → Env → List Val → List V → Prop := fun F' H' ρ' xs vs => VsOk M F' H' σ ρ' vs xs ∧ VsNew H vs xs
abbrev VRb : Hp → Hp → Env → Val → Bool → Prop := fun _ _ _ x b => x = .f (.bl b)
variable (T : Tb)
def tE (c : CE) : TE := fun σ H Q => ∃ F ρ, Rel M H0 F H σ ρ ∧ Post M H0 W F H σ ρ (VR1 M H σ) (ev T c ρ) Q
def tA (cs : CEs) : TA := fun σ H Q => ∃ F ρ, Rel M H0 F H σ ρ ∧ Post M H0 W F H σ ρ (VRs M H σ) (evs T cs ρ) Q
/-- the value is a bool -/
def okB (r : Out Val) : Out Bool := match r with
  | .ok (.f (.bl b)) ρ => .ok b ρ
  | .ok _ _ => .bad
  | .exc e ρ => .exc e ρ
  | .bad => .bad
def tT (c : CE) : TT := fun σ H Q => ∃ F ρ, Rel M H0 F H σ ρ ∧ Post M H0 W F H σ ρ (fun _ _ _ (x : Bool) b => x = b) (okB (ev T c ρ)) Q
end
section
variable {M : Nm} {H0 : Hp} {W : WX} {T : Tb} {α β γ δ : Type}
theorem Post.bind {F H : Hp} {σ : L2.St} {ρ : Env} {VR : Hp → Hp → Env → α → β → Prop} {VQ : Hp → Hp → Env → γ → δ → Prop} {r : Out γ} {f : γ → Env → Out α} {Q : β → Hp → Prop} {Q1 : δ → Hp → Prop}
    (h : Post M H0 W F H σ ρ VR (r.bind f) Q)
    (k : ∀ x ρ1 b F1 H1, Rel M H0 F1 H1 σ ρ1 → Stp F H (OA ρ σ) F1 H1 (OA ρ1 σ) → ES ρ ρ1 → VQ F1 H1 ρ1 x b → Post M H0 W F H σ ρ VR (f x ρ1) Q → Q1 b H1) : Post M H0 W F H σ ρ VQ r Q1 := by
  cases r with
  | ok x ρ1 => exact fun b F1 H1 R S E v => k x ρ1 b F1 H1 R S E v h
  | exc e ρ1 => exact h
  | bad => exact h
theorem Post.shift {F H F1 H1 : Hp} {σ : L2.St} {ρ ρ1 : Env} {VR VR' : Hp → Hp → Env → α → β → Prop} {r : Out α} {Q : β → Hp → Prop} (h : Post M H0 W F H σ ρ VR r Q) (S : Stp F H (OA ρ σ) F1 H1 (OA ρ1 σ)) (E : ES ρ ρ1)
    (v : ∀ F' H' ρ' x b, Rel M H0 F' H' σ ρ' → Stp F1 H1 (OA ρ1 σ) F' H' (OA ρ' σ) → VR' F' H' ρ' x b → VR F' H' ρ' x b) : Post M H0 W F1 H1 σ ρ1 VR' r Q := by
  cases r with
  | ok x ρ2 => exact fun b F2 H2 R2 S2 E2 v2 => h b F2 H2 R2 (S.trans S2) (E.trans E2) (v _ _ _ _ _ R2 S2 v2)
  | exc e ρ2 => exact fun c d F2 H2 R2 S2 E2 v2 => h c d F2 H2 R2 (S.trans S2) (E.trans E2) v2
  | bad => exact h
theorem Post.imp {F H : Hp} {σ : L2.St} {ρ : Env} {VR VR' : Hp → Hp → Env → α → β → Prop} {r : Out α} {Q Q' : β → Hp → Prop} (h : Post M H0 W F H σ ρ VR r Q)
    (v : ∀ F' H' ρ' x b, VR' F' H' ρ' x b → VR F' H' ρ' x b) (q : ∀ b H', Q b H' → Q' b H') : Post M H0 W F H σ ρ VR' r Q' := by
  cases r with
  | ok x ρ2 => exact fun b F2 H2 R2 S2 E2 v2 => q _ _ (h b F2 H2 R2 S2 E2 (v _ _ _ _ _ v2))
  | exc e ρ2 => exact h
  | bad => exact h
theorem VNew.back {F F1 H H1 : Hp} {A A1 : Addr → Prop} {v : V} {x : Val} (S : Stp F H A F1 H1 A1) (h : VNew H1 v x) : VNew H v x := fun d a e e' => S.dm a (h d a e e')
theorem VsNew.back {F F1 H H1 : Hp} {A A1 : Addr → Prop} (S : Stp F H A F1 H1 A1) : ∀ {vs : List V} {xs : List Val}, VsNew H1 vs xs → VsNew H vs xs
  | [], _, _ => by unfold VsNew; trivial
  | _ :: _, [], _ => by unfold VsNew; trivial
  | v :: vs, x :: xs, h => ⟨VNew.back S h.1, VsNew.back S h.2⟩
theorem PE.imp {X : Cx} {e : Expr} {t t' : TE} (h : PE X e t) (i : ∀ σ H Q, t' σ H Q → t σ H Q) : PE X e t' := ⟨fun pins s σ H Q I q => h.run pins s σ H Q I (i σ H Q q)⟩
theorem PA.imp {X : Cx} {e : List Expr} {t t' : TA} (h : PA X e t) (i : ∀ σ H Q, t' σ H Q → t σ H Q) : PA X e t' := ⟨fun pos pins s σ H Q I q => h.run pos pins s σ H Q I (i σ H Q q)⟩
theorem PT.imp {X : Cx} {e : Expr} {t t' : TT} (h : PT X e t) (i : ∀ σ H Q, t' σ H Q → t σ H Q) : PT X e t' := ⟨fun pins s σ H Q I q => h.run pins s σ H Q I (i σ H Q q)⟩
theorem PW.imp {X : Cx} {e : Expr} {t t' : TT} (h : PW X e t) (i : ∀ σ H Q, t' σ H Q → t σ H Q) : PW X e t' := ⟨fun wh pins s σ H Q I q => h.run wh pins s σ H Q I (i σ H Q q)⟩

/-! ### names and constants -/
theorem e_var {X : Cx} {i : Nat} {e : Expr} (h : PE X e (tVar i)) : PE X e (tE M H0 W T (.var i)) := by
  refine PE.imp h fun σ H Q => ?_
  rintro ⟨F, ρ, R, p⟩
  simp only [ev] at p
  cases q : slotAt ρ i with
  | no => rw [q] at p; exact p.elim
  | fz d =>
    rw [q] at p
    obtain ⟨v, h1, h2⟩ := R.fz i d q
    exact ⟨v, h1, p v F H R (Stp.refl _ _ _) (ES.refl _) ⟨h2, fun _ _ z => by cases z⟩⟩
  | ow d =>
    rw [q] at p
    obtain ⟨a, o, h1, h2, h3, h4⟩ := R.ow i d (.inl q)
    exact ⟨_, h1, p _ F H R (Stp.refl _ _ _) (ES.refl _) ⟨⟨h1, .inl (by rw [q]; exact True.intro)⟩, fun _ _ z => by cases z⟩⟩
  | pw d =>
    rw [q] at p
    obtain ⟨a, o, h1, h2, h3, h4⟩ := R.ow i d (.inr q)
    exact ⟨_, h1, p _ F H R (Stp.refl _ _ _) (ES.refl _) ⟨⟨h1, .inl (by rw [q]; exact True.intro)⟩, fun _ _ z => by cases z⟩⟩
  | od d => rw [q] at p; exact p.elim
/-- a constant, a module's constant: v stands for d in any heap -/
theorem e_cst {X : Cx} {e : Expr} {d : D} {v : V} (h : PE X e (tC v)) (r : ∀ F, Rep M F d v) : PE X e (tE M H0 W T (.cst d)) := by
  refine PE.imp h fun σ H Q => ?_
  rintro ⟨F, ρ, R, p⟩
  exact p v F H R (Stp.refl _ _ _) (ES.refl _) ⟨r F, fun _ _ z => by cases z⟩
theorem e_glb {X : Cx} {e : Expr} {g : Nat} {v : V} (h : PE X e (tC v)) (r : ∀ F, Rep M F (T.gl g) v) : PE X e (tE M H0 W T (.glb g)) := by
  refine PE.imp h fun σ H Q => ?_
  rintro ⟨F, ρ, R, p⟩
  exact p v F H R (Stp.refl _ _ _) (ES.refl _) ⟨r F, fun _ _ z => by cases z⟩

/-! ### operations by values -/
def OpPost (M : Nm) (F H : Hp) (r : Val) (v : V) (F' H' : Hp) : Prop := match r with
  | .f d => Rep M F' d v ∧ ((F' = F ∧ H' = H) ∨ ∃ p o, H p = none ∧ H' = upd H p o ∧ F' = upd F p o)
  | .n d => ∃ p o, v = .ref p ∧ H p = none ∧ H' = upd H p o ∧ F' = F ∧ RepTop M F d o
  | .v _ => False
  | .t _ => False
theorem Rel.alloc {F H : Hp} {σ : L2.St} {ρ : Env} {p : Addr} {o : HO} (R : Rel M H0 F H σ ρ) (hp : H p = none) :
    Rel M H0 F (upd H p o) σ ρ ∧ Stp F H (OA ρ σ) F (upd H p o) (OA ρ σ) := by
  have fp : F p = none := R.sub.d p hp
  refine ⟨⟨R.sub.mut fp, R.len, R.fz, fun i d z => ?_, R.dist, R.new, fun a z => ?_, R.odr.step (Le.refl F) (MkS.refl F) (HkS.mut fp) fun i ks z => ⟨z, rfl⟩⟩, ⟨Le.refl F, fun b u z _ => ?_, fun b z => ?_, fun b z z' => absurd z z', fun b z => .inl z, MkS.refl F⟩⟩
  · obtain ⟨a, u, h1, h2, h3, h4⟩ := R.ow i d z
    exact ⟨a, u, h1, h2, by rw [upd_ne (ne_of_none h3 hp)]; exact h3, h4⟩
  · by_cases q : a = p
    · rw [q]; exact R.dom p hp
    · rw [upd_ne q] at z; exact R.dom a z
  · rw [upd_ne (ne_of_none z hp)]; exact z
  · by_cases q : b = p
    · rw [q]; exact hp
    · rw [upd_ne q] at z; exact z
theorem Rel.allocF {F H : Hp} {σ : L2.St} {ρ : Env} {p : Addr} {o : HO} (R : Rel M H0 F H σ ρ) (hp : H p = none) :
    Rel M H0 (upd F p o) (upd H p o) σ ρ ∧ Stp F H (OA ρ σ) (upd F p o) (upd H p o) (OA ρ σ) := by
  have fp : F p = none := R.sub.d p hp
  obtain ⟨R1, S1⟩ := R.alloc (o := o) hp
  have le : Le F (upd F p o) := Le.new fp
  refine ⟨⟨R.sub.both fp, R.len, fun i d z => ?_, fun i d z => ?_, R.dist, R.new, R1.dom, R.odr.step le (MkS.new fp) (HkS.mut fp) fun i ks z => ⟨z, rfl⟩⟩, ⟨le, S1.fr, S1.dm, fun b z z' => ?_, S1.ow, MkS.new fp⟩⟩
  · obtain ⟨v, h1, h2⟩ := R.fz i d z; exact ⟨v, h1, Rep.mono le _ _ h2⟩
  · obtain ⟨a, u, h1, h2, h3, h4⟩ := R1.ow i d z
    obtain ⟨a', u', g1, g2, g3, g4⟩ := R.ow i d z
    rw [h1] at g1; cases g1
    exact ⟨a, u, h1, by rw [upd_ne (ne_of_none g3 hp)]; exact h2, h3, h4.mono le⟩
  · by_cases q : b = p
    · rw [q]; exact .inl hp
    · rw [upd_ne q] at z'; exact absurd z z'
theorem OpPost.rel {F H F' H' : Hp} {σ : L2.St} {ρ : Env} {r : Val} {v : V} (R : Rel M H0 F H σ ρ) (h : OpPost M F H r v F' H') :
    Rel M H0 F' H' σ ρ ∧ Stp F H (OA ρ σ) F' H' (OA ρ σ) ∧ VOk M F' H' σ ρ v r ∧ VNew H v r := by
  cases r with
  | t _ => first | rfl | exact h.elim | exact p.elim | exact p1.elim | exact p2.elim | exact p3.elim | (exact absurd e (by intro z; cases z)) | (cases e; done)
  | f d =>
    obtain ⟨h1, ⟨rfl, rfl⟩ | ⟨p, o, hp, rfl, rfl⟩⟩ := h
    · exact ⟨R, Stp.refl _ _ _, h1, fun _ _ z => by cases z⟩
    · obtain ⟨R1, S1⟩ := R.allocF (o := o) hp
      exact ⟨R1, S1, h1, fun _ _ z => by cases z⟩
  | n d =>
    obtain ⟨p, o, rfl, hp, rfl, rfl, h4⟩ := h
    obtain ⟨R1, S1⟩ := R.alloc (o := o) hp
    refine ⟨R1, S1, ⟨p, o, rfl, R.sub.d p hp, upd_same, h4, ?_⟩, fun d' a e e' => by cases e'; exact hp⟩
    rintro ⟨i, q, z⟩
    cases w : slotAt ρ i with
    | no => rw [w] at q; exact q
    | fz d => rw [w] at q; exact q
    | ow d => obtain ⟨a, u, h1, h2, h3, _⟩ := R.ow i d (.inl w); rw [z] at h1; cases h1; rw [hp] at h3; cases h3
    | pw d => obtain ⟨a, u, h1, h2, h3, _⟩ := R.ow i d (.inr w); rw [z] at h1; cases h1; rw [hp] at h3; cases h3
    | od d => rw [w] at q; exact q
  | v i => exact h.elim
/-- what an operation on values asks -/
def rO1 (M : Nm) (g : D → R1) : V → Hp → VK → Prop := fun x H Q => ∃ F d r, Le F H ∧ RT M F H d x ∧ g d = some r ∧ ∀ v F' H', OpPost M F H r v F' H' → Q v H'
def rO2 (M : Nm) (g : D → D → R1) : R2 := fun x y H Q => ∃ F d e r, Le F H ∧ RT M F H d x ∧ RT M F H e y ∧ g d e = some r ∧ ∀ v F' H', OpPost M F H r v F' H' → Q v H'
def rON (M : Nm) (g : List D → R1) : List V → Hp → VK → Prop := fun xs H Q => ∃ F ds r, Le F H ∧ Paired (RT M F H) ds xs ∧ g ds = some r ∧ ∀ v F' H', OpPost M F H r v F' H' → Q v H'

/-- an expression's value behind another part -/
theorem VOk.after {F F1 H H1 : Hp} {σ : L2.St} {ρ ρ1 : Env} {v : V} {x : Val} (S : Stp F H (OA ρ σ) F1 H1 (OA ρ1 σ)) (E : ES ρ ρ1) (h : VOk M F H σ ρ v x) : VOk M F1 H1 σ ρ1 v x := h.step S E

theorem op_fin {F H F1 H1 : Hp} {σ : L2.St} {ρ ρ1 : Env} {Q : VK} {o : List D → R1} {xs : List Val} {vs : List V} (R1' : Rel M H0 F1 H1 σ ρ1) (S : Stp F H (OA ρ σ) F1 H1 (OA ρ1 σ)) (E : ES ρ ρ1) (V1 : VsOk M F1 H1 σ ρ1 vs xs)
    (p : Post M H0 W F H σ ρ (VR1 M H σ) (lift ((rds ρ1 xs).bind o) ρ1) Q) : rON M o vs H1 Q := by
  cases h : rds ρ1 xs with
  | none => rw [h] at p; exact p.elim
  | some ds =>
    rw [h] at p
    cases g : o ds with
    | none => simp only [Option.bind, g] at p; exact p.elim
    | some r =>
      simp only [Option.bind, g] at p
      refine ⟨F1, ds, r, R1'.sub, V1.rts R1' h, g, fun v F2 H2 z => ?_⟩
      obtain ⟨R2, S2, v2, n2⟩ := OpPost.rel R1' z
      exact p v F2 H2 R2 (S.trans S2) E ⟨v2, VNew.back S n2⟩
theorem paired1 {α β : Type} {R : α → β → Prop} {ds : List α} {y : β} (h : Paired R ds [y]) : ∃ d, ds = [d] ∧ R d y := by
  cases h with
  | cons r t => cases t; exact ⟨_, rfl, r⟩
theorem paired2 {α β : Type} {R : α → β → Prop} {ds : List α} {y z : β} (h : Paired R ds [y, z]) : ∃ d e, ds = [d, e] ∧ R d y ∧ R e z := by
  cases h with
  | cons r t =>
    obtain ⟨e, rfl, r'⟩ := paired1 t
    exact ⟨_, e, rfl, r, r'⟩
/-- one operand -/
theorem i_op1 {o : Op} {a : CE} {σ : L2.St} {H : Hp} {Q : VK} (h : tE M H0 W T (.op o (.cons a .nil)) σ H Q) : tE M H0 W T a σ H fun x H1 => rO1 M (fun d => opD o [d]) x H1 Q := by
  obtain ⟨F, ρ, R, p⟩ := h
  simp only [ev, evs] at p
  refine ⟨F, ρ, R, ?_⟩
  rw [show (((ev T a ρ).bind fun v ρ1 => (Out.ok [] ρ1 : Out (List Val)).bind fun vs ρ2 => Out.ok (v :: vs) ρ2).bind fun vs ρ1 => lift ((rds ρ1 vs).bind (opD o)) ρ1)
    = (ev T a ρ).bind fun v ρ1 => lift ((rds ρ1 [v]).bind (opD o)) ρ1 by cases ev T a ρ <;> rfl] at p
  refine Post.bind p fun x ρ1 v F1 H1 R1 S1 E1 V1 p1 => ?_
  obtain ⟨F2, ds, r, h1, h2, h3, h4⟩ := op_fin (vs := [v]) R1 S1 E1 ⟨x, [], rfl, V1.1, rfl, fun _ _ m => by simp at m⟩ p1
  obtain ⟨d, rfl, h5⟩ := paired1 h2
  exact ⟨F2, d, r, h1, h5, h3, h4⟩
/-- two values in a row -/
theorem two_ok {F1 F2 H1 H2 : Hp} {σ : L2.St} {ρ1 ρ2 : Env} {x y : Val} {v w : V} (V1 : VOk M F1 H1 σ ρ1 v x) (S : Stp F1 H1 (OA ρ1 σ) F2 H2 (OA ρ2 σ)) (E : ES ρ1 ρ2) (V2 : VOk M F2 H2 σ ρ2 w y) (N2 : VNew H1 w y) :
    VsOk M F2 H2 σ ρ2 [v, w] [x, y] := by
  refine ⟨x, [y], rfl, V1.step S E, ⟨y, [], rfl, V2, rfl, fun _ _ m => by simp at m⟩, fun w' y' m d d' e e' => ?_⟩
  simp at m
  obtain ⟨rfl, rfl⟩ := m
  subst e
  rintro rfl
  obtain ⟨a, o, rfl, _, e3, _⟩ := V1
  have := N2 d' a e' rfl
  rw [e3] at this; cases this
theorem i_op2 {o : Op} {a b : CE} {σ : L2.St} {H : Hp} {Q : VK} (h : tE M H0 W T (.op o (.cons a (.cons b .nil))) σ H Q) :
    tE M H0 W T a σ H fun x H1 => tE M H0 W T b σ H1 fun y H2 => rO2 M (fun d e => opD o [d, e]) x y H2 Q := by
  obtain ⟨F, ρ, R, p⟩ := h
  simp only [ev, evs] at p
  refine ⟨F, ρ, R, ?_⟩
  rw [show (((ev T a ρ).bind fun v ρ1 => ((ev T b ρ1).bind fun v ρ1 => (Out.ok [] ρ1 : Out (List Val)).bind fun vs ρ2 => Out.ok (v :: vs) ρ2).bind fun vs ρ2 => Out.ok (v :: vs) ρ2).bind fun vs ρ1 => lift ((rds ρ1 vs).bind (opD o)) ρ1)
    = (ev T a ρ).bind fun v ρ1 => (ev T b ρ1).bind fun w ρ2 => lift ((rds ρ2 [v, w]).bind (opD o)) ρ2 by
      cases h1 : ev T a ρ with
      | ok x ρ1 => cases h2 : ev T b ρ1 <;> simp [Out.bind, h2]
      | exc e ρ1 => rfl
      | bad => rfl] at p
  refine Post.bind p fun x ρ1 v F1 H1 R1 S1 E1 V1 p1 => ⟨F1, ρ1, R1, ?_⟩
  refine Post.bind (Post.shift p1 S1 E1 fun _ _ _ _ _ _ _ z => z) fun y ρ2 w F2 H2 R2 S2 E2 V2 p2 => ?_
  obtain ⟨F3, ds, r, h1, h2, h3, h4⟩ := op_fin (vs := [v, w]) R2 S2 E2 (two_ok V1.1 S2 E2 V2.1 V2.2) (Post.imp p2 (fun _ _ _ _ _ z => ⟨z.1, z.2.back S1⟩) fun _ _ z => z)
  obtain ⟨d, e, rfl, h5, h6⟩ := paired2 h2
  exact ⟨F3, d, e, r, h1, h5, h6, h3, h4⟩
/-- any number of operands -/
theorem i_opN {o : Op} {as : CEs} {σ : L2.St} {H : Hp} {Q : VK} (h : tE M H0 W T (.op o as) σ H Q) : tA M H0 W T as σ H fun xs H1 => rON M (opD o) xs H1 Q := by
  obtain ⟨F, ρ, R, p⟩ := h
  simp only [ev] at p
  exact ⟨F, ρ, R, Post.bind p fun x ρ1 v F1 H1 R1 S1 E1 V1 p1 => op_fin R1 S1 E1 V1.1 p1⟩
theorem memNew {H : Hp} : ∀ {vs : List V} {xs : List Val} {w : V} {y : Val}, VsNew H vs xs → (w, y) ∈ vs.zip xs → VNew H w y
  | [], _, _, _, _, m => by simp at m
  | _ :: _, [], _, _, _, m => by simp at m
  | v :: vs, x :: xs, w, y, h, m => by
    simp at m
    rcases m with ⟨rfl, rfl⟩ | m
    · exact h.1
    · exact memNew h.2 m
/-! ### argument lists -/
theorem i_nil {σ : L2.St} {H : Hp} {Q : List V → Hp → Prop} (h : tA M H0 W T .nil σ H Q) : tNil σ H Q := by
  obtain ⟨F, ρ, R, p⟩ := h
  exact p [] F H R (Stp.refl _ _ _) (ES.refl _) ⟨rfl, by unfold VsNew; trivial⟩
theorem i_cons {a : CE} {as : CEs} {σ : L2.St} {H : Hp} {Q : List V → Hp → Prop} (h : tA M H0 W T (.cons a as) σ H Q) : tCons (tE M H0 W T a) (tA M H0 W T as) σ H Q := by
  obtain ⟨F, ρ, R, p⟩ := h
  simp only [evs] at p
  refine ⟨F, ρ, R, ?_⟩
  refine Post.bind p fun x ρ1 v F1 H1 R1 S1 E1 V1 p1 => ⟨F1, ρ1, R1, ?_⟩
  refine Post.bind (Post.shift (VR' := VRs M H σ) p1 S1 E1 fun _ _ _ _ _ _ _ z => z) fun xs ρ2 vs F2 H2 R2 S2 E2 V2 p2 => ?_
  refine p2 (v :: vs) F2 H2 R2 S2 E2 ⟨⟨x, xs, rfl, V1.1.step S2 E2, V2.1, fun w y m d d' e e' => ?_⟩, V1.2, V2.2.back S1⟩
  subst e
  rintro rfl
  obtain ⟨c, o, rfl, _, e3, _⟩ := V1.1
  have q := memNew V2.2 m d' c e' rfl
  rw [e3] at q; cases q
end
end PV

set_option Elab.async false
set_option linter.all false
set_option maxRecDepth 100000
set_option maxHeartbeats 1000000
/-! PvD: tests, displays, attributes, calls. -/
namespace PV
open PySem L2
/-- what of the text is asked -/
structure Kt (M : Nm) (T : Tb) : Prop where
  inj : ∀ a b, M.an a = M.an b → a = b
  cls : ∀ C a, T.fl C a = true → Cls M.K (M.cl C) ∧ NoAttr M.K (M.cl C) (M.an a)
section
variable {M : Nm} {H0 : Hp} {W : WX} {T : Tb} {α β γ δ : Type}
theorem Post.shiftV {F H F1 H1 : Hp} {σ : L2.St} {ρ ρ1 : Env} {r : Out Val} {Q : VK} (h : Post M H0 W F H σ ρ (VR1 M H σ) r Q) (S : Stp F H (OA ρ σ) F1 H1 (OA ρ1 σ)) (E : ES ρ ρ1) : Post M H0 W F1 H1 σ ρ1 (VR1 M H1 σ) r Q :=
  h.shift S E fun _ _ _ _ _ _ _ z => ⟨z.1, z.2.back S⟩
theorem Post.shiftB {F H F1 H1 : Hp} {σ : L2.St} {ρ ρ1 : Env} {r : Out α} {Q : α → Hp → Prop} (h : Post M H0 W F H σ ρ (fun _ _ _ (x : α) b => x = b) r Q) (S : Stp F H (OA ρ σ) F1 H1 (OA ρ1 σ)) (E : ES ρ ρ1) : Post M H0 W F1 H1 σ ρ1 (fun _ _ _ (x : α) b => x = b) r Q :=
  h.shift S E fun _ _ _ _ _ _ _ z => z
/-! ### tests -/
/-- a test is a bool value -/
theorem i_test {c : CE} {σ : L2.St} {H : Hp} {Q : Bool → Hp → Prop} (h : tT M H0 W T c σ H Q) : tE M H0 W T c σ H fun x H' => ∃ k, x = .bl k ∧ Q k H' := by
  obtain ⟨F, ρ, R, p⟩ := h
  refine ⟨F, ρ, R, ?_⟩
  cases h1 : ev T c ρ with
  | exc e ρ1 => rw [h1] at p; exact p
  | bad => rw [h1] at p; exact p
  | ok x ρ1 =>
    rw [h1] at p
    cases x with
    | t _ => first | rfl | exact h.elim | exact p.elim | exact p1.elim | exact p2.elim | exact p3.elim | (exact absurd e (by intro z; cases z)) | (cases e; done)
    | n d => exact p.elim
    | v i => exact p.elim
    | f d =>
      cases d with
      | bl b => exact fun v F1 H1 R1 S1 E1 V1 => ⟨b, V1.1, p b F1 H1 R1 S1 E1 rfl⟩
      | _ => exact p.elim
/-- truth of a value -/
theorem truth_bind {r : Out Val} {f : Bool → Env → Out α} : (r.bind fun v ρ => truth v ρ f) = (okB r).bind f := by
  cases r with
  | ok x ρ =>
    cases x with
    | t _ => first | rfl | exact h.elim | exact p.elim | exact p1.elim | exact p2.elim | exact p3.elim | (exact absurd e (by intro z; cases z)) | (cases e; done)
    | f d => cases d <;> rfl
    | n d => rfl
    | v i => rfl
  | exc e ρ => rfl
  | bad => rfl
theorem i_and {a b : CE} {σ : L2.St} {H : Hp} {Q : VK} (h : tE M H0 W T (.and_ a b) σ H Q) : tAndV (tE M H0 W T a) (tE M H0 W T b) σ H Q := by
  obtain ⟨F, ρ, R, p⟩ := h
  simp only [ev] at p
  rw [truth_bind] at p
  refine i_test ⟨F, ρ, R, Post.bind p fun x ρ1 b' F1 H1 R1 S1 E1 V1 p1 => ?_⟩
  subst V1
  cases x with
  | true => exact ⟨F1, ρ1, R1, p1.shiftV S1 E1⟩
  | false => exact p1 _ F1 H1 R1 S1 E1 ⟨rfl, fun _ _ z => by cases z⟩
theorem i_not {a : CE} {σ : L2.St} {H : Hp} {Q : VK} (h : tE M H0 W T (.not_ a) σ H Q) : tNotV (tE M H0 W T a) σ H Q := by
  obtain ⟨F, ρ, R, p⟩ := h
  simp only [ev] at p
  rw [truth_bind] at p
  refine i_test ⟨F, ρ, R, Post.bind p fun x ρ1 b' F1 H1 R1 S1 E1 V1 p1 => ?_⟩
  subst V1
  exact p1 _ F1 H1 R1 S1 E1 ⟨rfl, fun _ _ z => by cases z⟩
theorem okB_or {a b : CE} {ρ : Env} : okB (ev T (.or_ a b) ρ) = (okB (ev T a ρ)).bind fun k ρ1 => if k then .ok true ρ1 else okB (ev T b ρ1) := by
  simp only [ev]
  rw [truth_bind]
  cases okB (ev T a ρ) with
  | ok k ρ1 => cases k <;> rfl
  | exc e ρ => rfl
  | bad => rfl
theorem okB_not {a : CE} {ρ : Env} : okB (ev T (.not_ a) ρ) = (okB (ev T a ρ)).bind fun k ρ1 => .ok (!k) ρ1 := by
  simp only [ev]
  rw [truth_bind]
  cases okB (ev T a ρ) with
  | ok k ρ1 => cases k <;> rfl
  | exc e ρ => rfl
  | bad => rfl
theorem j_or {a b : CE} {σ : L2.St} {H : Hp} {Q : Bool → Hp → Prop} (h : tT M H0 W T (.or_ a b) σ H Q) : tOr (tT M H0 W T a) (tT M H0 W T b) σ H Q := by
  obtain ⟨F, ρ, R, p⟩ := h
  rw [okB_or] at p
  refine ⟨F, ρ, R, Post.bind p fun x ρ1 b' F1 H1 R1 S1 E1 V1 p1 => ?_⟩
  subst V1
  cases x with
  | false => exact ⟨F1, ρ1, R1, p1.shiftB S1 E1⟩
  | true => exact p1 _ F1 H1 R1 S1 E1 rfl
theorem j_not {a : CE} {σ : L2.St} {H : Hp} {Q : Bool → Hp → Prop} (h : tT M H0 W T (.not_ a) σ H Q) : tNot (tT M H0 W T a) σ H Q := by
  obtain ⟨F, ρ, R, p⟩ := h
  rw [okB_not] at p
  refine ⟨F, ρ, R, Post.bind p fun x ρ1 b' F1 H1 R1 S1 E1 V1 p1 => ?_⟩
  subst V1
  exact p1 _ F1 H1 R1 S1 E1 rfl
/-! ### chains -/
theorem i_chn {o o' : Op} {a b c : CE} {σ : L2.St} {H : Hp} {Q : VK} (h : tE M H0 W T (.chn o o' a b c) σ H Q) :
    tChain (rO2 M fun d e => opD o [d, e]) (rO2 M fun d e => opD o' [d, e]) (tE M H0 W T a) (tE M H0 W T b) (tE M H0 W T c) σ H Q := by
  obtain ⟨F, ρ, R, p⟩ := h
  simp only [ev] at p
  refine ⟨F, ρ, R, Post.bind p fun x ρ1 v F1 H1 R1 S1 E1 V1 p1 => ⟨F1, ρ1, R1, ?_⟩⟩
  refine Post.bind (p1.shiftV S1 E1) fun y ρ2 w F2 H2 R2 S2 E2 V2 p2 => ?_
  have V12 : VsOk M F2 H2 σ ρ2 [v, w] [x, y] := two_ok V1.1 S2 E2 V2.1 V2.2
  have p3 := p2.shiftV S2 E2
  cases h1 : rds ρ2 [x, y] with
  | none => simp only [h1, Option.bind, lift, Out.bind] at p3; exact p3.elim
  | some ds =>
    have h2 := V12.rts R2 h1
    obtain ⟨d, e, rfl, h3, h4⟩ := paired2 h2
    cases g : opD o [d, e] with
    | none => simp only [h1, g, Option.bind, lift, Out.bind] at p3; exact p3.elim
    | some r =>
      simp only [h1, g, Option.bind, lift, Out.bind] at p3
      cases r with
      | t _ => first | rfl | exact h.elim | exact p.elim | exact p1.elim | exact p2.elim | exact p3.elim | (exact absurd e (by intro z; cases z)) | (cases e; done)
      | n q => exact p3.elim
      | v q => exact p3.elim
      | f q =>
        cases q with
        | bl k =>
          refine ⟨F2, d, e, _, R2.sub, h3, h4, g, fun z F3 H3 op => ?_⟩
          obtain ⟨R3, S3, v3, _⟩ := OpPost.rel R2 op
          have hz : z = .bl k := v3
          refine ⟨k, hz, ?_⟩
          have p4 := p3.shiftV S3 (ES.refl ρ2)
          cases k with
          | false => exact p4 _ F3 H3 R3 (Stp.refl _ _ _) (ES.refl _) ⟨rfl, fun _ _ z => by cases z⟩
          | true =>
            show tE M H0 W T c σ H3 _
            refine ⟨F3, ρ2, R3, ?_⟩
            refine Post.bind p4 fun u ρ4 t F4 H4 R4 S4 E4 V4 p5 => ?_
            have Vy : VOk M F3 H3 σ ρ2 w y := V2.1.step S3 (ES.refl _)
            obtain ⟨F5, ds, r, g1, g2, g3, g4⟩ := op_fin (vs := [w, t]) R4 S4 E4 (two_ok Vy S4 E4 V4.1 V4.2) p5
            obtain ⟨d', e', rfl, g5, g6⟩ := paired2 g2
            exact ⟨F5, d', e', r, g1, g5, g6, g3, g4⟩
        | _ => exact p3.elim
/-! ### displays -/
theorem LIM_line : LIM ≤ sizeLine := by rw [sizeLine_eq]; decide
theorem i_lst {es : CEs} {σ : L2.St} {H : Hp} {Q : VK} (h : tE M H0 W T (.lst es) σ H Q) : tLst (tA M H0 W T es) σ H Q := by
  obtain ⟨F, ρ, R, p⟩ := h
  simp only [ev] at p
  refine ⟨F, ρ, R, Post.bind p fun xs ρ1 vs F1 H1 R1 S1 E1 V1 p1 => ?_⟩
  cases h1 : frs ρ1 xs with
  | none => simp only [h1] at p1; exact p1.elim
  | some q =>
    obtain ⟨ds, ρ2⟩ := q
    obtain ⟨F2, R2, S2, E2, P2, L2, O2⟩ := frs_ok R1 S1 V1.1 V1.2 h1
    simp only [h1] at p1
    have hl := P2.length
    by_cases hz : ds.length ≤ LIM
    · rw [if_pos hz] at p1
      refine ⟨by have := LIM_line; omega, fun a ha => ?_⟩
      obtain ⟨R3, S3⟩ := R2.alloc (o := .lst vs) ha
      have op : OpPost M F2 H1 (.n (.lst ds)) (.ref a) F2 (upd H1 a (.lst vs)) := ⟨a, _, rfl, ha, rfl, rfl, P2⟩
      obtain ⟨R4, S4, v4, n4⟩ := OpPost.rel R2 op
      exact p1 _ F2 _ R4 (S2.trans S4) (E1.trans E2) ⟨v4, n4.back S2⟩
    · rw [if_neg hz] at p1; exact p1.elim
theorem i_tup {es : CEs} {σ : L2.St} {H : Hp} {Q : VK} (h : tE M H0 W T (.tup es) σ H Q) : tTup (tA M H0 W T es) σ H Q := by
  obtain ⟨F, ρ, R, p⟩ := h
  simp only [ev] at p
  refine ⟨F, ρ, R, Post.bind p fun xs ρ1 vs F1 H1 R1 S1 E1 V1 p1 => ?_⟩
  cases h1 : frs ρ1 xs with
  | none => simp only [h1] at p1; exact p1.elim
  | some q =>
    obtain ⟨ds, ρ2⟩ := q
    obtain ⟨F2, R2, S2, E2, P2, L2, O2⟩ := frs_ok R1 S1 V1.1 V1.2 h1
    simp only [h1] at p1
    have hl := P2.length
    by_cases hz : ds.length ≤ LIM
    · rw [if_pos hz] at p1
      refine ⟨by have := LIM_line; omega, fun a ha => ?_⟩
      have fa := R2.sub.d a ha
      have op : OpPost M F2 H1 (.f (.tup ds)) (.ref a) (upd F2 a (.tup vs)) (upd H1 a (.tup vs)) :=
        ⟨⟨a, vs, rfl, upd_same, Reps.mono (Le.new fa) _ _ P2⟩, .inr ⟨a, _, ha, rfl, rfl⟩⟩
      obtain ⟨R4, S4, v4, n4⟩ := OpPost.rel R2 op
      exact p1 _ _ _ R4 (S2.trans S4) (E1.trans E2) ⟨v4, n4.back S2⟩
    · rw [if_neg hz] at p1; exact p1.elim
/-! ### attributes -/
theorem lookup_repA (kt : ∀ a b, M.an a = M.an b → a = b) {F : Hp} : ∀ {fs : List (Nat × D)} {ws : List (Str × V)} {a : Nat} {d : D}, RepA M F fs ws → getF fs a = some d → ∃ v, ws.lookup (M.an a) = some v ∧ Rep M F d v
  | [], _, _, _, _, e => by cases e
  | (k, x) :: fs, _, a, d, ⟨v, ws, q, r, rs⟩, e => by
    subst q
    by_cases h : k = a
    · subst h
      simp [getF] at e
      subst e
      exact ⟨v, by simp, r⟩
    · simp [getF, h] at e
      obtain ⟨w, h1, h2⟩ := lookup_repA kt rs e
      refine ⟨w, ?_, h2⟩
      have hb : (M.an a == M.an k) = false := beq_eq_false_iff_ne.mpr fun z => h (kt _ _ z.symm)
      simp only [List.lookup, hb]
      exact h1
theorem i_fld (kt : Kt M T) {a : Nat} {e : CE} {σ : L2.St} {H : Hp} {Q : VK} (h : tE M H0 W T (.fld a e) σ H Q) : tFld M.K (tE M H0 W T e) (M.an a) σ H Q := by
  obtain ⟨F, ρ, R, p⟩ := h
  simp only [ev] at p
  refine ⟨F, ρ, R, Post.bind p fun x ρ1 v F1 H1 R1 S1 E1 V1 p1 => ?_⟩
  cases h1 : rd ρ1 x with
  | none => simp only [h1] at p1; exact p1.elim
  | some d =>
    cases d with
    | obj C fs =>
      simp only [h1] at p1
      by_cases hf : T.fl C a = true
      · rw [if_pos hf] at p1
        cases h2 : getF fs a with
        | none => simp only [h2] at p1; exact p1.elim
        | some d =>
          simp only [h2] at p1
          obtain ⟨b, dx, ws, rfl, h3, h4⟩ := (V1.1.rt R1 h1).obj R1.sub
          obtain ⟨w, h5, h6⟩ := lookup_repA kt.inj h4 h2
          obtain ⟨k1, k2⟩ := kt.cls C a hf
          exact ⟨b, _, dx, ws, w, rfl, h3, k1, k2, h5, p1 _ _ _ R1 S1 E1 ⟨h6, fun _ _ z => by cases z⟩⟩
      · rw [if_neg hf] at p1; exact p1.elim
    | _ => simp only [h1] at p1; exact p1.elim
end
end PV

set_option Elab.async false
set_option linter.all false
set_option maxRecDepth 100000
set_option maxHeartbeats 1000000
/-! PvE: calls: what a def promises in the small language, arguments lent, the frame behind. -/
namespace PV
open PySem L2

/-! ### the promise of a def -/
def ArgOk (M : Nm) (F H : Hp) (v : V) : Slot → Prop
  | .fz d => Rep M F d v
  | .ow d => ∃ a o, v = .ref a ∧ F a = none ∧ H a = some o ∧ RepTop M F d o
  | _ => False
/-- the places of the objects that are lent -/
def AO (vs : List V) (as : List Slot) (a : Addr) : Prop := ∃ (i : Nat) (d : D), as[i]? = some (.ow d) ∧ vs[i]? = some (.ref a)
def Dist (vs : List V) (as : List Slot) : Prop := ∀ (i j : Nat) (d d' : D) (a : Addr), as[i]? = some (.ow d) → as[j]? = some (.ow d') → vs[i]? = some (.ref a) → vs[j]? = some (.ref a) → i = j
/-- what was lent, behind the call -/
def OutOk (M : Nm) (F' H' : Hp) (vs : List V) (as os : List Slot) : Prop := ∀ (i : Nat) (d : D), as[i]? = some (.ow d) → ∃ d' a o, os[i]? = some (.ow d') ∧ vs[i]? = some (.ref a) ∧ F' a = none ∧ H' a = some o ∧ RepTop M F' d' o
def ResOk (M : Nm) (H F' H' : Hp) (v : V) : Val → Prop
  | .t xs => ∃ a vs, v = .ref a ∧ H' a = some (.tup vs) ∧ VsOk M F' H' [] [] vs (xs.map tv) ∧ VsNew H vs (xs.map tv)
  | .f d => Rep M F' d v
  | .n d => ∃ a o, v = .ref a ∧ H a = none ∧ F' a = none ∧ H' a = some o ∧ RepTop M F' d o
  | .v _ => False
def spOf (M : Nm) (φ : List Slot → FOut) : Sp := fun vs H Q E => ∃ F as, Le F H ∧ vs.length = as.length ∧ (∀ (i : Nat) (v : V) (s : Slot), vs[i]? = some v → as[i]? = some s → ArgOk M F H v s) ∧ Dist vs as ∧
  match φ as with
  | .ok r os => ∀ v F' H', Le F' H' → Stp F H (AO vs as) F' H' (AO vs as) → OutOk M F' H' vs as os → ResOk M H F' H' v r → Q v H'
  | .exc e os => ∀ cls d F' H', Le F' H' → Stp F H (AO vs as) F' H' (AO vs as) → OutOk M F' H' vs as os → XOk M F' H' e cls d → E cls d H'
  | .bad => False

/-! ### lending -/
def Lent (M : Nm) (F : Hp) (ρ : Env) (σ : L2.St) : List Nat → List V → List Val → List Slot → Prop
  | _, [], [], [] => True
  | u, v :: vs, x :: xs, .fz d :: as => Rep M F d v ∧ Lent M F ρ σ u vs xs as
  | u, v :: vs, .v i :: xs, .ow d :: as => i ∉ u ∧ (slotAt ρ i = .ow d ∨ slotAt ρ i = .pw d) ∧ σ[i]? = some (some v) ∧ Lent M F ρ σ (i :: u) vs xs as
  | _, _, _, _ => False
section
variable {M : Nm} {H0 : Hp} {W : WX} {T : Tb}
theorem Lent.mono {F F' : Hp} {ρ ρ' : Env} {σ : L2.St} (l : Le F F') : ∀ {u : List Nat} {vs : List V} {xs : List Val} {as : List Slot}, (∀ i, i ∉ u → ∀ d, slotAt ρ i = .ow d ∨ slotAt ρ i = .pw d → slotAt ρ' i = slotAt ρ i) → Lent M F ρ σ u vs xs as → Lent M F' ρ' σ u vs xs as := by
  intro u vs
  induction vs generalizing u with
  | nil => intro xs as _ h; cases xs <;> cases as <;> exact h
  | cons v vs ih =>
    intro xs as k h
    cases xs with
    | nil => cases as <;> exact h.elim
    | cons x xs =>
      cases as with
      | nil => cases x <;> exact h.elim
      | cons a as =>
        cases a with
        | fz d => cases x <;> exact ⟨Rep.mono l _ _ h.1, ih k h.2⟩
        | ow d =>
          cases x with
          | v i =>
            obtain ⟨h1, h2, h3, h4⟩ := h
            exact ⟨h1, by rw [k i h1 d h2]; exact h2, h3, ih (fun j hj => k j fun z => hj (List.mem_cons_of_mem _ z)) h4⟩
          | _ => exact h.elim
        | _ => cases x <;> exact h.elim
theorem lend_ok {Fs Hs H : Hp} {As : Addr → Prop} {σ : L2.St} : ∀ {xs : List Val} {vs : List V} {k : List Bool} {u : List Nat} {F : Hp} {ρ ρ' : Env} {as : List Slot}, Rel M H0 F H σ ρ → Stp Fs Hs As F H (OA ρ σ) → VsOk M F H σ ρ vs xs → VsNew Hs vs xs →
    lend ρ u k xs = some (as, ρ') → ∃ F', Rel M H0 F' H σ ρ' ∧ Stp Fs Hs As F' H (OA ρ' σ) ∧ ES ρ ρ' ∧ Le F F' ∧ Lent M F' ρ' σ u vs xs as ∧ ∀ i ∈ u, slotAt ρ' i = slotAt ρ i
  | [], vs, k, u, F, ρ, ρ', as, R, S, h, _, e => by
    cases vs with
    | cons v vs => obtain ⟨x, ys, q, _⟩ := h; cases q
    | nil =>
      unfold lend at e; cases e
      exact ⟨F, R, S, ES.refl _, Le.refl _, True.intro, fun _ _ => rfl⟩
  | x :: xs, vs, k, u, F, ρ, ρ', as, R, S, h, hn, e => by
    cases vs with
    | nil => cases h
    | cons v vs =>
    obtain ⟨x', ys, q, h, r, n⟩ := h
    cases q
    obtain ⟨hn1, hn2⟩ := hn
    -- a value that is frozen first
    have frozen : ∀ {d : D} {ρ1 : Env} {as' : List Slot}, fr ρ x = some (d, ρ1) → (∀ i ∈ u, slotAt ρ1 i = slotAt ρ i) → lend ρ1 u k.tail xs = some (as', ρ') →
        ∃ F', Rel M H0 F' H σ ρ' ∧ Stp Fs Hs As F' H (OA ρ' σ) ∧ ES ρ ρ' ∧ Le F F' ∧ Lent M F' ρ' σ u (v :: vs) (x :: xs) (.fz d :: as') ∧ ∀ i ∈ u, slotAt ρ' i = slotAt ρ i := fun {d ρ1 as'} h1 hu h2 => by
      obtain ⟨F1, z⟩ := fr_ok R S h hn1 h1
      have keep : ∀ {vs : List V} {ys : List Val}, VsOk M F H σ ρ vs ys → (∀ w y, (w, y) ∈ vs.zip ys → ∀ d d', x = .n d → y = .n d' → w ≠ v) → VsOk M F1 H σ ρ1 vs ys := by
        intro vs
        induction vs with
        | nil => intro ys h _; exact h
        | cons w vs ih =>
          rintro ys ⟨y, ys', rfl, g, gr, gn⟩ m
          exact ⟨y, ys', rfl, z.keep g (fun d d' e e' => m w y (by simp) d d' e e'), ih gr (fun w' y' hm => m w' y' (by simp [hm])), gn⟩
      obtain ⟨F2, R2, S2, E2, L2, P2, U2⟩ := lend_ok z.rel z.stp (keep r n) hn2 h2
      exact ⟨F2, R2, S2, z.es.trans E2, z.le.trans L2, ⟨Rep.mono L2 _ _ z.rep, P2⟩, fun i hi => (U2 i hi).trans (hu i hi)⟩
    have plain : ∀ {d : D}, fr ρ x = some (d, ρ) → (lend ρ u k.tail xs).map (fun p => (Slot.fz d :: p.1, p.2)) = some (as, ρ') →
        ∃ F', Rel M H0 F' H σ ρ' ∧ Stp Fs Hs As F' H (OA ρ' σ) ∧ ES ρ ρ' ∧ Le F F' ∧ Lent M F' ρ' σ u (v :: vs) (x :: xs) as ∧ ∀ i ∈ u, slotAt ρ' i = slotAt ρ i := fun {d} h1 h2 => by
      obtain ⟨⟨as', ρ2⟩, h3, h4⟩ := Option.map_eq_some_iff.mp h2
      cases h4
      exact frozen h1 (fun _ _ => rfl) h3
    -- lent
    have lent : ∀ {i : Nat} {d : D} {as' : List Slot}, x = .v i → (slotAt ρ i = .ow d ∨ slotAt ρ i = .pw d) → i ∉ u → lend ρ (i :: u) k.tail xs = some (as', ρ') →
        ∃ F', Rel M H0 F' H σ ρ' ∧ Stp Fs Hs As F' H (OA ρ' σ) ∧ ES ρ ρ' ∧ Le F F' ∧ Lent M F' ρ' σ u (v :: vs) (x :: xs) (.ow d :: as') ∧ ∀ i ∈ u, slotAt ρ' i = slotAt ρ i := fun {i d as'} hx hs hu h2 => by
      obtain ⟨F2, R2, S2, E2, L2, P2, U2⟩ := lend_ok R S r hn2 h2
      subst hx
      exact ⟨F2, R2, S2, E2, L2, ⟨hu, by rw [U2 i List.mem_cons_self]; exact hs, h.1, P2⟩, fun j hj => U2 j (List.mem_cons_of_mem _ hj)⟩
    unfold lend at e
    cases x with
    | t _ => first | rfl | exact h.elim | exact p.elim | exact p1.elim | exact p2.elim | exact p3.elim | (exact absurd e (by intro z; cases z)) | (cases e; done)
    | f d =>
      have e' : (lend ρ u k.tail xs).map (fun p => (Slot.fz d :: p.1, p.2)) = some (as, ρ') := by
        cases hk : k.headD false <;> (simp only [hk] at e; exact e)
      exact plain rfl e'
    | n d =>
      have e' : (lend ρ u k.tail xs).map (fun p => (Slot.fz d :: p.1, p.2)) = some (as, ρ') := by
        cases hk : k.headD false <;> (simp only [hk] at e; exact e)
      exact plain rfl e'
    | v i =>
      cases hk : k.headD false with
      | false =>
        simp only [hk] at e
        by_cases hu : i ∈ u
        · rw [if_pos hu] at e; cases e
        · rw [if_neg hu] at e
          cases h1 : fr ρ (.v i) with
          | none => simp only [h1] at e; cases e
          | some p =>
            obtain ⟨d, ρ1⟩ := p
            simp only [h1] at e
            obtain ⟨⟨as', ρ2⟩, h3, h4⟩ := Option.map_eq_some_iff.mp e
            cases h4
            refine frozen h1 (fun j hj => ?_) h3
            have ne : j ≠ i := fun z => hu (z ▸ hj)
            cases q : slotAt ρ i with
            | no => simp [fr, q] at h1
            | pw d' => simp [fr, q] at h1
            | od d' => simp [fr, q] at h1
            | fz d' => simp [fr, q] at h1; rw [h1.2]
            | ow d' =>
              simp [fr, q] at h1
              rw [← h1.2, slotAt_set, if_neg fun z => ne z.1]
      | true =>
        simp only [hk] at e
        cases q : slotAt ρ i with
        | no => simp only [q] at e; cases e
        | od d => simp only [q] at e; cases e
        | fz d =>
          simp only [q] at e
          exact plain (by simp [fr, q]) e
        | ow d =>
          simp only [q] at e
          by_cases hu : i ∈ u
          · rw [if_pos hu] at e; cases e
          · rw [if_neg hu] at e
            obtain ⟨⟨as', ρ2⟩, h3, h4⟩ := Option.map_eq_some_iff.mp e
            cases h4
            exact lent rfl (.inl q) hu h3
        | pw d =>
          simp only [q] at e
          by_cases hu : i ∈ u
          · rw [if_pos hu] at e; cases e
          · rw [if_neg hu] at e
            obtain ⟨⟨as', ρ2⟩, h3, h4⟩ := Option.map_eq_some_iff.mp e
            cases h4
            exact lent rfl (.inr q) hu h3
theorem Lent.len {F : Hp} {ρ : Env} {σ : L2.St} : ∀ {u : List Nat} {vs : List V} {xs : List Val} {as : List Slot}, Lent M F ρ σ u vs xs as → vs.length = as.length ∧ xs.length = as.length := by
  intro u vs
  induction vs generalizing u with
  | nil => intro xs as h; cases xs <;> cases as <;> first | exact ⟨rfl, rfl⟩ | exact h.elim
  | cons v vs ih =>
    intro xs as h
    cases xs with
    | nil => cases as <;> exact h.elim
    | cons x xs =>
      cases as with
      | nil => cases x <;> exact h.elim
      | cons a as =>
        cases a with
        | fz d => obtain ⟨p, q⟩ := ih (by cases x <;> exact h.2); exact ⟨by simp [p], by simp [q]⟩
        | ow d =>
          cases x with
          | v i => obtain ⟨p, q⟩ := ih h.2.2.2; exact ⟨by simp [p], by simp [q]⟩
          | _ => exact h.elim
        | _ => cases x <;> exact h.elim
/-- what stands at one place -/
theorem Lent.at {F : Hp} {ρ : Env} {σ : L2.St} : ∀ {u : List Nat} {vs : List V} {xs : List Val} {as : List Slot} {j : Nat} {v : V} {s : Slot}, Lent M F ρ σ u vs xs as → vs[j]? = some v → as[j]? = some s →
    (∃ d, s = .fz d ∧ Rep M F d v) ∨ ∃ d i, s = .ow d ∧ xs[j]? = some (.v i) ∧ i ∉ u ∧ (slotAt ρ i = .ow d ∨ slotAt ρ i = .pw d) ∧ σ[i]? = some (some v) := by
  intro u vs
  induction vs generalizing u with
  | nil => intro xs as j v s h e; simp at e
  | cons w vs ih =>
    intro xs as j v s h e e'
    cases xs with
    | nil => cases as <;> exact h.elim
    | cons x xs =>
      cases as with
      | nil => simp at e'
      | cons a as =>
        cases a with
        | fz d =>
          have h' : Rep M F d w ∧ Lent M F ρ σ u vs xs as := by cases x <;> exact h
          cases j with
          | zero => simp at e e'; subst e e'; exact .inl ⟨d, rfl, h'.1⟩
          | succ j => simp at e e'; simpa using ih h'.2 e e'
        | ow d =>
          cases x with
          | v i =>
            obtain ⟨h1, h2, h3, h4⟩ := h
            cases j with
            | zero => simp at e e'; subst e e'; exact .inr ⟨d, i, rfl, by simp, h1, h2, h3⟩
            | succ j =>
              simp at e e'
              rcases ih h4 e e' with g | ⟨d', i', g1, g2, g3, g4, g5⟩
              · exact .inl g
              · exact .inr ⟨d', i', g1, by simpa using g2, fun z => g3 (List.mem_cons_of_mem _ z), g4, g5⟩
          | _ => exact h.elim
        | _ => cases x <;> exact h.elim
/-- two that are lent are two slots -/
theorem Lent.inj {F : Hp} {ρ : Env} {σ : L2.St} : ∀ {u : List Nat} {vs : List V} {xs : List Val} {as : List Slot} {j k : Nat} {i : Nat} {d d' : D}, Lent M F ρ σ u vs xs as → as[j]? = some (.ow d) → as[k]? = some (.ow d') → xs[j]? = some (.v i) → xs[k]? = some (.v i) → j = k := by
  intro u vs
  induction vs generalizing u with
  | nil => intro xs as j k i d d' h e; cases xs <;> cases as <;> first | (simp at e; done) | exact h.elim
  | cons w vs ih =>
    intro xs as j k i d d' h e e' f f'
    cases xs with
    | nil => cases as <;> exact h.elim
    | cons x xs =>
      cases as with
      | nil => simp at e
      | cons a as =>
        cases a with
        | fz q =>
          have h' : Lent M F ρ σ u vs xs as := by cases x <;> exact h.2
          cases j with
          | zero => simp at e
          | succ j =>
            cases k with
            | zero => simp at e'
            | succ k => simp at e e' f f'; rw [ih h' e e' f f']
        | ow q =>
          cases x with
          | v m =>
            obtain ⟨h1, h2, h3, h4⟩ := h
            have other : ∀ {j : Nat} {d : D}, as[j]? = some (.ow d) → xs[j]? = some (.v m) → False := fun {j d} g g' => by
              have hl := h4.len
              obtain ⟨v, hv⟩ : ∃ v, vs[j]? = some v := by
                have : j < as.length := (List.getElem?_eq_some_iff.mp g).1
                exact ⟨vs[j]'(by omega), by simp [show j < vs.length by omega]⟩
              rcases h4.at hv g with ⟨_, z, _⟩ | ⟨_, i', _, z, nz, _⟩
              · cases z
              · rw [g'] at z; cases z; exact nz List.mem_cons_self
            cases j with
            | zero =>
              cases k with
              | zero => rfl
              | succ k => simp at f f'; subst f; exact (other (by simpa using e') f').elim
            | succ j =>
              cases k with
              | zero => simp at f f'; subst f'; exact (other (by simpa using e) f).elim
              | succ k => simp at e e' f f'; rw [ih h4 e e' f f']
          | _ => exact h.elim
        | _ => cases x <;> exact h.elim
theorem Lent.dist {F H : Hp} {ρ : Env} {σ : L2.St} {u : List Nat} {vs : List V} {xs : List Val} {as : List Slot} (R : Rel M H0 F H σ ρ) (h : Lent M F ρ σ u vs xs as) : Dist vs as := by
  intro i j d d' a e e' f f'
  rcases h.at f e with ⟨_, z, _⟩ | ⟨q, m, z, g1, _, g2, g3⟩
  · cases z
  rcases h.at f' e' with ⟨_, z', _⟩ | ⟨q', m', z', g1', _, g2', g3'⟩
  · cases z'
  have : m = m' := R.dist m m' a (by rcases g2 with g | g <;> (rw [g]; exact True.intro)) (by rcases g2' with g | g <;> (rw [g]; exact True.intro)) g3 g3'
  subst this
  exact h.inj e e' g1 g1'
theorem Lent.args {F H : Hp} {ρ : Env} {σ : L2.St} {u : List Nat} {vs : List V} {xs : List Val} {as : List Slot} (R : Rel M H0 F H σ ρ) (h : Lent M F ρ σ u vs xs as) : ∀ (i : Nat) (v : V) (s : Slot), vs[i]? = some v → as[i]? = some s → ArgOk M F H v s := by
  intro i v s e e'
  rcases h.at e e' with ⟨d, rfl, r⟩ | ⟨d, m, rfl, g1, _, g2, g3⟩
  · exact r
  · obtain ⟨a, o, q1, q2, q3, q4⟩ := R.ow m d g2
    rw [g3] at q1; cases q1
    exact ⟨a, o, rfl, q2, q3, q4⟩
theorem Lent.ao {F : Hp} {ρ : Env} {σ : L2.St} {u : List Nat} {vs : List V} {xs : List Val} {as : List Slot} (h : Lent M F ρ σ u vs xs as) {a : Addr} (z : AO vs as a) : OA ρ σ a := by
  obtain ⟨i, d, e, f⟩ := z
  rcases h.at f e with ⟨_, z, _⟩ | ⟨q, m, z, g1, _, g2, g3⟩
  · cases z
  · exact ⟨m, by rcases g2 with g | g <;> (rw [g]; exact True.intro), g3⟩

/-! ### behind the call -/
def kindSet : Slot → D → Slot
  | .ow _, d => .ow d | .pw _, d => .pw d | s, _ => s
/-- a slot that was not lent is as it was, one that was lent has what came back -/
theorem back_at {F : Hp} {σ : L2.St} : ∀ {vs : List V} {xs : List Val} {as os : List Slot} {ρ : Env} {u : List Nat}, Lent M F ρ σ u vs xs as → (∀ (j : Nat) (d : D), as[j]? = some (.ow d) → ∃ d', os[j]? = some (.ow d')) → ∀ i,
    (slotAt (back ρ xs as os) i = slotAt ρ i ∧ ∀ (j : Nat) (d : D), as[j]? = some (.ow d) → xs[j]? ≠ some (.v i)) ∨
      (i ∉ u ∧ ∃ (j : Nat) (d d' : D), as[j]? = some (.ow d) ∧ os[j]? = some (.ow d') ∧ xs[j]? = some (.v i) ∧ slotAt (back ρ xs as os) i = kindSet (slotAt ρ i) d') := by
  intro vs
  induction vs with
  | nil =>
    intro xs as os ρ u h ho i
    cases xs <;> cases as <;> first | exact h.elim | exact .inl ⟨by unfold back; rfl, fun j d e => by simp at e⟩
  | cons w vs ih =>
    intro xs as os ρ u h ho i
    cases xs with
    | nil => cases as <;> exact h.elim
    | cons x xs =>
      cases as with
      | nil => cases x <;> exact h.elim
      | cons a as =>
        cases os with
        | nil =>
          have no : ∀ (j : Nat) (d : D), (a :: as)[j]? ≠ some (.ow d) := fun j d e => by
            obtain ⟨d', z⟩ := ho j d e
            simp at z
          exact .inl ⟨by cases x <;> cases a <;> rfl, fun j d e => absurd e (no j d)⟩
        | cons o os =>
        cases a with
        | fz q =>
          have h' : Lent M F ρ σ u vs xs as := by cases x <;> exact h.2
          have eb : back ρ (x :: xs) (.fz q :: as) (o :: os) = back ρ xs as os := by cases x <;> rfl
          rw [eb]
          rcases ih (os := os) h' (fun j d e => by simpa using ho (j + 1) d (by simpa using e)) i with ⟨g1, g2⟩ | ⟨g0, j, d, d', g1, g2, g3, g4⟩
          · refine .inl ⟨g1, fun j d e => ?_⟩
            cases j with
            | zero => simp at e
            | succ j => simpa using g2 j d (by simpa using e)
          · exact .inr ⟨g0, j + 1, d, d', by simpa using g1, by simpa using g2, by simpa using g3, g4⟩
        | ow q =>
          cases x with
          | v m =>
            obtain ⟨h1, h2, h3, h4⟩ := h
            obtain ⟨q', hq⟩ := ho 0 q (by simp)
            simp at hq; subst hq
            have hm : m < ρ.length := slotAt_lt (by rcases h2 with g | g <;> (rw [g]; intro z; cases z))
            have eb : back ρ (.v m :: xs) (.ow q :: as) (.ow q' :: os) = back (ρ.set m (kindSet (slotAt ρ m) q')) xs as os := by
              show back (backS ρ m (.ow q')) xs as os = _
              unfold backS
              rcases h2 with g | g <;> (rw [g]; rfl)
            rw [eb]
            have at' : ∀ j, slotAt (ρ.set m (kindSet (slotAt ρ m) q')) j = if j = m then kindSet (slotAt ρ m) q' else slotAt ρ j := fun j => by
              rw [slotAt_set]; by_cases z : j = m <;> simp [z, hm]
            have h4' : Lent M F (ρ.set m (kindSet (slotAt ρ m) q')) σ (m :: u) vs xs as := h4.mono (Le.refl F) fun j hj d _ => by
              have ne : j ≠ m := fun z => hj (by rw [z]; exact List.mem_cons_self)
              rw [at', if_neg ne]
            rcases ih (os := os) h4' (fun j d e => by simpa using ho (j + 1) d (by simpa using e)) i with ⟨g1, g2⟩ | ⟨g0, j, d, d', g1, g2, g3, g4⟩
            · by_cases z : i = m
              · subst z
                refine .inr ⟨h1, 0, q, q', by simp, by simp, by simp, ?_⟩
                rw [g1, at', if_pos rfl]
              · refine .inl ⟨by rw [g1, at', if_neg z], fun j d e => ?_⟩
                cases j with
                | zero => simp; exact fun y => z y.symm
                | succ j => simpa using g2 j d (by simpa using e)
            · have nz : i ≠ m := fun z => g0 (z ▸ List.mem_cons_self)
              refine .inr ⟨fun z => g0 (List.mem_cons_of_mem _ z), j + 1, d, d', by simpa using g1, by simpa using g2, by simpa using g3, ?_⟩
              rw [g4, at', if_neg nz]
          | _ => exact h.elim
        | _ => cases x <;> exact h.elim
theorem back_len : ∀ {xs : List Val} {as os : List Slot} {ρ : Env}, (back ρ xs as os).length = ρ.length
  | [], _, _, _ => by unfold back; rfl
  | x :: xs, [], os, ρ => by cases x <;> rfl
  | x :: xs, a :: as, [], ρ => by cases x <;> cases a <;> rfl
  | x :: xs, a :: as, o :: os, ρ => by
    have keep : (back ρ xs as os).length = ρ.length := back_len
    cases x with
    | v i =>
      cases a with
      | ow d =>
        show (back (backS ρ i o) xs as os).length = _
        rw [back_len]
        unfold backS
        cases o <;> first | rfl | (cases slotAt ρ i <;> first | rfl | simp)
      | _ => exact keep
    | _ => exact keep
theorem back_ok {F H F' H' : Hp} {σ : L2.St} {ρ : Env} {vs : List V} {xs : List Val} {as os : List Slot} (R : Rel M H0 F H σ ρ) (L : Lent M F ρ σ [] vs xs as) (le : Le F' H') (S : Stp F H (AO vs as) F' H' (AO vs as)) (O : OutOk M F' H' vs as os) :
    Rel M H0 F' H' σ (back ρ xs as os) ∧ Stp F H (OA ρ σ) F' H' (OA (back ρ xs as os) σ) ∧ ES ρ (back ρ xs as os) := by
  have A := back_at (os := os) L (fun j d e => let ⟨d', _, _, h, _⟩ := O j d e; ⟨d', h⟩)
  have kown : ∀ {s : Slot} {d : D}, IsOwn (kindSet s d) → IsOwn s := fun {s d} h => by cases s <;> first | exact h | exact True.intro
  have own : ∀ i, IsOwn (slotAt (back ρ xs as os) i) → IsOwn (slotAt ρ i) := fun i h => by
    rcases A i with ⟨g, _⟩ | ⟨_, j, d, d', _, _, _, g⟩
    · rw [g] at h; exact h
    · rw [g] at h; exact kown h
  -- what is lent at j is the slot's own object
  have slotOf : ∀ {i j : Nat} {d : D}, as[j]? = some (.ow d) → xs[j]? = some (.v i) → (slotAt ρ i = .ow d ∨ slotAt ρ i = .pw d) ∧ ∃ v, vs[j]? = some v ∧ σ[i]? = some (some v) := fun {i j d} e e' => by
    have hj : j < as.length := (List.getElem?_eq_some_iff.mp e).1
    have hv : j < vs.length := by rw [L.len.1]; exact hj
    rcases L.at (v := vs[j]) (by simp [hv]) e with ⟨_, z, _⟩ | ⟨q, m, z, g1, _, g2, g3⟩
    · cases z
    · cases z
      rw [e'] at g1; cases g1
      exact ⟨g2, _, by simp [hv], g3⟩
  refine ⟨⟨le, by rw [back_len]; exact R.len, fun i d z => ?_, fun i d z => ?_, fun i j a z w => R.dist i j a (own i z) (own j w), fun i d a z w => ?_, fun a z => R.dom a (S.dm a z), R.odr.step S.le S.mm (R.hks S fun b z => L.ao z) fun i ks z => ⟨?_, rfl⟩⟩,
    ⟨S.le, fun b o z n => S.fr b o z fun y => n (L.ao y), S.dm, fun b z z' => (S.nw b z z').imp id L.ao, fun b ⟨i, z, w⟩ => .inl ⟨i, own i z, w⟩, S.mm⟩, ⟨back_len.symm, fun i d z => ?_, fun i d z => ?_, fun i d z => ?_, fun i z => ?_, fun i d z => ?_⟩⟩
  · -- frozen slots
    have z' : slotAt ρ i = .fz d := by
      rcases A i with ⟨g, _⟩ | ⟨_, j, q, q', g1, g2, g3, g⟩
      · rw [← g]; exact z
      · obtain ⟨h1, _⟩ := slotOf g1 g3
        rw [g] at z
        rcases h1 with h1 | h1 <;> (rw [h1] at z; cases z)
    obtain ⟨v, h1, h2⟩ := R.fz i d z'
    exact ⟨v, h1, Rep.mono S.le _ _ h2⟩
  · -- own slots
    rcases A i with ⟨g, g'⟩ | ⟨_, j, q, q', g1, g2, g3, g⟩
    · rw [g] at z
      obtain ⟨a, o, h1, h2, h3, h4⟩ := R.ow i d z
      have na : ¬ AO vs as a := by
        rintro ⟨j, q, e, f⟩
        rcases L.at f e with ⟨_, y, _⟩ | ⟨_, m, _, y1, _, y2, y3⟩
        · cases y
        · have hm : m = i := R.dist m i a (by rcases y2 with y | y <;> (rw [y]; exact True.intro)) (by rcases z with y | y <;> (rw [y]; exact True.intro)) y3 h1
          subst hm
          exact g' j q e y1
      refine ⟨a, o, h1, ?_, S.fr a o h3 na, h4.mono S.le⟩
      cases y : F' a with
      | none => rfl
      | some u =>
        rcases S.nw a h2 (by rw [y]; intro w; cases w) with w | w
        · rw [h3] at w; cases w
        · exact absurd w na
    · obtain ⟨h1, v, h2, h3⟩ := slotOf g1 g3
      obtain ⟨e', a, o, k1, k2, k3, k4, k5⟩ := O j q g1
      have eq : e' = q' := by rw [k1] at g2; cases g2; rfl
      subst eq
      rw [k2] at h2; cases h2
      have ed : d = e' := by
        rw [g] at z
        rcases h1 with h1 | h1 <;> (rw [h1] at z; rcases z with z | z <;> cases z <;> rfl)
      subst ed
      exact ⟨a, o, h3, k3, k4, k5⟩
  · -- new ones
    rcases A i with ⟨g, _⟩ | ⟨_, j, q, q', g1, g2, g3, g⟩
    · rw [g] at z; exact R.new i d a z w
    · obtain ⟨h1, _⟩ := slotOf g1 g3
      rw [g] at z
      rcases h1 with h1 | h1
      · exact R.new i q a h1 w
      · rw [h1] at z; cases z
  · rcases A i with ⟨g, _⟩ | ⟨_, j, q, q', g1, g2, g3, g⟩
    · rw [← g]; exact z
    · obtain ⟨h1, _⟩ := slotOf g1 g3
      rw [g] at z
      rcases h1 with h1 | h1 <;> (rw [h1] at z; cases z)
  · rcases A i with ⟨g, _⟩ | ⟨_, j, q, q', g1, g2, g3, g⟩
    · rw [g]; exact z
    · rw [g, z]; rfl
  · rcases A i with ⟨g, _⟩ | ⟨_, j, q, q', g1, g2, g3, g⟩
    · rw [g]; exact ⟨d, .inl z⟩
    · rw [g, z]; exact ⟨q', .inl rfl⟩
  · rcases A i with ⟨g, _⟩ | ⟨_, j, q, q', g1, g2, g3, g⟩
    · rw [g]; exact ⟨d, z⟩
    · rw [g, z]; exact ⟨q', rfl⟩
  · rcases A i with ⟨g, _⟩ | ⟨_, j, q, q', g1, g2, g3, g⟩
    · rw [g]; exact z
    · rw [g, z]; rfl
  · rcases A i with ⟨g, _⟩ | ⟨_, j, q, q', g1, g2, g3, g⟩
    · rw [g]; exact z
    · rw [g, z]; rfl
end
end PV

set_option Elab.async false
set_option linter.all false
set_option maxRecDepth 100000
set_option maxHeartbeats 1000000
/-! PvF: the rules of calls: defs, properties, methods, new instances. -/
namespace PV
open PySem L2
section
variable {M : Nm} {H0 : Hp} {W : WX} {T : Tb}
/-- as Post.bind, the first part beginning later -/
theorem Post.bind2 {α β γ δ : Type} {F H F1 H1 : Hp} {σ : L2.St} {ρ ρ1 : Env} {VR : Hp → Hp → Env → α → β → Prop} {VQ : Hp → Hp → Env → γ → δ → Prop} {r : Out γ} {f : γ → Env → Out α} {Q : β → Hp → Prop} {Q1 : δ → Hp → Prop}
    (h : Post M H0 W F H σ ρ VR (r.bind f) Q) (S : Stp F H (OA ρ σ) F1 H1 (OA ρ1 σ)) (E : ES ρ ρ1)
    (k : ∀ x ρ2 b F2 H2, Rel M H0 F2 H2 σ ρ2 → Stp F1 H1 (OA ρ1 σ) F2 H2 (OA ρ2 σ) → ES ρ1 ρ2 → VQ F2 H2 ρ2 x b → Post M H0 W F H σ ρ VR (f x ρ2) Q → Q1 b H2) : Post M H0 W F1 H1 σ ρ1 VQ r Q1 := by
  cases r with
  | ok x ρ1 => exact fun b F1 H1 R S E v => k x ρ1 b F1 H1 R S E v h
  | exc e ρ2 => exact fun c d F2 H2 R2 S2 E2 v2 => h c d F2 H2 R2 (S.trans S2) (E.trans E2) v2
  | bad => exact h
theorem call_fin {f : Nat} {keep : List Bool} {F H F1 H1 : Hp} {σ : L2.St} {ρ ρ1 : Env} {xs : List Val} {vs : List V} {Q : VK} {E : XK} (hW : ∀ c d σ H, W c d σ H → E c d H) (R1 : Rel M H0 F1 H1 σ ρ1) (S : Stp F H (OA ρ σ) F1 H1 (OA ρ1 σ)) (E1 : ES ρ ρ1)
    (V1 : VsOk M F1 H1 σ ρ1 vs xs) (N1 : VsNew H vs xs) (p : Post M H0 W F H σ ρ (VR1 M H σ) (callF T f keep xs ρ1) Q) : spOf M (T.fn f) vs H1 Q E := by
  unfold callF at p
  cases h1 : lend ρ1 [] keep xs with
  | none => rw [h1] at p; exact p.elim
  | some q =>
    obtain ⟨as, ρ2⟩ := q
    rw [h1] at p
    dsimp only at p
    obtain ⟨F2, R2, S2, E2, L2, P2, _⟩ := lend_ok R1 S V1 N1 h1
    refine ⟨F2, as, R2.sub, P2.len.1, P2.args R2, P2.dist R2, ?_⟩
    cases h2 : T.fn f as with
    | bad => rw [h2] at p; exact p.elim
    | exc e os =>
      rw [h2] at p
      intro cls d F3 H3 le St O hx
      obtain ⟨R3, S3, E3⟩ := back_ok R2 P2 le St O
      exact hW _ _ _ _ (p cls d F3 H3 R3 (S2.trans S3) (E1.trans (E2.trans E3)) hx)
    | ok r os =>
      rw [h2] at p
      intro v F3 H3 le St O hr
      obtain ⟨R3, S3, E3⟩ := back_ok R2 P2 le St O
      cases r with
      | t _ => first | rfl | exact h.elim | exact p.elim | exact p1.elim | exact p2.elim | exact p3.elim | (exact absurd e (by intro z; cases z)) | (cases e; done)
      | f d => exact p v F3 H3 R3 (S2.trans S3) (E1.trans (E2.trans E3)) ⟨hr, fun _ _ z => by cases z⟩
      | n d =>
        obtain ⟨a, o, rfl, h3, h4, h5, h6⟩ := hr
        refine p _ F3 H3 R3 (S2.trans S3) (E1.trans (E2.trans E3)) ⟨⟨a, o, rfl, h4, h5, h6, ?_⟩, fun d' b z z' => by cases z'; exact S2.dm _ h3⟩
        intro z
        obtain ⟨i, z1, z2⟩ := E3.oa z
        cases w : slotAt ρ2 i with
        | no => rw [w] at z1; exact z1
        | fz d => rw [w] at z1; exact z1
        | ow d => obtain ⟨b, u, g1, g2, g3, _⟩ := R2.ow i d (.inl w); rw [z2] at g1; cases g1; rw [h3] at g3; cases g3
        | pw d => obtain ⟨b, u, g1, g2, g3, _⟩ := R2.ow i d (.inr w); rw [z2] at g1; cases g1; rw [h3] at g3; cases g3
        | od d => rw [w] at z1; exact z1
      | v i => exact p.elim
theorem i_call {f : Nat} {keep : List Bool} {es : CEs} {E : XK} (hW : ∀ c d σ H, W c d σ H → E c d H) {σ : L2.St} {H : Hp} {Q : VK} (h : tE M H0 W T (.call f keep es) σ H Q) : tCall (spOf M (T.fn f)) [] E (tA M H0 W T es) σ H Q := by
  obtain ⟨F, ρ, R, p⟩ := h
  simp only [ev] at p
  refine ⟨F, ρ, R, Post.bind p fun xs ρ1 vs F1 H1 R1 S1 E1 V1 p1 => ?_⟩
  show spOf M (T.fn f) (vs ++ []) H1 Q E
  rw [List.append_nil]
  exact call_fin hW R1 S1 E1 V1.1 V1.2 p1
theorem calm_post {F H : Hp} {σ : L2.St} {ρ : Env} {α β : Type} {VR : Hp → Hp → Env → α → β → Prop} {r : Out α} {Q : β → Hp → Prop} {W' : WX} (p : Post M H0 W F H σ ρ VR (calm r) Q) : Post M H0 W' F H σ ρ VR r Q := by
  cases r with
  | ok x ρ1 => exact p
  | exc e ρ1 => exact p.elim
  | bad => exact p
theorem PE.ex {X : Cx} {e : Expr} {ι : Type} {P : ι → Prop} {t : ι → TE} (h : ∀ i, P i → PE X e (t i)) : PE X e (fun σ H Q => ∃ i, P i ∧ t i σ H Q) := ⟨fun pins s σ H Q I ⟨i, hp, q⟩ => (h i hp).run pins s σ H Q I q⟩
/-- what a value that is an object is -/
theorem VOk.ins {F H : Hp} {σ : L2.St} {ρ : Env} {v : V} {x : Val} {C : Nat} {fs : List (Nat × D)} (R : Rel M H0 F H σ ρ) (h : VOk M F H σ ρ v x) (e : rd ρ x = some (.obj C fs)) : ∃ a dx ws, v = .ref a ∧ H a = some (.ins (M.cl C) dx ws) ∧ RepA M F fs ws :=
  (h.rt R e).obj R.sub
/-- a property: the class is what the object is of -/
theorem i_prp {m : Nat} {e : CE} {σ : L2.St} {H : Hp} {Q : VK} (h : tE M H0 W T (.prp m e) σ H Q) : tE M H0 W T e σ H fun x H1 => ∃ C f a dx fs, T.mt C m = some f ∧ x = .ref a ∧ H1 a = some (.ins (M.cl C) dx fs) ∧ spOf M (T.fn f) [.ref a] H1 Q E0 := by
  obtain ⟨F, ρ, R, p⟩ := h
  simp only [ev] at p
  refine ⟨F, ρ, R, Post.bind p fun x ρ1 v F1 H1 R1 S1 E1 V1 p1 => ?_⟩
  cases h1 : rd ρ1 x with
  | none => simp only [h1] at p1; exact p1.elim
  | some d =>
    cases d with
    | obj C fs =>
      simp only [h1] at p1
      cases h2 : T.mt C m with
      | none => simp only [h2] at p1; exact p1.elim
      | some f =>
        simp only [h2] at p1
        obtain ⟨a, dx, ws, rfl, h3, _⟩ := V1.1.ins R1 h1
        exact ⟨C, f, a, dx, ws, h2, rfl, h3, call_fin (vs := [.ref a]) (W := fun _ _ _ _ => False) (fun _ _ _ _ z => z) R1 S1 E1 ⟨x, [], rfl, V1.1, rfl, fun _ _ z => by simp at z⟩ ⟨V1.2, by unfold VsNew; trivial⟩ (calm_post p1)⟩
    | _ => simp only [h1] at p1; exact p1.elim
/-- a method -/
theorem i_mth {m : Nat} {e : CE} {keep : List Bool} {es : CEs} {E : XK} (hW : ∀ c d σ H, W c d σ H → E c d H) {σ : L2.St} {H : Hp} {Q : VK} (h : tE M H0 W T (.mth m e keep es) σ H Q) :
    tE M H0 W T e σ H fun x H1 => ∃ C f a dx fs fs', T.mt C m = some f ∧ x = .ref a ∧ H1 a = some (.ins (M.cl C) dx fs) ∧ (∃ F, RepA M F fs' fs) ∧ tA M H0 W T es σ H1 fun vs H2 => spOf M (T.fn f) (x :: (vs ++ [])) H2 Q E := by
  obtain ⟨F, ρ, R, p⟩ := h
  simp only [ev] at p
  refine ⟨F, ρ, R, Post.bind p fun x ρ1 v F1 H1 R1 S1 E1 V1 p1 => ?_⟩
  cases h1 : rd ρ1 x with
  | none => simp only [h1] at p1; exact p1.elim
  | some d =>
    cases d with
    | obj C fs =>
      simp only [h1] at p1
      cases h2 : T.mt C m with
      | none => simp only [h2] at p1; exact p1.elim
      | some f =>
        simp only [h2] at p1
        obtain ⟨a, dx, ws, rfl, h3, h4⟩ := V1.1.ins R1 h1
        refine ⟨C, f, a, dx, ws, fs, h2, rfl, h3, ⟨F1, h4⟩, F1, ρ1, R1, ?_⟩
        refine Post.bind2 p1 S1 E1 fun xs ρ2 vs F2 H2 R2 S2 E2 V2 p2 => ?_
        rw [List.append_nil]
        refine call_fin (xs := x :: xs) hW R2 (S1.trans S2) (E1.trans E2) ⟨x, xs, rfl, V1.1.step S2 E2, V2.1, fun w y mm d d' e e' => ?_⟩ ⟨V1.2, V2.2.back S1⟩ p2
        subst e
        rintro rfl
        obtain ⟨c, o, q, _, e3, _⟩ := V1.1
        cases q
        have q := memNew V2.2 mm d' _ e' rfl
        rw [e3] at q; cases q
    | _ => simp only [h1] at p1; exact p1.elim
/-- a new instance -/
theorem i_new {C : Nat} {keep : List Bool} {es : CEs} {E : XK} (hW : ∀ c d σ H, W c d σ H → E c d H) {f : Nat} (hf : T.mt C mInit = some f) {σ : L2.St} {H : Hp} {Q : VK} (h : tE M H0 W T (.new C keep es) σ H Q) :
    tMake (M.cl C) (spOf M (T.fn f)) [] E (tA M H0 W T es) σ H Q := by
  obtain ⟨F, ρ, R, p⟩ := h
  simp only [ev] at p
  refine ⟨F, ρ, R, Post.bind p fun xs ρ1 vs F1 H1 R1 S1 E1 V1 p1 => ?_⟩
  intro x dx hx hdx hne
  rw [List.append_nil]
  simp only [hf] at p1
  cases h1 : lend ρ1 [] keep xs with
  | none => rw [h1] at p1; exact p1.elim
  | some q =>
    obtain ⟨as, ρ2⟩ := q
    rw [h1] at p1
    dsimp only at p1
    obtain ⟨F2, R2, S2, E2, L2, P2, _⟩ := lend_ok R1 S1 V1.1 V1.2 h1
    have fx := R2.sub.d x hx
    have fdx := R2.sub.d dx hdx
    have hdx1 : (upd H1 dx (.own x)) x = none := by rw [upd_ne hne.symm]; exact hx
    -- what stands at x, and elsewhere
    have atx : (upd (upd H1 dx (.own x)) x (.ins (M.cl C) dx [])) x = some (.ins (M.cl C) dx []) := upd_same
    have ato : ∀ b o, H1 b = some o → (upd (upd H1 dx (.own x)) x (.ins (M.cl C) dx [])) b = some o := fun b o e => by
      rw [upd_ne (ne_of_none e hx), upd_ne (ne_of_none e hdx)]; exact e
    have none_of : ∀ b, (upd (upd H1 dx (.own x)) x (.ins (M.cl C) dx [])) b = none → H1 b = none := fun b e => by
      by_cases q : b = x
      · rw [q]; exact hx
      · rw [upd_ne q] at e
        by_cases q' : b = dx
        · rw [q']; exact hdx
        · rw [upd_ne q'] at e; exact e
    have none_of' : ∀ b, (upd (upd H1 dx (.own x)) x (.ins (M.cl C) dx [])) b = none → b ≠ x ∧ b ≠ dx := fun b e => by
      constructor
      · rintro rfl; rw [upd_same] at e; cases e
      · rintro rfl; rw [upd_ne hne, upd_same] at e; cases e
    have sub2 : Le F2 (upd (upd H1 dx (.own x)) x (.ins (M.cl C) dx [])) := (R2.sub.mut fdx).mut fx
    have args := P2.args R2
    have aoh : ∀ a, AO vs as a → ∃ o, H1 a = some o := fun a ⟨i, d, e, e'⟩ => by
      obtain ⟨b, o, q1, q2, q3, q4⟩ := args i _ _ e' e
      cases q1; exact ⟨o, q3⟩
    refine ⟨F2, .ow (.obj C []) :: as, sub2, by simp [P2.len.1], fun i v s e e' => ?_, fun i j d d' a e e' g g' => ?_, ?_⟩
    · cases i with
      | zero => simp at e e'; subst e e'; exact ⟨x, _, rfl, fx, atx, rfl, rfl⟩
      | succ i =>
        simp at e e'
        have := args i v s e e'
        cases s with
        | fz d => exact this
        | ow d => obtain ⟨a, o, q1, q2, q3, q4⟩ := this; exact ⟨a, o, q1, q2, ato a o q3, q4⟩
        | _ => exact this.elim
    · have ne0 : ∀ {i : Nat} {d : D}, as[i]? = some (.ow d) → vs[i]? = some (V.ref x) → False := fun {i d} e g => by
        obtain ⟨o, q⟩ := aoh x ⟨i, d, e, g⟩
        rw [hx] at q; cases q
      cases i with
      | zero =>
        cases j with
        | zero => rfl
        | succ j => simp at e e' g g'; subst g; exact (ne0 e' g').elim
      | succ i =>
        cases j with
        | zero => simp at e e' g g'; subst g'; exact (ne0 e g).elim
        | succ j => simp at e e' g g'; rw [P2.dist R2 i j d d' a e e' g g']
    · have aoc : ∀ b, AO (.ref x :: vs) (.ow (.obj C []) :: as) b → b = x ∨ AO vs as b := fun b ⟨i, d, e, g⟩ => by
        cases i with
        | zero => simp at g; exact .inl g.symm
        | succ i => exact .inr ⟨i, d, by simpa using e, by simpa using g⟩
      have back1 : ∀ {F3 H3 : Hp}, Stp F2 (upd (upd H1 dx (.own x)) x (.ins (M.cl C) dx [])) (AO (.ref x :: vs) (.ow (.obj C []) :: as)) F3 H3 (AO (.ref x :: vs) (.ow (.obj C []) :: as)) → Stp F2 H1 (AO vs as) F3 H3 (AO vs as) := fun {F3 H3} St =>
        ⟨St.le, fun b o e n => St.fr b o (ato b o e) fun z => (aoc b z).elim (fun w => by subst w; rw [hx] at e; cases e) n, fun b e => none_of b (St.dm b e), fun b e e' => by
          rcases St.nw b e e' with z | z
          · exact .inl (none_of b z)
          · rcases aoc b z with w | w
            · subst w; exact .inl hx
            · exact .inr w, fun b z => .inl z, St.mm⟩
      have out1 : ∀ {F3 H3 : Hp} {o0 : Slot} {os : List Slot}, OutOk M F3 H3 (.ref x :: vs) (.ow (.obj C []) :: as) (o0 :: os) → OutOk M F3 H3 vs as os := fun {F3 H3 o0 os} O i d e => by
        simpa using O (i + 1) d (by simpa using e)
      cases h2 : T.fn f (.ow (.obj C []) :: as) with
      | bad => rw [h2] at p1; exact p1.elim
      | exc e os =>
        cases os with
        | nil => rw [h2] at p1; exact p1.elim
        | cons o0 os =>
          rw [h2] at p1
          intro cls d F3 H3 le St O hx'
          obtain ⟨R3, S3, E3⟩ := back_ok R2 P2 le (back1 St) (out1 O)
          exact hW _ _ _ _ (p1 cls d F3 H3 R3 (S2.trans S3) (E1.trans (E2.trans E3)) hx')
      | ok r os =>
        cases os with
        | nil => rw [h2] at p1; (cases r with | f d => cases d <;> exact p1.elim | n d => exact p1.elim | v i => exact p1.elim | t _ => exact p1.elim)
        | cons o0 os =>
          rw [h2] at p1
          cases r with
          | t _ => first | rfl | exact h.elim | exact p.elim | exact p1.elim | exact p2.elim | exact p3.elim | (exact absurd e (by intro z; cases z)) | (cases e; done)
          | n d => exact p1.elim
          | v i => exact p1.elim
          | f d =>
            cases d with
            | non =>
              cases o0 with
              | ow d =>
                intro v F3 H3 le St O hr
                have hv : v = .non := hr
                obtain ⟨d', a, o, k1, k2, k3, k4, k5⟩ := O 0 (.obj C []) (by simp)
                simp at k1 k2
                subst k1 k2
                obtain ⟨R3, S3, E3⟩ := back_ok R2 P2 le (back1 St) (out1 O)
                refine ⟨hv, p1 _ F3 H3 R3 (S2.trans S3) (E1.trans (E2.trans E3)) ⟨⟨x, o, rfl, k3, k4, k5, ?_⟩, fun d' b z z' => by cases z'; exact S1.dm _ hx⟩⟩
                intro z
                obtain ⟨i, z1, z2⟩ := E3.oa z
                cases w : slotAt ρ2 i with
                | no => rw [w] at z1; exact z1
                | fz d => rw [w] at z1; exact z1
                | ow d => obtain ⟨b, u, g1, g2, g3, _⟩ := R2.ow i d (.inl w); rw [z2] at g1; cases g1; rw [hx] at g3; cases g3
                | pw d => obtain ⟨b, u, g1, g2, g3, _⟩ := R2.ow i d (.inr w); rw [z2] at g1; cases g1; rw [hx] at g3; cases g3
                | od d => rw [w] at z1; exact z1
              | _ => exact p1.elim
            | _ => exact p1.elim
end
end PV

set_option Elab.async false
set_option linter.all false
set_option maxRecDepth 100000
set_option maxHeartbeats 1000000
/-! PvG: stores, targets, statements without loops. -/
namespace PV
open PySem L2
/-- objects lent by the caller stay at their names -/
def PWk (ρ : Env) (σ : L2.St) (ρ' : Env) (σ' : L2.St) : Prop := ∀ i d, slotAt ρ i = .pw d → (∃ d', slotAt ρ' i = .pw d') ∧ σ'[i]? = σ[i]?
theorem PWk.refl (ρ : Env) (σ : L2.St) : PWk ρ σ ρ σ := fun _ d h => ⟨⟨d, h⟩, rfl⟩
theorem PWk.trans {ρ ρ1 ρ2 : Env} {σ σ1 σ2 : L2.St} (a : PWk ρ σ ρ1 σ1) (b : PWk ρ1 σ1 ρ2 σ2) : PWk ρ σ ρ2 σ2 := fun i d h => by
  obtain ⟨⟨d1, h1⟩, e1⟩ := a i d h
  obtain ⟨h2, e2⟩ := b i d1 h1
  exact ⟨h2, e2.trans e1⟩
theorem ES.pwk {ρ ρ' : Env} {σ : L2.St} (e : ES ρ ρ') : PWk ρ σ ρ' σ := fun i d h => ⟨e.pw i d h, rfl⟩
theorem setS_some {ρ ρ' : Env} {i : Nat} {s : Slot} (h : setS ρ i s = some ρ') : ρ' = ρ.set i s ∧ i < ρ.length ∧ ∀ d, slotAt ρ i ≠ .pw d := by
  unfold setS at h
  split at h
  · cases h
  · rename_i hn
    split at h
    · rename_i hi
      cases h
      exact ⟨rfl, hi, fun d e => hn d e⟩
    · cases h
section
variable {M : Nm} {H0 : Hp} {W : WX} {T : Tb}
/-- a name holds frozen data from now on -/
theorem Rel.setF {F H : Hp} {σ : L2.St} {ρ ρ' : Env} {i : Nat} {d : D} {v : V} (R : Rel M H0 F H σ ρ) (r : Rep M F d v) (h : setS ρ i (.fz d) = some ρ') :
    Rel M H0 F H (σ.set i (some v)) ρ' ∧ (∀ a, OA ρ' (σ.set i (some v)) a → OA ρ σ a) ∧ PWk ρ σ ρ' (σ.set i (some v)) := by
  obtain ⟨rfl, hi, hp⟩ := setS_some h
  have hs : i < σ.length := by rw [R.len]; exact hi
  have at' : ∀ j, slotAt (ρ.set i (.fz d)) j = if j = i then .fz d else slotAt ρ j := fun j => by
    rw [slotAt_set]; by_cases z : j = i <;> simp [z, hi]
  have own' : ∀ j, IsOwn (slotAt (ρ.set i (.fz d)) j) → j ≠ i ∧ IsOwn (slotAt ρ j) := fun j z => by
    rw [at'] at z
    by_cases w : j = i
    · rw [if_pos w] at z; exact z.elim
    · rw [if_neg w] at z; exact ⟨w, z⟩
  have ne : ∀ {j : Nat}, j ≠ i → (σ.set i (some v))[j]? = σ[j]? := fun {j} z => List.getElem?_set_ne (Ne.symm z)
  refine ⟨⟨R.sub, by simp [R.len], fun j e z => ?_, fun j e z => ?_, fun j k a z w y y' => ?_, fun j e a z y => ?_, R.dom, R.odr.step (Le.refl F) (MkS.refl F) (HkS.refl F H) fun j ks z => ⟨(od_set (fun _ y => by cases y) z).1, ne ((od_set (fun _ y => by cases y) z).2 hi)⟩⟩, fun a ⟨j, z, y⟩ => ?_, fun j e z => ?_⟩
  · rw [at'] at z
    by_cases w : j = i
    · rw [if_pos w] at z; cases z; subst w; exact ⟨v, List.getElem?_set_self hs, r⟩
    · rw [if_neg w] at z; rw [ne w]; exact R.fz j e z
  · rw [at'] at z
    by_cases w : j = i
    · rw [if_pos w] at z; rcases z with z | z <;> cases z
    · rw [if_neg w] at z; rw [ne w]; exact R.ow j e z
  · obtain ⟨z1, z2⟩ := own' j z
    obtain ⟨w1, w2⟩ := own' k w
    rw [ne z1] at y; rw [ne w1] at y'
    exact R.dist j k a z2 w2 y y'
  · rw [at'] at z
    by_cases w : j = i
    · rw [if_pos w] at z; cases z
    · rw [if_neg w] at z; rw [ne w] at y; exact R.new j e a z y
  · obtain ⟨z1, z2⟩ := own' j z
    rw [ne z1] at y
    exact ⟨j, z2, y⟩
  · have w : j ≠ i := by rintro rfl; exact hp e z
    rw [at', if_neg w, ne w]
    exact ⟨⟨e, z⟩, rfl⟩
/-- a name holds a new object from now on, its own -/
theorem Rel.setO {F H : Hp} {σ : L2.St} {ρ ρ' : Env} {i : Nat} {d : D} {a : Addr} {o : HO} (R : Rel M H0 F H σ ρ) (fa : F a = none) (ha : H a = some o) (r : RepTop M F d o) (na : ¬ OA ρ σ a) (h0 : H0 a = none) (h : setS ρ i (.ow d) = some ρ') :
    Rel M H0 F H (σ.set i (some (.ref a))) ρ' ∧ (∀ b, OA ρ' (σ.set i (some (.ref a))) b → OA ρ σ b ∨ b = a) ∧ PWk ρ σ ρ' (σ.set i (some (.ref a))) := by
  obtain ⟨rfl, hi, hp⟩ := setS_some h
  have hs : i < σ.length := by rw [R.len]; exact hi
  have at' : ∀ j, slotAt (ρ.set i (.ow d)) j = if j = i then .ow d else slotAt ρ j := fun j => by
    rw [slotAt_set]; by_cases z : j = i <;> simp [z, hi]
  have ne : ∀ {j : Nat}, j ≠ i → (σ.set i (some (V.ref a)))[j]? = σ[j]? := fun {j} z => List.getElem?_set_ne (Ne.symm z)
  have self : (σ.set i (some (V.ref a)))[i]? = some (some (.ref a)) := List.getElem?_set_self hs
  refine ⟨⟨R.sub, by simp [R.len], fun j e z => ?_, fun j e z => ?_, fun j k b z w y y' => ?_, fun j e b z y => ?_, R.dom, R.odr.step (Le.refl F) (MkS.refl F) (HkS.refl F H) fun j ks z => ⟨(od_set (fun _ y => by cases y) z).1, ne ((od_set (fun _ y => by cases y) z).2 hi)⟩⟩, fun b ⟨j, z, y⟩ => ?_, fun j e z => ?_⟩
  · rw [at'] at z
    by_cases w : j = i
    · rw [if_pos w] at z; cases z
    · rw [if_neg w] at z; rw [ne w]; exact R.fz j e z
  · rw [at'] at z
    by_cases w : j = i
    · rw [if_pos w] at z
      have : e = d := by rcases z with z | z <;> cases z; rfl
      subst this; subst w
      exact ⟨a, o, self, fa, ha, r⟩
    · rw [if_neg w] at z; rw [ne w]; exact R.ow j e z
  · rw [at'] at z w
    by_cases z1 : j = i
    · by_cases w1 : k = i
      · rw [z1, w1]
      · rw [if_neg w1] at w
        subst z1
        rw [self] at y; cases y
        rw [ne w1] at y'
        exact absurd ⟨k, w, y'⟩ na
    · rw [if_neg z1] at z
      rw [ne z1] at y
      by_cases w1 : k = i
      · subst w1
        rw [self] at y'; cases y'
        exact absurd ⟨j, z, y⟩ na
      · rw [if_neg w1] at w
        rw [ne w1] at y'
        exact R.dist j k b z w y y'
  · rw [at'] at z
    by_cases w : j = i
    · subst w; rw [self] at y; cases y; exact h0
    · rw [if_neg w] at z; rw [ne w] at y; exact R.new j e b z y
  · rw [at'] at z
    by_cases w : j = i
    · subst w; rw [self] at y; cases y; exact .inr rfl
    · rw [if_neg w] at z; rw [ne w] at y; exact .inl ⟨j, z, y⟩
  · have w : j ≠ i := by rintro rfl; exact hp e z
    rw [at', if_neg w, ne w]
    exact ⟨⟨e, z⟩, rfl⟩
theorem Stp.shrink {F H F' H' : Hp} {A A' A2 : Addr → Prop} (S : Stp F H A F' H' A') (h : ∀ a, A2 a → A' a) : Stp F H A F' H' A2 := ⟨S.le, S.fr, S.dm, S.nw, fun b z => S.ow b (h b z), S.mm⟩
/-- a value is stored -/
theorem store_okE {Fs Hs F H : Hp} {As : Addr → Prop} {σ : L2.St} {ρ ρ' : Env} {v : V} {x : Val} {i : Nat} {own : Bool} (R : Rel M H0 F H σ ρ) (S : Stp Fs Hs As F H (OA ρ σ)) (hd : ∀ a, Hs a = none → H0 a = none) (h : VOk M F H σ ρ v x) (hn : VNew Hs v x)
    (e : store ρ i own x = some ρ') : ∃ F', Rel M H0 F' H (σ.set i (some v)) ρ' ∧ Stp Fs Hs As F' H (OA ρ' (σ.set i (some v))) ∧ PWk ρ σ ρ' (σ.set i (some v)) ∧ Le F F' ∧ ∀ b, F b = none → F' b ≠ none → v = .ref b ∧ ((∃ d, x = .n d) ∨ OA ρ σ b) := by
  have plain : ∀ {ρ' : Env}, ((fr ρ x).bind fun p => setS p.2 i (.fz p.1)) = some ρ' → ∃ F', Rel M H0 F' H (σ.set i (some v)) ρ' ∧ Stp Fs Hs As F' H (OA ρ' (σ.set i (some v))) ∧ PWk ρ σ ρ' (σ.set i (some v)) ∧ Le F F' ∧ ∀ b, F b = none → F' b ≠ none → v = .ref b ∧ ((∃ d, x = .n d) ∨ OA ρ σ b) := fun {ρ'} e => by
    cases h1 : fr ρ x with
    | none => rw [h1] at e; cases e
    | some p =>
      obtain ⟨d, ρ1⟩ := p
      rw [h1] at e
      obtain ⟨F1, z⟩ := fr_ok R S h hn h1
      obtain ⟨R2, O2, P2⟩ := z.rel.setF z.rep e
      exact ⟨F1, R2, z.stp.shrink O2, z.es.pwk.trans P2, z.le, z.only⟩
  cases own with
  | false => exact plain e
  | true =>
    cases x with
    | t _ => first | rfl | exact h.elim | exact p.elim | exact p1.elim | exact p2.elim | exact p3.elim | (exact absurd e (by intro z; cases z)) | (cases e; done)
    | f d => exact plain e
    | v j => exact plain e
    | n d =>
      obtain ⟨a, o, rfl, e2, e3, e4, e5⟩ := h
      obtain ⟨R2, O2, P2⟩ := R.setO e2 e3 e4 e5 (hd a (hn d a rfl rfl)) (show setS ρ i (.ow d) = some ρ' from e)
      exact ⟨F, R2, ⟨S.le, S.fr, S.dm, S.nw, fun b z => (O2 b z).elim (S.ow b) fun y => by subst y; exact .inr (hn d _ rfl rfl), S.mm⟩, P2, Le.refl F, fun b z z' => absurd z z'⟩

/-! ### targets -/
/-- what a target stores to -/
def CT.slots : CT → List Nat
  | .nm i => [i] | .tp is => is | .tq is => is.flatten
def Only (js : List Nat) (σ σ' : L2.St) : Prop := σ'.length = σ.length ∧ ∀ j, j ∉ js → σ'[j]? = σ[j]?
theorem Only.refl (σ : L2.St) (js : List Nat) : Only js σ σ := ⟨rfl, fun _ _ => rfl⟩
theorem Only.set {i : Nat} {js : List Nat} {σ σ' : L2.St} {x : Option V} (h : Only js (σ.set i x) σ') : Only (i :: js) σ σ' := ⟨by rw [h.1, List.length_set], fun j hj => by
  rw [h.2 j fun z => hj (List.mem_cons_of_mem _ z)]
  exact List.getElem?_set_ne fun z => hj (by rw [z]; exact List.mem_cons_self)⟩
theorem Only.append {is js : List Nat} {σ σ1 σ2 : L2.St} (a : Only is σ σ1) (b : Only js σ1 σ2) : Only (is ++ js) σ σ2 := ⟨b.1.trans a.1, fun j hj => by
  rw [List.mem_append, not_or] at hj
  rw [b.2 j hj.2, a.2 j hj.1]⟩
def PostG (M : Nm) (H0 F H : Hp) (σ : L2.St) (ρ : Env) (js : List Nat) (r : Option Env) (Q : L2.St → Hp → Prop) : Prop := match r with
  | some ρ' => ∀ σ', Rel M H0 F H σ' ρ' → (∀ a, OA ρ' σ' a → OA ρ σ a) → PWk ρ σ ρ' σ' → Only js σ σ' → Q σ' H
  | none => False
def tG (M : Nm) (H0 : Hp) (t : CT) : TG := fun v σ H Q => ∃ F ρ d, Rel M H0 F H σ ρ ∧ Rep M F d v ∧ PostG M H0 F H σ ρ t.slots (tgt ρ t d) Q
theorem PG.imp {X : Cx} {e : Expr} {t t' : TG} (h : PG X e t) (i : ∀ v σ H Q, t' v σ H Q → t v σ H Q) : PG X e t' := ⟨fun pins s σ H v u Q I r q => h.run pins s σ H v u Q I r (i v σ H Q q)⟩
theorem i_nm {i : Nat} {v : V} {σ : L2.St} {H : Hp} {Q : L2.St → Hp → Prop} (h : tG M H0 (.nm i) v σ H Q) : gName i v σ H Q := by
  obtain ⟨F, ρ, d, R, r, p⟩ := h
  cases h1 : setS ρ i (.fz d) with
  | none => simp only [tgt, h1] at p; exact p.elim
  | some ρ' =>
    simp only [tgt, h1] at p
    obtain ⟨R2, O2, P2⟩ := R.setF r h1
    exact p _ R2 O2 P2 (Only.set (Only.refl _ _))
/-- names one after another -/
def gNames : List Nat → TGs
  | [] => gNil
  | i :: is => gCons (gName i) (gNames is)
theorem many_ok {F H : Hp} : ∀ {is : List Nat} {ds : List D} {vs : List V} {σ : L2.St} {ρ : Env} {Q : L2.St → Hp → Prop}, Rel M H0 F H σ ρ → Reps M F ds vs → PostG M H0 F H σ ρ is (setMany ρ is ds) Q → vs.length = is.length ∧ gNames is vs σ H Q
  | [], [], vs, σ, ρ, Q, R, r, p => by
    have e : vs = [] := r
    subst e
    exact ⟨rfl, rfl, p σ R (fun _ z => z) (PWk.refl _ _) (Only.refl _ _)⟩
  | [], d :: ds, vs, σ, ρ, Q, R, r, p => p.elim
  | i :: is, [], vs, σ, ρ, Q, R, r, p => p.elim
  | i :: is, d :: ds, vs, σ, ρ, Q, R, r, p => by
    obtain ⟨v, ws, rfl, r1, r2⟩ := r
    simp only [setMany] at p
    cases h1 : setS ρ i (.fz d) with
    | none => rw [h1] at p; exact p.elim
    | some ρ1 =>
      rw [h1] at p
      obtain ⟨R1, O1, P1⟩ := R.setF r1 h1
      have p' : PostG M H0 F H (σ.set i (some v)) ρ1 is (setMany ρ1 is ds) Q := by
        cases h2 : setMany ρ1 is ds with
        | none => simp only [Option.bind, h2] at p; exact p
        | some ρ2 =>
          simp only [Option.bind, h2] at p
          exact fun σ' R' O' P' N' => p σ' R' (fun a z => O1 a (O' a z)) (P1.trans P') N'.set
      obtain ⟨h3, h4⟩ := many_ok R1 r2 p'
      exact ⟨by simp [h3], v, ws, rfl, h4⟩
/-- (a, b, ..) = a tuple or a list of that length -/
def gSeq (K : PySem.W.Frag) (n : Nat) (t : TGs) : TG := fun v σ H Q => ∃ a xs, v = .ref a ∧ (SqT K H a xs ∨ SqL K H a xs) ∧ xs.length = n ∧ t xs σ H Q
theorem pg_seq {X : Cx} {es : List Expr} {k : Nat} {t : TGs} {n : Nat} {pos : Pos} (hc : X.calm = true) (h : PGs X es t)
    (hn : (assignEach es X.env).length = n := by rfl) (hst : (assignEach es X.env).findIdx? (·.1) = none := by rfl) : PG X (.Tuple es k pos) (gSeq X.K n t) := by
  refine ⟨fun pins s σ H v u Q I r hw => ?_⟩
  obtain ⟨a, xs, e1, hq, hl, hw⟩ := hw
  rcases hq with hq | hq
  · exact (pg_tup hc h hn hst).run pins s σ H v u Q I r ⟨a, xs, e1, hq, hl, hw⟩
  · subst e1
    cases r
    obtain ⟨its, rv, pl, hz⟩ := I.list hq
    have hsz : (assignEach es X.env).length = its.toArray.size := by simp [hn, ← hl, rv.length]
    rw [PyProof.Rows.assign_Tuple]
    refine wpAny_bind (wpAny_standAt ?_)
    unfold unpack
    rw [hsz, hst]
    refine wpAny_bind (wpAny_holding (PySem.W.kun_itemsOf (I.ok.hd hc) pl.isList fun h' hx => ?_))
    have I1 : Inv X pins σ H { s with heap := h' } := I.kept (t' := s.toks) fun b o e => hx b o (Nat.ne_of_lt (Heap.lt_size e)) e
    exact h.run pins _ σ H xs _ Q I1 (by simpa using rv) hw
theorem i_tp {is : List Nat} {v : V} {σ : L2.St} {H : Hp} {Q : L2.St → Hp → Prop} (h : tG M H0 (.tp is) v σ H Q) : gSeq M.K is.length (gNames is) v σ H Q := by
  obtain ⟨F, ρ, d, R, r, p⟩ := h
  cases d with
  | tup ds =>
    obtain ⟨a, vs, rfl, s, r⟩ := r
    obtain ⟨h1, h2⟩ := many_ok R r p
    exact ⟨a, vs, rfl, .inl (.inl (.inl (R.sub.t _ _ s)) : SqT M.K H a _), h1, h2⟩
  | lst ds =>
    obtain ⟨a, vs, rfl, s, r⟩ := r
    obtain ⟨h1, h2⟩ := many_ok R r p
    exact ⟨a, vs, rfl, .inr (.inl (R.sub.l a vs s)), h1, h2⟩
  | _ => exact p.elim
/-- a name, or names in brackets -/
def gQs (K : PySem.W.Frag) : List (List Nat) → TGs
  | [] => gNil
  | [i] :: r => gCons (gName i) (gQs K r)
  | is :: r => gCons (gTup K is.length (gNames is)) (gQs K r)
theorem setQ_two {ρ : Env} {js : List Nat} {is : List (List Nat)} {d : D} {ds : List D} (h : js.length ≠ 1) : setQ ρ (js :: is) (d :: ds) = match d with
    | .tup xs => (setMany ρ js xs).bind fun ρ1 => setQ ρ1 is ds
    | _ => none := by
  match js, h with
  | [], _ => cases d <;> rfl
  | [_], h => simp at h
  | a :: b :: r, _ => cases d <;> rfl
/-! ### statements -/
def RelS (M : Nm) (H0 F H : Hp) (σ : L2.St) (ρ : Env) (F' H' : Hp) (σ' : L2.St) (ρ' : Env) : Prop := Rel M H0 F' H' σ' ρ' ∧ StpW H0 F H (OA ρ σ) F' H' (OA ρ' σ') ∧ PWk ρ σ ρ' σ'
theorem RelS.refl {F H : Hp} {σ : L2.St} {ρ : Env} (R : Rel M H0 F H σ ρ) : RelS M H0 F H σ ρ F H σ ρ := ⟨R, StpW.refl _ _ _ _, PWk.refl _ _⟩
theorem RelS.trans {F H F1 H1 F2 H2 : Hp} {σ σ1 σ2 : L2.St} {ρ ρ1 ρ2 : Env} (a : RelS M H0 F H σ ρ F1 H1 σ1 ρ1) (b : RelS M H0 F1 H1 σ1 ρ1 F2 H2 σ2 ρ2) : RelS M H0 F H σ ρ F2 H2 σ2 ρ2 := ⟨b.1, a.2.1.trans b.2.1, a.2.2.trans b.2.2⟩
/-- what a def gives back -/
def RtOk (M : Nm) (H0 F H : Hp) (σ : L2.St) (ρ : Env) (v : V) : Val → Prop
  | .t xs => ∃ a vs, v = .ref a ∧ F a = none ∧ H a = some (.tup vs) ∧ VsOk M F H σ ρ vs (xs.map tv) ∧ VsNew H0 vs (xs.map tv)
  | x => VOk M F H σ ρ v x
theorem tv_not (p : Bool × D) (i : Nat) : tv p ≠ .v i := by
  obtain ⟨b, d⟩ := p
  cases b <;> (intro z; cases z)
/-- values of a tuple that is given back, elsewhere -/
theorem VsOk.lift {F H F' H' : Hp} {σ σ' : L2.St} {ρ ρ' : Env} (k : ∀ v x, (∀ i, x ≠ .v i) → VOk M F H σ ρ v x → VOk M F' H' σ' ρ' v x) : ∀ {vs : List V} {xs : List (Bool × D)}, VsOk M F H σ ρ vs (xs.map tv) → VsOk M F' H' σ' ρ' vs (xs.map tv)
  | [], _, h => h
  | v :: vs, [], ⟨_, _, e, _⟩ => by cases e
  | v :: vs, p :: xs, ⟨x, ys, e, h, r, n⟩ => by
    rw [List.map_cons] at e ⊢
    cases e
    exact ⟨_, _, rfl, k _ _ (tv_not p) h, VsOk.lift k r, n⟩
def PostS (M : Nm) (H0 : Hp) (W : WX) (F H : Hp) (σ : L2.St) (ρ : Env) (r : SOut) (D : Ends) : Prop := match r with
  | .nx ρ' => ∀ σ' F' H', RelS M H0 F H σ ρ F' H' σ' ρ' → D.nx σ' H'
  | .br ρ' => ∀ σ' F' H', RelS M H0 F H σ ρ F' H' σ' ρ' → D.bk σ' H'
  | .ct ρ' => ∀ σ' F' H', RelS M H0 F H σ ρ F' H' σ' ρ' → D.ct σ' H'
  | .rt x ρ' => ∀ σ' v F' H', RelS M H0 F H σ ρ F' H' σ' ρ' → RtOk M H0 F' H' σ' ρ' v x → VNew H0 v x → D.rt v H'
  | .exc e ρ' => ∀ cls d σ' F' H', RelS M H0 F H σ ρ F' H' σ' ρ' → XOk M F' H' e cls d → W cls d σ' H'
  | .bad => False
def tS (M : Nm) (H0 : Hp) (W : WX) (T : Tb) (c : CS) : TS := fun D σ H => ∃ F ρ, Rel M H0 F H σ ρ ∧ PostS M H0 W F H σ ρ (ex T c ρ) D
def tSs (M : Nm) (H0 : Hp) (W : WX) (T : Tb) (c : CSs) : TS := fun D σ H => ∃ F ρ, Rel M H0 F H σ ρ ∧ PostS M H0 W F H σ ρ (exs T c ρ) D
theorem PS.imp {X : Cx} {e : Stmt} {t t' : TS} (h : PS X e t) (i : ∀ D σ H, t' D σ H → t D σ H) : PS X e t' := ⟨fun pins s σ H D I q => h.run pins s σ H D I (i D σ H q)⟩
theorem PSs.imp {X : Cx} {e : List Stmt} {t t' : TS} (h : PSs X e t) (i : ∀ D σ H, t' D σ H → t D σ H) : PSs X e t' := ⟨fun pins s σ H D I q => h.run pins s σ H D I (i D σ H q)⟩
theorem PostS.shift {F H F1 H1 : Hp} {σ σ1 : L2.St} {ρ ρ1 : Env} {r : SOut} {D : Ends} (h : PostS M H0 W F H σ ρ r D) (S : RelS M H0 F H σ ρ F1 H1 σ1 ρ1) : PostS M H0 W F1 H1 σ1 ρ1 r D := by
  cases r with
  | nx ρ2 => exact fun σ' F' H' z => h σ' F' H' (S.trans z)
  | br ρ2 => exact fun σ' F' H' z => h σ' F' H' (S.trans z)
  | ct ρ2 => exact fun σ' F' H' z => h σ' F' H' (S.trans z)
  | rt x ρ2 => exact fun σ' v F' H' z => h σ' v F' H' (S.trans z)
  | exc e ρ2 => exact fun c d σ' F' H' z => h c d σ' F' H' (S.trans z)
  | bad => exact h
/-- an expression, then the rest of a statement -/
theorem toS_bind {α β : Type} {F H : Hp} {σ : L2.St} {ρ : Env} {VQ : Hp → Hp → Env → α → β → Prop} {r : Out α} {f : α → Env → SOut} {D : Ends} {Q1 : β → Hp → Prop} (h : PostS M H0 W F H σ ρ (r.toS f) D)
    (k : ∀ x ρ1 b F1 H1, Rel M H0 F1 H1 σ ρ1 → Stp F H (OA ρ σ) F1 H1 (OA ρ1 σ) → ES ρ ρ1 → VQ F1 H1 ρ1 x b → PostS M H0 W F H σ ρ (f x ρ1) D → Q1 b H1) : Post M H0 W F H σ ρ VQ r Q1 := by
  cases r with
  | ok x ρ1 => exact fun b F1 H1 R S E v => k x ρ1 b F1 H1 R S E v h
  | exc e ρ1 => exact fun c d F1 H1 R S E v => h c d σ F1 H1 ⟨R, S, E.pwk⟩ v
  | bad => exact h
theorem toS_bind2 {α β : Type} {F H F1 H1 : Hp} {σ : L2.St} {ρ ρ1 : Env} {VQ : Hp → Hp → Env → α → β → Prop} {r : Out α} {f : α → Env → SOut} {D : Ends} {Q1 : β → Hp → Prop} (h : PostS M H0 W F H σ ρ (r.toS f) D) (S : Stp F H (OA ρ σ) F1 H1 (OA ρ1 σ)) (E : ES ρ ρ1)
    (k : ∀ x ρ2 b F2 H2, Rel M H0 F2 H2 σ ρ2 → Stp F1 H1 (OA ρ1 σ) F2 H2 (OA ρ2 σ) → ES ρ1 ρ2 → VQ F2 H2 ρ2 x b → PostS M H0 W F H σ ρ (f x ρ2) D → Q1 b H2) : Post M H0 W F1 H1 σ ρ1 VQ r Q1 := by
  cases r with
  | ok x ρ1 => exact fun b F1 H1 R S E v => k x ρ1 b F1 H1 R S E v h
  | exc e ρ2 => exact fun c d F2 H2 R2 S2 E2 v => h c d σ F2 H2 ⟨R2, S.trans S2, (E.trans E2).pwk⟩ v
  | bad => exact h
theorem nxt_ok {F H F1 H1 : Hp} {σ σ1 : L2.St} {ρ ρ1 : Env} {D : Ends} (p : PostS M H0 W F H σ ρ (.nx ρ1) D) (S : RelS M H0 F H σ ρ F1 H1 σ1 ρ1) : D.nx σ1 H1 := p _ _ _ S
theorem i_asg {i : Nat} {own : Bool} {e : CE} {D : Ends} {σ : L2.St} {H : Hp} (h : tS M H0 W T (.asg (.nm i) own e) D σ H) : tAsg (tE M H0 W T e) (gName i) D σ H := by
  obtain ⟨F, ρ, R, p⟩ := h
  simp only [ex] at p
  refine ⟨F, ρ, R, toS_bind p fun x ρ1 v F1 H1 R1 S1 E1 V1 p1 => ?_⟩
  cases h1 : store ρ1 i own x with
  | none => rw [h1] at p1; exact p1.elim
  | some ρ2 =>
    rw [h1] at p1
    obtain ⟨F2, R2, S2, P2, _⟩ := store_okE R1 S1 R.dom V1.1 V1.2 h1
    exact p1 _ F2 H1 ⟨R2, S2, E1.pwk.trans P2⟩
theorem okD_ok {F H F1 H1 : Hp} {σ : L2.St} {ρ ρ1 ρ2 : Env} {v : V} {x : Val} {d : D} (R1 : Rel M H0 F1 H1 σ ρ1) (S1 : Stp F H (OA ρ σ) F1 H1 (OA ρ1 σ)) (V1 : VOk M F1 H1 σ ρ1 v x) (N1 : VNew H v x) (e : okD x ρ1 = .ok d ρ2) :
    ∃ F2, Rel M H0 F2 H1 σ ρ2 ∧ Stp F H (OA ρ σ) F2 H1 (OA ρ2 σ) ∧ ES ρ1 ρ2 ∧ Rep M F2 d v ∧ Le F1 F2 := by
  unfold okD at e
  cases h1 : fr ρ1 x with
  | none => rw [h1] at e; cases e
  | some p =>
    obtain ⟨d', ρ'⟩ := p
    rw [h1] at e; cases e
    obtain ⟨F2, z⟩ := fr_ok R1 S1 V1 N1 h1
    exact ⟨F2, z.rel, z.stp, z.es, z.rep, z.le⟩
theorem okD_cases (x : Val) (ρ : Env) : (∃ d ρ', okD x ρ = .ok d ρ') ∨ okD x ρ = .bad := by
  unfold okD
  cases fr ρ x with
  | none => exact .inr rfl
  | some p => exact .inl ⟨_, _, rfl⟩
theorem i_asgT {t : CT} (ht : ∀ i, t ≠ .nm i) {own : Bool} {e : CE} {D : Ends} {σ : L2.St} {H : Hp} (h : tS M H0 W T (.asg t own e) D σ H) : tAsg (tE M H0 W T e) (tG M H0 t) D σ H := by
  obtain ⟨F, ρ, R, p⟩ := h
  have e0 : ex T (.asg t own e) ρ = (ev T e ρ).toS fun v ρ1 => (okD v ρ1).toS fun d ρ2 => nxt (tgt ρ2 t d) := by
    cases t with
    | nm i => exact absurd rfl (ht i)
    | tp is => simp only [ex]
    | tq is => simp only [ex]
  rw [e0] at p
  refine ⟨F, ρ, R, toS_bind p fun x ρ1 v F1 H1 R1 S1 E1 V1 p1 => ?_⟩
  rcases okD_cases x ρ1 with ⟨d, ρ2, h1⟩ | h1
  · obtain ⟨F2, R2, S2, E2, r2, _⟩ := okD_ok R1 S1 V1.1 V1.2 h1
    rw [h1] at p1
    refine ⟨F2, ρ2, d, R2, r2, ?_⟩
    have p2 : PostS M H0 W F H σ ρ (nxt (tgt ρ2 t d)) D := p1
    cases h2 : tgt ρ2 t d with
    | none => rw [h2] at p2; exact p2
    | some ρ3 =>
      rw [h2] at p2
      exact fun σ' R' O' P' _ => p2 σ' F2 H1 ⟨R', S2.shrink O', (E1.trans E2).pwk.trans P'⟩
  · rw [h1] at p1; exact p1.elim
theorem i_exp {e : CE} {D : Ends} {σ : L2.St} {H : Hp} (h : tS M H0 W T (.exp e) D σ H) : tDrop (tE M H0 W T e) D σ H := by
  obtain ⟨F, ρ, R, p⟩ := h
  simp only [ex] at p
  exact ⟨F, ρ, R, toS_bind p fun x ρ1 v F1 H1 R1 S1 E1 V1 p1 => p1 σ F1 H1 ⟨R1, S1, E1.pwk⟩⟩
theorem i_snil {D : Ends} {σ : L2.St} {H : Hp} (h : tSs M H0 W T .nil D σ H) : tNext D σ H := by
  obtain ⟨F, ρ, R, p⟩ := h
  exact p σ F H (RelS.refl R)
theorem i_seq {s : CS} {ss : CSs} {D : Ends} {σ : L2.St} {H : Hp} (h : tSs M H0 W T (.cons s ss) D σ H) : tSeq (tS M H0 W T s) (tSs M H0 W T ss) D σ H := by
  obtain ⟨F, ρ, R, p⟩ := h
  simp only [exs] at p
  refine ⟨F, ρ, R, ?_⟩
  cases h1 : ex T s ρ with
  | nx ρ1 => rw [h1] at p; exact fun σ1 F1 H1 z => ⟨F1, ρ1, z.1, PostS.shift (show PostS M H0 W F H σ ρ (exs T ss ρ1) D from p) z⟩
  | br ρ1 => rw [h1] at p; exact p
  | ct ρ1 => rw [h1] at p; exact p
  | rt x ρ1 => rw [h1] at p; exact p
  | exc e ρ1 => rw [h1] at p; exact p
  | bad => rw [h1] at p; exact p
theorem ex_ifs {c : CE} {a b : CSs} {ρ : Env} : ex T (.ifs c a b) ρ = (okB (ev T c ρ)).toS fun k ρ1 => if k then exs T a ρ1 else exs T b ρ1 := by
  simp only [ex]
  cases ev T c ρ with
  | ok x ρ1 =>
    cases x with
    | t _ => first | rfl | exact h.elim | exact p.elim | exact p1.elim | exact p2.elim | exact p3.elim | (exact absurd e (by intro z; cases z)) | (cases e; done)
    | f d => cases d with
      | bl k => cases k <;> rfl
      | _ => rfl
    | n d => rfl
    | v i => rfl
  | exc e ρ1 => rfl
  | bad => rfl
theorem i_ifs {c : CE} {a b : CSs} {D : Ends} {σ : L2.St} {H : Hp} (h : tS M H0 W T (.ifs c a b) D σ H) : tIfS (tT M H0 W T c) (tSs M H0 W T a) (tSs M H0 W T b) D σ H := by
  obtain ⟨F, ρ, R, p⟩ := h
  rw [ex_ifs] at p
  refine ⟨F, ρ, R, ?_⟩
  refine toS_bind p fun x ρ1 k F1 H1 R1 S1 E1 V1 p1 => ?_
  subst V1
  cases x with
  | true => exact ⟨F1, ρ1, R1, PostS.shift p1 ⟨R1, S1, E1.pwk⟩⟩
  | false => exact ⟨F1, ρ1, R1, PostS.shift p1 ⟨R1, S1, E1.pwk⟩⟩
theorem i_ret {e : CE} {D : Ends} {σ : L2.St} {H : Hp} (h : tS M H0 W T (.ret e) D σ H) : tRet (tE M H0 W T e) D σ H := by
  obtain ⟨F, ρ, R, p⟩ := h
  simp only [ex] at p
  refine ⟨F, ρ, R, toS_bind p fun x ρ1 v F1 H1 R1 S1 E1 V1 p1 => ?_⟩
  have new0 : ∀ {y : Val}, VNew H v y → VNew H0 v y := fun h d a e e' => R.dom a (h d a e e')
  cases x with
  | t _ => exact V1.1.elim
  | f d => exact p1 σ v F1 H1 ⟨R1, S1, E1.pwk⟩ V1.1 (new0 V1.2)
  | n d => exact p1 σ v F1 H1 ⟨R1, S1, E1.pwk⟩ V1.1 (new0 V1.2)
  | v i =>
    cases q : slotAt ρ1 i with
    | no => simp only [q] at p1; exact p1.elim
    | pw d => simp only [q] at p1; exact p1.elim
    | od d => simp only [q] at p1; exact p1.elim
    | fz d =>
      simp only [q] at p1
      obtain ⟨w, h1, h2⟩ := R1.fz i d q
      obtain ⟨g1, _⟩ := V1.1
      rw [g1] at h1; cases h1
      exact p1 σ v F1 H1 ⟨R1, S1, E1.pwk⟩ h2 fun _ _ z => by cases z
    | ow d =>
      simp only [q] at p1
      obtain ⟨a, o, h1, h2, h3, h4⟩ := R1.ow i d (.inl q)
      obtain ⟨g1, _⟩ := V1.1
      rw [g1] at h1; cases h1
      have hi : i < ρ1.length := slotAt_lt (by rw [q]; intro z; cases z)
      have at' : ∀ j, slotAt (ρ1.set i .no) j = if j = i then .no else slotAt ρ1 j := fun j => by
        rw [slotAt_set]; by_cases z : j = i <;> simp [z, hi]
      have own' : ∀ j, IsOwn (slotAt (ρ1.set i .no) j) → j ≠ i ∧ IsOwn (slotAt ρ1 j) := fun j z => by
        rw [at'] at z
        by_cases w : j = i
        · rw [if_pos w] at z; exact z.elim
        · rw [if_neg w] at z; exact ⟨w, z⟩
      have sm : ∀ j s, s ≠ .no → slotAt (ρ1.set i .no) j = s → slotAt ρ1 j = s := fun j s n z => by
        rw [at'] at z
        by_cases w : j = i
        · rw [if_pos w] at z; exact absurd z.symm n
        · rw [if_neg w] at z; exact z
      have oa : ∀ b, OA (ρ1.set i .no) σ b → OA ρ1 σ b := fun b ⟨j, z, w⟩ => ⟨j, (own' j z).2, w⟩
      refine p1 σ _ F1 H1 ⟨⟨R1.sub, by rw [List.length_set]; exact R1.len, fun j d z => R1.fz j d (sm j _ (fun y => by cases y) z), fun j d z => R1.ow j d (z.imp (sm j _ (fun y => by cases y)) (sm j _ (fun y => by cases y))), fun j k b z w => R1.dist j k b (own' j z).2 (own' k w).2,
        fun j d b z => R1.new j d b (sm j _ (fun y => by cases y) z), R1.dom, R1.odr.step (Le.refl F1) (MkS.refl F1) (HkS.refl F1 H1) fun j ks z => ⟨(od_set (fun _ y => by cases y) z).1, rfl⟩⟩, S1.shrink oa, E1.pwk.trans fun j d z => ⟨⟨d, ?_⟩, rfl⟩⟩ ⟨a, o, rfl, h2, h3, h4, ?_⟩ fun d' b z z' => ?_
      · rw [at']
        have : j ≠ i := by rintro rfl; rw [q] at z; cases z
        rw [if_neg this]; exact z
      · rintro ⟨j, z, w⟩
        obtain ⟨z1, z2⟩ := own' j z
        exact z1 (R1.dist j i a z2 (by rw [q]; exact True.intro) w g1)
      · cases z'
        exact R1.new i d _ q g1
/-! ### return a, b: own things leave their slots -/
theorem Rel.drop {F H : Hp} {σ : L2.St} {ρ : Env} {i : Nat} {d : D} (R : Rel M H0 F H σ ρ) (q : slotAt ρ i = .ow d) :
    ∃ a o, σ[i]? = some (some (.ref a)) ∧ F a = none ∧ H a = some o ∧ RepTop M F d o ∧ H0 a = none ∧ Rel M H0 F H σ (ρ.set i .no) ∧ (∀ b, OA (ρ.set i .no) σ b → OA ρ σ b) ∧ ¬ OA (ρ.set i .no) σ a ∧ PWk ρ σ (ρ.set i .no) σ := by
  obtain ⟨a, o, g1, h2, h3, h4⟩ := R.ow i d (.inl q)
  have hi : i < ρ.length := slotAt_lt (by rw [q]; intro z; cases z)
  have at' : ∀ j, slotAt (ρ.set i .no) j = if j = i then .no else slotAt ρ j := fun j => by
    rw [slotAt_set]; by_cases z : j = i <;> simp [z, hi]
  have own' : ∀ j, IsOwn (slotAt (ρ.set i .no) j) → j ≠ i ∧ IsOwn (slotAt ρ j) := fun j z => by
    rw [at'] at z
    by_cases w : j = i
    · rw [if_pos w] at z; exact z.elim
    · rw [if_neg w] at z; exact ⟨w, z⟩
  have sm : ∀ j s, s ≠ .no → slotAt (ρ.set i .no) j = s → slotAt ρ j = s := fun j s n z => by
    rw [at'] at z
    by_cases w : j = i
    · rw [if_pos w] at z; exact absurd z.symm n
    · rw [if_neg w] at z; exact z
  have oa : ∀ b, OA (ρ.set i .no) σ b → OA ρ σ b := fun b ⟨j, z, w⟩ => ⟨j, (own' j z).2, w⟩
  refine ⟨a, o, g1, h2, h3, h4, R.new i d _ q g1, ⟨R.sub, by rw [List.length_set]; exact R.len, fun j d z => R.fz j d (sm j _ (fun y => by cases y) z), fun j d z => R.ow j d (z.imp (sm j _ (fun y => by cases y)) (sm j _ (fun y => by cases y))), fun j k b z w => R.dist j k b (own' j z).2 (own' k w).2,
        fun j d b z => R.new j d b (sm j _ (fun y => by cases y) z), R.dom, R.odr.step (Le.refl F) (MkS.refl F) (HkS.refl F H) fun j ks z => ⟨(od_set (fun _ y => by cases y) z).1, rfl⟩⟩, oa, ?_, fun j d z => ⟨⟨d, ?_⟩, rfl⟩⟩
  · rintro ⟨j, z, w⟩
    obtain ⟨z1, z2⟩ := own' j z
    exact z1 (R.dist j i a z2 (by rw [q]; exact True.intro) w g1)
  · rw [at']
    have : j ≠ i := by rintro rfl; rw [q] at z; cases z
    rw [if_neg this]; exact z
def WOk (M : Nm) (F H : Hp) (σ : L2.St) (ρ : Env) (v : V) : Val → Prop
  | .v j => σ[j]? = some (some v)
  | x => VOk M F H σ ρ v x
def WsOk (M : Nm) (F H : Hp) (σ : L2.St) (ρ : Env) : List V → List Val → Prop
  | [], xs => xs = []
  | v :: vs, xs => ∃ x ys, xs = x :: ys ∧ WOk M F H σ ρ v x ∧ WsOk M F H σ ρ vs ys ∧ ∀ w y, (w, y) ∈ vs.zip ys → ∀ d d', x = .n d → y = .n d' → w ≠ v
theorem WsOk.of {F H : Hp} {σ : L2.St} {ρ : Env} : ∀ {vs : List V} {xs : List Val}, VsOk M F H σ ρ vs xs → WsOk M F H σ ρ vs xs
  | [], _, h => h
  | v :: vs, _, ⟨x, ys, e, h, r, n⟩ => ⟨x, ys, e, by cases x <;> first | exact h | exact h.1, WsOk.of r, n⟩
theorem WsOk.sub {F H : Hp} {σ : L2.St} {ρ ρ' : Env} (k : ∀ a, OA ρ' σ a → OA ρ σ a) : ∀ {vs : List V} {xs : List Val}, WsOk M F H σ ρ vs xs → WsOk M F H σ ρ' vs xs
  | [], _, h => h
  | v :: vs, _, ⟨x, ys, e, h, r, n⟩ => ⟨x, ys, e, by
      cases x with
      | n d => obtain ⟨a, o, e1, e2, e3, e4, e5⟩ := h; exact ⟨a, o, e1, e2, e3, e4, fun z => e5 (k a z)⟩
      | _ => exact h, WsOk.sub k r, n⟩
theorem VsNew.up {Ha Hb : Hp} (k : ∀ a, Ha a = none → Hb a = none) : ∀ {vs : List V} {xs : List Val}, VsNew Ha vs xs → VsNew Hb vs xs
  | [], _, _ => by unfold VsNew; trivial
  | _ :: _, [], _ => by unfold VsNew; trivial
  | v :: vs, x :: xs, h => ⟨fun d a e e' => k a (h.1 d a e e'), VsNew.up k h.2⟩
end
end PV

set_option Elab.async false
set_option linter.all false
set_option maxRecDepth 100000
set_option maxHeartbeats 1000000
/-! PvH: own objects changed, parallel stores, while. -/
namespace PV
open PySem L2
section
variable {M : Nm} {H0 : Hp} {W : WX} {T : Tb}
theorem ownAt_some {ρ : Env} {i : Nat} {d : D} (h : ownAt ρ i = some d) : slotAt ρ i = .ow d ∨ slotAt ρ i = .pw d := by
  unfold ownAt at h
  cases q : slotAt ρ i with
  | ow e => rw [q] at h; cases h; exact .inl rfl
  | pw e => rw [q] at h; cases h; exact .inr rfl
  | _ => rw [q] at h; cases h
theorem putOwn_ok {F H : Hp} {σ : L2.St} {ρ ρ' : Env} {i : Nat} {d d' : D} (R : Rel M H0 F H σ ρ) (h : ownAt ρ i = some d) (e : putOwn ρ i d' = some ρ') : ∃ a o, σ[i]? = some (some (.ref a)) ∧ H a = some o ∧ RepTop M F d o ∧ ∀ o', RepTop M F d' o' →
    Rel M H0 F (upd H a o') σ ρ' ∧ Stp F H (OA ρ σ) F (upd H a o') (OA ρ' σ) ∧ ES ρ ρ' := by
  have hs := ownAt_some h
  obtain ⟨a, o, h1, h2, h3, h4⟩ := R.ow i d hs
  refine ⟨a, o, h1, h3, h4, fun o' r => ?_⟩
  have hi : i < ρ.length := slotAt_lt (by rcases hs with g | g <;> (rw [g]; intro z; cases z))
  have er : ρ' = ρ.set i (kindSet (slotAt ρ i) d') := by
    unfold putOwn at e
    rcases hs with g | g <;> (rw [g] at e; cases e; rw [g]; rfl)
  subst er
  have own_i : IsOwn (slotAt ρ i) := by rcases hs with g | g <;> (rw [g]; exact True.intro)
  have at' : ∀ j, slotAt (ρ.set i (kindSet (slotAt ρ i) d')) j = if j = i then kindSet (slotAt ρ i) d' else slotAt ρ j := fun j => by
    rw [slotAt_set]; by_cases z : j = i <;> simp [z, hi]
  have kd : kindSet (slotAt ρ i) d' = .ow d' ∨ kindSet (slotAt ρ i) d' = .pw d' := by rcases hs with g | g <;> (rw [g]; first | exact .inl rfl | exact .inr rfl)
  have own' : ∀ j, IsOwn (slotAt (ρ.set i (kindSet (slotAt ρ i) d')) j) → IsOwn (slotAt ρ j) := fun j z => by
    rw [at'] at z
    by_cases w : j = i
    · rw [w]; exact own_i
    · rw [if_neg w] at z; exact z
  have oa : ∀ b, OA (ρ.set i (kindSet (slotAt ρ i) d')) σ b → OA ρ σ b := fun b ⟨j, z, w⟩ => ⟨j, own' j z, w⟩
  refine ⟨⟨R.sub.mut h2, by rw [List.length_set]; exact R.len, fun j e z => ?_, fun j e z => ?_, fun j k b z w => R.dist j k b (own' j z) (own' k w), fun j e b z w => ?_, fun b z => ?_, R.odr.step (Le.refl F) (MkS.refl F) (HkS.mut h2) fun j ks z => ⟨(od_set (fun _ y => by rcases kd with k | k <;> (rw [k] at y; cases y)) z).1, rfl⟩⟩, ⟨Le.refl F, fun b u z n => ?_, fun b z => ?_, fun b z z' => absurd z z', fun b z => .inl (oa b z), MkS.refl F⟩, ⟨by rw [List.length_set], fun j e z => ?_, fun j e z => ?_, fun j e z => ?_, fun j z => ?_, fun j e z => ?_⟩⟩
  · rw [at'] at z
    by_cases w : j = i
    · rw [if_pos w] at z; rcases kd with k | k <;> (rw [k] at z; cases z)
    · rw [if_neg w] at z; exact R.fz j e z
  · rw [at'] at z
    by_cases w : j = i
    · rw [if_pos w] at z
      have ed : e = d' := by rcases kd with k | k <;> (rw [k] at z; rcases z with z | z <;> cases z <;> rfl)
      subst ed; subst w
      exact ⟨a, o', h1, h2, upd_same, r⟩
    · rw [if_neg w] at z
      obtain ⟨b, u, g1, g2, g3, g4⟩ := R.ow j e z
      have nb : b ≠ a := by
        rintro rfl
        exact w (R.dist j i b (by rcases z with z | z <;> (rw [z]; exact True.intro)) own_i g1 h1)
      exact ⟨b, u, g1, g2, by rw [upd_ne nb]; exact g3, g4⟩
  · rw [at'] at z
    by_cases y : j = i
    · subst y
      rw [if_pos rfl] at z
      rcases hs with g | g
      · exact R.new j d b g w
      · rw [g] at z; cases z
    · rw [if_neg y] at z; exact R.new j e b z w
  · have nb : b ≠ a := by rintro rfl; rw [upd_same] at z; cases z
    rw [upd_ne nb] at z; exact R.dom b z
  · have nb : b ≠ a := by rintro rfl; exact n ⟨i, own_i, h1⟩
    rw [upd_ne nb]; exact z
  · have nb : b ≠ a := by rintro rfl; rw [upd_same] at z; cases z
    rw [upd_ne nb] at z; exact z
  · have w : j ≠ i := by rintro rfl; rw [z] at own_i; exact own_i
    rw [at', if_neg w]; exact z
  · rw [at']
    by_cases w : j = i
    · subst w; rw [if_pos rfl, z]; exact ⟨d', .inl rfl⟩
    · rw [if_neg w]; exact ⟨e, .inl z⟩
  · rw [at']
    by_cases w : j = i
    · subst w; rw [if_pos rfl, z]; exact ⟨d', rfl⟩
    · rw [if_neg w]; exact ⟨e, z⟩
  · have w : j ≠ i := by rintro rfl; rw [z] at own_i; exact own_i
    rw [at', if_neg w]; exact z
  · have w : j ≠ i := by rintro rfl; rw [z] at own_i; exact own_i
    rw [at', if_neg w]; exact z
theorem putOwn_some {ρ : Env} {i : Nat} {d d' : D} (h : ownAt ρ i = some d) : ∃ ρ', putOwn ρ i d' = some ρ' := by
  unfold putOwn
  rcases ownAt_some h with g | g <;> (rw [g]; exact ⟨_, rfl⟩)
/-! ### methods that change a list -/
/-- what a change asks of the values: the reading of the method -/
def rMut (M : Nm) (o : MOp) : V → List V → Hp → VK → Prop := match o with
  | .append => rAppend | .pop => rPop | .popAt => rPopAt | .clear => rClear
  | .extend => fun x vs H Q => ∃ l b xs zs, x = .ref l ∧ vs = [.ref b] ∧ H l = some (.lst xs) ∧ Rd H b (.lst zs) ∧ xs.length + zs.length ≤ sizeLine ∧ Q .non (upd H l (.lst (xs ++ zs)))
theorem ixOf_seq {n : Nat} {i : Int} {k : Nat} (h : ixOf n i = some k) : seqIndex? i n = some k := (ixN_seq (show ixN n i = some k from h)).1
theorem small_63 {i : Int} (h : small i = true) : -(2 ^ 62) ≤ i ∧ i < 2 ^ 62 := by
  unfold small at h
  exact of_decide_eq_true h
theorem mut_ok {o : MOp} {F : Hp} {d d' r : D} {xs : List V} {ds : List D} {vs : List V} {H : Hp} {a : Addr} (l : Le F H) (e : mutD o d ds = some (r, d')) (ha : ∀ ob, H a = some ob → RepTop M F d ob → True) (hr : RepTop M F d (.lst xs)) (hx : H a = some (.lst xs))
    (hv : if o = .append then Reps M F ds vs else Paired (RT M F H) ds vs) {Q : VK} (k : ∀ v ob', Rep M F r v → RepTop M F d' ob' → Q v (upd H a ob')) : rMut M o (.ref a) vs H Q := by
  cases d with
  | lst es =>
    have hr : Reps M F es xs := hr
    have hl := hr.length
    have hL := LIM_line
    cases o with
    | append =>
      rw [if_pos rfl] at hv
      match ds, e with
      | [x], e =>
        simp only [mutD] at e
        split at e
        · rename_i hz
          cases e
          obtain ⟨v, ws, rfl, h1, h2⟩ := hv
          have h2 : ws = [] := h2
          subst h2
          exact ⟨a, xs, v, rfl, rfl, hx, by omega, k .non (.lst (xs ++ [v])) rfl (hr.append ⟨v, [], rfl, h1, rfl⟩)⟩
        · cases e
    | extend =>
      rw [if_neg (by decide)] at hv
      match ds, e with
      | [.lst ys], e =>
        simp only [mutD] at e
        split at e
        · rename_i hz
          cases e
          cases hv with
          | cons g t =>
            cases t
            obtain ⟨b, zs, rfl, s, r2⟩ := g.lstR l
            exact ⟨a, b, xs, zs, rfl, rfl, hx, s, by have := r2.length; omega, k .non (.lst (xs ++ zs)) rfl (hr.append r2)⟩
        · cases e
    | pop =>
      rw [if_neg (by decide)] at hv
      match ds, e with
      | [], e =>
        cases hv
        simp only [mutD] at e
        obtain ⟨x, h1, h2⟩ := Option.map_eq_some_iff.mp e
        cases h2
        obtain ⟨v, h3, h4⟩ := hr.at h1
        exact ⟨a, xs, v, rfl, rfl, hx, by rw [← hl]; exact h3, k v (.lst xs.dropLast) h4 hr.dropLast⟩
    | popAt =>
      rw [if_neg (by decide)] at hv
      match ds, e with
      | [.int i], e =>
        simp only [mutD] at e
        split at e
        · rename_i hs
          cases h0 : ixOf es.length i with
          | none => rw [h0] at e; cases e
          | some m =>
            rw [h0] at e
            obtain ⟨x, h1, h2⟩ := Option.map_eq_some_iff.mp (show (es[m]?).map (fun x => (x, D.lst (es.eraseIdx m))) = some (r, d') from e)
            cases h2
            cases hv with
            | cons g t =>
              cases t
              have g := g.int
              subst g
              obtain ⟨v, h3, h4⟩ := hr.at h1
              obtain ⟨s1, s2⟩ := small_63 hs
              exact ⟨a, xs, i, m, v, rfl, rfl, hx, by omega, by omega, by rw [← hl]; exact ixOf_seq h0, h3, k v (.lst (xs.eraseIdx m)) h4 (hr.erase m)⟩
        · cases e
    | clear =>
      rw [if_neg (by decide)] at hv
      match ds, e with
      | [], e =>
        cases hv
        simp only [mutD] at e
        cases e
        exact ⟨a, xs, rfl, rfl, hx, k .non (.lst []) rfl (show Reps M F [] [] from Reps.nil)⟩
  | _ => cases o <;> (simp [mutD] at e)
theorem i_mut {o : MOp} {i : Nat} {es : CEs} {σ : L2.St} {H : Hp} {Q : VK} (h : tE M H0 W T (.mut o i es) σ H Q) : tBM M.K "list" (rMut M o) (tVar i) (tA M H0 W T es) σ H Q := by
  obtain ⟨F, ρ, R, p⟩ := h
  simp only [ev] at p
  cases h0 : ownAt ρ i with
  | none => simp only [h0] at p; exact p.elim
  | some d0 =>
    cases d0 with
    | lst ds0 =>
      simp only [h0] at p
      obtain ⟨a0, o0, q1, q2, q3, q4⟩ := R.ow i _ (ownAt_some h0)
      refine ⟨.ref a0, q1, ?_, F, ρ, R, Post.bind p fun xs ρ1 vs F1 H1 R1 S1 E1 V1 p1 => ?_⟩
      · cases o0 <;> first | exact q4.elim | exact .inl ⟨rfl, _, .inl (.inl q3)⟩
      -- the arguments, read or frozen
      have arg : ∀ {ds : List D} {ρ2 : Env}, (if o = .append then frs ρ1 xs else (rds ρ1 xs).map fun ds => (ds, ρ1)) = some (ds, ρ2) →
          ∃ F2, Rel M H0 F2 H1 σ ρ2 ∧ Stp F H (OA ρ σ) F2 H1 (OA ρ2 σ) ∧ ES ρ1 ρ2 ∧ (if o = .append then Reps M F2 ds vs else Paired (RT M F2 H1) ds vs) := fun {ds ρ2} e => by
        by_cases ho : o = .append
        · rw [if_pos ho] at e
          obtain ⟨F2, R2, S2, E2, P2, _, _⟩ := frs_ok R1 S1 V1.1 V1.2 e
          exact ⟨F2, R2, S2, E2, by rw [if_pos ho]; exact P2⟩
        · rw [if_neg ho] at e
          obtain ⟨ds', h1, h2⟩ := Option.map_eq_some_iff.mp e
          cases h2
          exact ⟨F1, R1, S1, ES.refl _, by rw [if_neg ho]; exact V1.1.rts R1 h1⟩
      cases h1 : (if o = .append then frs ρ1 xs else (rds ρ1 xs).map fun ds => (ds, ρ1)) with
      | none => simp only [h1] at p1; exact p1.elim
      | some q =>
        obtain ⟨ds, ρ2⟩ := q
        simp only [h1] at p1
        obtain ⟨F2, R2, S2, E2, A2⟩ := arg h1
        cases h2 : ownAt ρ2 i with
        | none => simp only [h2, Option.bind] at p1; exact p1.elim
        | some d =>
          simp only [h2, Option.bind] at p1
          cases h3 : mutD o d ds with
          | none => simp only [h3] at p1; exact p1.elim
          | some q =>
            obtain ⟨r, d'⟩ := q
            simp only [h3] at p1
            obtain ⟨ρ3, h4⟩ := putOwn_some (d' := d') h2
            simp only [h4] at p1
            obtain ⟨a, ob, g1, g2, g3, g4⟩ := putOwn_ok R2 h2 h4
            rw [q1] at g1; cases g1
            have isl : ∃ us, ob = .lst us := by
              cases d with
              | lst es => cases ob <;> first | exact g3.elim | exact ⟨_, rfl⟩
              | _ => cases o <;> (simp [mutD] at h3)
            obtain ⟨us, rfl⟩ := isl
            refine mut_ok R2.sub h3 (fun _ _ _ => True.intro) g3 g2 A2 fun v ob' k1 k2 => ?_
            obtain ⟨R3, S3, E3⟩ := g4 ob' k2
            exact p1 v F2 _ R3 (S2.trans S3) (E1.trans (E2.trans E3)) ⟨k1, fun _ _ z => by cases z⟩
    | _ => simp only [h0] at p; exact p.elim
theorem own_slot {F H : Hp} {σ : L2.St} {ρ : Env} {i : Nat} (R : Rel M H0 F H σ ρ) (h : (ownAt ρ i).isSome = true) : ∃ v, σ[i]? = some (some v) := by
  cases q : ownAt ρ i with
  | none => rw [q] at h; cases h
  | some d => obtain ⟨a, o, h1, _⟩ := R.ow i d (ownAt_some q); exact ⟨_, h1⟩
/-! ### x[k] = e -/
def rSet (M : Nm) : TSet := fun o i v H Q => ∃ F a ob d k e d', o = .ref a ∧ Le F H ∧ H a = some ob ∧ RepTop M F d ob ∧ RT M F H k i ∧ Rep M F e v ∧ setD d k e = some d' ∧ ∀ ob', RepTop M F d' ob' → Q (upd H a ob')
theorem i_sset {i : Nat} {k e : CE} {D : Ends} {σ : L2.St} {H : Hp} (h : tS M H0 W T (.sset i k e) D σ H) : tAsg (tE M H0 W T e) (gSub (tVar i) (tE M H0 W T k) (rSet M)) D σ H := by
  obtain ⟨F, ρ, R, p⟩ := h
  simp only [ex] at p
  by_cases hs : (ownAt ρ i).isSome = true
  case neg => rw [if_neg hs] at p; exact p.elim
  rw [if_pos hs] at p
  obtain ⟨v0, hv⟩ := own_slot R hs
  refine ⟨F, ρ, R, toS_bind p fun x ρ1 v F1 H1 R1 S1 E1 V1 p1 => ⟨v0, hv, F1, ρ1, R1, toS_bind2 p1 S1 E1 fun y ρ2 w F2 H2 R2 S2 E2 V2 p2 => ?_⟩⟩
  cases h1 : rd ρ2 y with
  | none => simp only [h1] at p2; exact p2.elim
  | some kd =>
    cases h2 : fr ρ2 x with
    | none => simp only [h1, h2] at p2; exact p2.elim
    | some q =>
      obtain ⟨d, ρ3⟩ := q
      simp only [h1, h2] at p2
      have key := V2.1.rt R2 h1
      obtain ⟨F3, z⟩ := fr_ok R2 (S1.trans S2) (V1.1.step S2 E2) V1.2 h2
      cases h3 : ownAt ρ3 i with
      | none => simp only [h3, Option.bind] at p2; exact p2.elim
      | some o =>
        cases h4 : setD o kd d with
        | none => simp only [h3, h4, Option.bind] at p2; exact p2.elim
        | some o' =>
          obtain ⟨ρ4, h5⟩ := putOwn_some (d' := o') h3
          simp only [h3, h4, h5, Option.bind] at p2
          obtain ⟨a, ob, g1, g2, g3, g4⟩ := putOwn_ok z.rel h3 h5
          rw [hv] at g1; cases g1
          refine ⟨F3, a, ob, o, kd, d, o', rfl, z.rel.sub, g2, g3, key.mono z.le, z.rep, h4, fun ob' k2 => ?_⟩
          obtain ⟨R3, S3, E3⟩ := g4 ob' k2
          exact p2 σ F3 _ ⟨R3, z.stp.trans S3, (E1.trans (E2.trans (z.es.trans E3))).pwk⟩
/-! ### e.f = v -/
theorem setF_rep {F : Hp} {a : Nat} {d : D} {v : V} (inj : ∀ a b, M.an a = M.an b → a = b) (r : Rep M F d v) : ∀ {fs : List (Nat × D)} {ws : List (Str × V)}, RepA M F fs ws → RepA M F (setF a d fs) (putF (M.an a) v ws)
  | [], _, h => by
    have h : _ = [] := h
    subst h
    exact ⟨v, [], rfl, r, rfl⟩
  | (k, x) :: fs, _, ⟨w, us, e, h1, h2⟩ => by
    subst e
    by_cases hk : k = a
    · subst hk
      simp only [setF, if_true, putF]
      exact ⟨v, us, rfl, r, h2⟩
    · have hn : M.an k ≠ M.an a := fun z => hk (inj _ _ z)
      simp only [setF, if_neg hk, putF, if_neg hn]
      exact ⟨w, _, rfl, h1, setF_rep inj r h2⟩
theorem i_fset (kt : Kt M T) {i a : Nat} {e : CE} {D : Ends} {σ : L2.St} {H : Hp} (h : tS M H0 W T (.fset i a e) D σ H) : sFld M.K (tVar i) (tE M H0 W T e) (M.an a) D σ H := by
  obtain ⟨F, ρ, R, p⟩ := h
  simp only [ex] at p
  by_cases hs : (ownAt ρ i).isSome = true
  case neg => rw [if_neg hs] at p; exact p.elim
  rw [if_pos hs] at p
  obtain ⟨v0, hv⟩ := own_slot R hs
  refine ⟨F, ρ, R, toS_bind p fun x ρ1 v F1 H1 R1 S1 E1 V1 p1 => ⟨v0, hv, ?_⟩⟩
  rcases okD_cases x ρ1 with ⟨d, ρ2, h1⟩ | h1
  · obtain ⟨F2, R2, S2, E2, r2, _⟩ := okD_ok R1 S1 V1.1 V1.2 h1
    rw [h1] at p1
    simp only [Out.toS] at p1
    cases h2 : ownAt ρ2 i with
    | none => simp only [h2] at p1; exact p1.elim
    | some o =>
      cases o with
      | obj C fs =>
        simp only [h2] at p1
        by_cases hc : (decide (fs.length < 1000) && T.fl C a) = true
        · rw [if_pos hc] at p1
          rw [Bool.and_eq_true, decide_eq_true_eq] at hc
          obtain ⟨ρ4, h5⟩ := putOwn_some (d' := .obj C (setF a d fs)) h2
          rw [h5] at p1
          obtain ⟨b, ob, g1, g2, g3, g4⟩ := putOwn_ok R2 h2 h5
          rw [hv] at g1; cases g1
          cases ob with
          | ins A dx ws =>
            obtain ⟨rfl, g3⟩ := g3
            obtain ⟨k1, k2⟩ := kt.cls C a hc.2
            have hl : ∀ {fs : List (Nat × PV.D)} {ws : List (Str × V)}, RepA M F2 fs ws → fs.length = ws.length := by
              intro fs
              induction fs with
              | nil => intro ws h; have h : ws = [] := h; subst h; rfl
              | cons x fs ih => rintro ws ⟨w, us, e, _, h2⟩; subst e; simp [ih h2]
            refine ⟨b, _, dx, ws, rfl, g2, k1, k2, by rw [← hl g3]; exact hc.1, ?_⟩
            obtain ⟨R3, S3, E3⟩ := g4 (.ins (M.cl C) dx (putF (M.an a) v ws)) ⟨rfl, setF_rep kt.inj r2 g3⟩
            exact p1 σ F2 _ ⟨R3, S2.trans S3, (E1.trans (E2.trans E3)).pwk⟩
          | _ => exact g3.elim
        · rw [if_neg hc] at p1; exact p1.elim
      | _ => simp only [h2] at p1; exact p1.elim
  · rw [h1] at p1; exact p1.elim
/-! ### x op= e -/
theorem i_aug {i : Nat} {o : Op} {e : CE} {D : Ends} {σ : L2.St} {H : Hp} (h : tS M H0 W T (.aug i o e) D σ H) : tAug i (tE M H0 W T e) (rO2 M (opAug o)) D σ H := by
  obtain ⟨F, ρ, R, p⟩ := h
  simp only [ex] at p
  cases h0 : slotAt ρ i with
  | fz d0 =>
    simp only [h0] at p
    obtain ⟨v0, q1, q2⟩ := R.fz i d0 h0
    refine ⟨v0, q1, F, ρ, R, toS_bind p fun x ρ1 v F1 H1 R1 S1 E1 V1 p1 => ?_⟩
    cases h1 : rd ρ1 x with
    | none => simp only [h1, Option.bind] at p1; exact p1.elim
    | some y =>
      simp only [h1, Option.bind] at p1
      cases h2 : opAug o d0 y with
      | none => simp only [h2] at p1; exact p1.elim
      | some r =>
        simp only [h2] at p1
        cases r with
        | f d =>
          refine ⟨F1, d0, y, _, R1.sub, .inl (Rep.mono S1.le _ _ q2), V1.1.rt R1 h1, h2, fun z F2 H2 op => ?_⟩
          obtain ⟨R2, S2, v2, _⟩ := OpPost.rel R1 op
          dsimp only at p1
          cases h3 : setS ρ1 i (.fz d) with
          | none => rw [h3] at p1; exact p1.elim
          | some ρ2 =>
            rw [h3] at p1
            obtain ⟨R3, O3, P3⟩ := R2.setF v2 h3
            exact p1 _ F2 H2 ⟨R3, (S1.trans S2).shrink O3, E1.pwk.trans P3⟩
        | _ => exact p1.elim
  | _ => simp only [h0] at p; exact p.elim
/-! ### a, b = x, y -/
/-- values none of which is a slot's -/
def NoV : List Val → Prop
  | [] => True
  | .v _ :: _ => False
  | _ :: r => NoV r
theorem prep_ok {Fs Hs H : Hp} {As : Addr → Prop} {σ : L2.St} : ∀ {xs : List Val} {vs : List V} {k : List Bool} {F : Hp} {ρ ρ' : Env} {ys : List Val}, Rel M H0 F H σ ρ → Stp Fs Hs As F H (OA ρ σ) → VsOk M F H σ ρ vs xs → VsNew Hs vs xs → prep ρ k xs = some (ys, ρ') →
    ∃ F', Rel M H0 F' H σ ρ' ∧ Stp Fs Hs As F' H (OA ρ' σ) ∧ ES ρ ρ' ∧ Le F F' ∧ VsOk M F' H σ ρ' vs ys ∧ VsNew Hs vs ys ∧ NoV ys ∧ (∀ b, F b = none → F' b ≠ none → ∃ x, (V.ref b, x) ∈ vs.zip xs ∧ ((∃ d, x = .n d) ∨ OA ρ σ b)) ∧ ∀ w d, (w, Val.n d) ∈ vs.zip ys → (w, Val.n d) ∈ vs.zip xs
  | [], vs, k, F, ρ, ρ', ys, R, S, h, _, e => by
    cases vs with
    | cons v vs => obtain ⟨x, ys, q, _⟩ := h; cases q
    | nil =>
      unfold prep at e; cases e
      exact ⟨F, R, S, ES.refl _, Le.refl _, rfl, by unfold VsNew; trivial, True.intro, fun b z z' => absurd z z', fun w d m => by simp at m⟩
  | x :: xs, vs, k, F, ρ, ρ', ys, R, S, h, hn, e => by
    cases vs with
    | nil => cases h
    | cons v vs =>
    obtain ⟨x', ys', q, h, r, n⟩ := h
    cases q
    obtain ⟨hn1, hn2⟩ := hn
    have frozen : ∀ {d : PV.D} {ρ1 : Env}, fr ρ x = some (d, ρ1) → (prep ρ1 k.tail xs).map (fun p => (Val.f d :: p.1, p.2)) = some (ys, ρ') →
        ∃ F', Rel M H0 F' H σ ρ' ∧ Stp Fs Hs As F' H (OA ρ' σ) ∧ ES ρ ρ' ∧ Le F F' ∧ VsOk M F' H σ ρ' (v :: vs) ys ∧ VsNew Hs (v :: vs) ys ∧ NoV ys ∧ (∀ b, F b = none → F' b ≠ none → ∃ y, (V.ref b, y) ∈ (v :: vs).zip (x :: xs) ∧ ((∃ d, y = .n d) ∨ OA ρ σ b)) ∧ ∀ w d, (w, Val.n d) ∈ (v :: vs).zip ys → (w, Val.n d) ∈ (v :: vs).zip (x :: xs) := fun {d ρ1} h1 h2 => by
      obtain ⟨⟨zs, ρ2⟩, h3, h4⟩ := Option.map_eq_some_iff.mp h2
      cases h4
      obtain ⟨F1, z⟩ := fr_ok R S h hn1 h1
      have keep : ∀ {vs : List V} {ys : List Val}, VsOk M F H σ ρ vs ys → (∀ w y, (w, y) ∈ vs.zip ys → ∀ d d', x = .n d → y = .n d' → w ≠ v) → VsOk M F1 H σ ρ1 vs ys := by
        intro vs
        induction vs with
        | nil => intro ys h _; exact h
        | cons w vs ih =>
          rintro ys ⟨y, ys', rfl, g, gr, gn⟩ m
          exact ⟨y, ys', rfl, z.keep g (fun d d' e e' => m w y (by simp) d d' e e'), ih gr (fun w' y' hm => m w' y' (by simp [hm])), gn⟩
      obtain ⟨F2, R2, S2, E2, L2, V2, N2, O2, Z2, M2⟩ := prep_ok z.rel z.stp (keep r n) hn2 h3
      refine ⟨F2, R2, S2, z.es.trans E2, z.le.trans L2, ⟨.f d, zs, rfl, Rep.mono L2 _ _ z.rep, V2, fun _ _ _ _ _ q => by cases q⟩, ⟨fun _ _ q => (by cases q), N2⟩, O2, fun b zb zb' => ?_, fun w d m => ?_⟩
      · by_cases q : F1 b = none
        · obtain ⟨y, m, c⟩ := Z2 b q zb'
          exact ⟨y, by simp [m], c.imp id fun w => z.es.oa w⟩
        · obtain ⟨e1, c⟩ := z.only b zb q
          exact ⟨x, by simp [e1], c⟩
      · simp at m
        simp [M2 w d m]
    have kept : ∀ {d : PV.D}, x = .n d → (prep ρ k.tail xs).map (fun p => (Val.n d :: p.1, p.2)) = some (ys, ρ') →
        ∃ F', Rel M H0 F' H σ ρ' ∧ Stp Fs Hs As F' H (OA ρ' σ) ∧ ES ρ ρ' ∧ Le F F' ∧ VsOk M F' H σ ρ' (v :: vs) ys ∧ VsNew Hs (v :: vs) ys ∧ NoV ys ∧ (∀ b, F b = none → F' b ≠ none → ∃ y, (V.ref b, y) ∈ (v :: vs).zip (x :: xs) ∧ ((∃ d, y = .n d) ∨ OA ρ σ b)) ∧ ∀ w d, (w, Val.n d) ∈ (v :: vs).zip ys → (w, Val.n d) ∈ (v :: vs).zip (x :: xs) := fun {d} hx h2 => by
      obtain ⟨⟨zs, ρ2⟩, h3, h4⟩ := Option.map_eq_some_iff.mp h2
      cases h4
      subst hx
      obtain ⟨F2, R2, S2, E2, L2, V2, N2, O2, Z2, M2⟩ := prep_ok R S r hn2 h3
      obtain ⟨a, o, rfl, e2, e3, e4, e5⟩ := h
      have fa : F2 a = none := by
        cases q : F2 a with
        | none => rfl
        | some u =>
          exfalso
          obtain ⟨y, m, c⟩ := Z2 a e2 (by rw [q]; intro z; cases z)
          rcases c with ⟨d', c⟩ | c
          · exact n _ y m d d' rfl c rfl
          · exact e5 c
      refine ⟨F2, R2, S2, E2, L2, ⟨.n d, zs, rfl, ⟨a, o, rfl, fa, e3, e4.mono L2, fun q => e5 (E2.oa q)⟩, V2, fun w y m d1 d2 q q' => ?_⟩, ⟨hn1, N2⟩, O2, fun b zb zb' => ?_, fun w d m => ?_⟩
      · subst q'
        exact n w _ (M2 w d2 m) d d2 rfl rfl
      · obtain ⟨y, m, c⟩ := Z2 b zb zb'
        exact ⟨y, by simp [m], c⟩
      · simp at m
        rcases m with ⟨rfl, rfl⟩ | m
        · simp
        · simp [M2 w d m]
    cases x with
    | t _ => first | rfl | exact h.elim | exact p.elim | exact p1.elim | exact p2.elim | exact p3.elim | (exact absurd e (by intro z; cases z)) | (cases e; done)
    | n d =>
      unfold prep at e
      split at e
      · exact kept rfl e
      · exact frozen rfl e
    | f d =>
      unfold prep at e
      exact frozen rfl e
    | v i =>
      unfold prep at e
      cases h1 : fr ρ (.v i) with
      | none => rw [h1] at e; cases e
      | some p => rw [h1] at e; exact frozen h1 e
theorem memV {F H : Hp} {σ : L2.St} {ρ : Env} : ∀ {vs : List V} {ys : List Val} {w : V} {y : Val}, VsOk M F H σ ρ vs ys → (w, y) ∈ vs.zip ys → VOk M F H σ ρ w y
  | [], _, _, _, _, m => by simp at m
  | v :: vs, _, w, y, ⟨x, ys, q, h, r, n⟩, m => by
    subst q
    simp at m
    rcases m with ⟨rfl, rfl⟩ | m
    · exact h
    · exact memV r m
/-- values one after another into names -/
def putAllV : L2.St → List Nat → List V → L2.St
  | σ, i :: is, v :: vs => putAllV (σ.set i (some v)) is vs
  | σ, _, _ => σ
theorem storeAll_ok {Fs Hs H : Hp} {As : Addr → Prop} (hd : ∀ a, Hs a = none → H0 a = none) : ∀ {is : List Nat} {ys : List Val} {vs : List V} {F : Hp} {σ : L2.St} {ρ ρ' : Env}, Rel M H0 F H σ ρ → Stp Fs Hs As F H (OA ρ σ) → VsOk M F H σ ρ vs ys → VsNew Hs vs ys → NoV ys → storeAll ρ is ys = some ρ' →
    Rel M H0 F H (putAllV σ is vs) ρ' ∧ Stp Fs Hs As F H (OA ρ' (putAllV σ is vs)) ∧ PWk ρ σ ρ' (putAllV σ is vs) ∧ vs.length = is.length
  | [], [], vs, F, σ, ρ, ρ', R, S, V, N, O, e => by
    cases vs with
    | cons v vs => obtain ⟨_, _, q, _⟩ := V; cases q
    | nil => cases e; exact ⟨R, S, PWk.refl _ _, rfl⟩
  | [], _ :: _, vs, F, σ, ρ, ρ', R, S, V, N, O, e => by cases e
  | _ :: _, [], vs, F, σ, ρ, ρ', R, S, V, N, O, e => by cases e
  | i :: is, y :: ys, vs, F, σ, ρ, ρ', R, S, V, N, O, e => by
    cases vs with
    | nil => cases V
    | cons v vs =>
    obtain ⟨y', ys', q, h, r, n⟩ := V
    cases q
    obtain ⟨N1, N2⟩ := N
    simp only [storeAll] at e
    cases h1 : put1 ρ i y with
    | none => rw [h1] at e; cases e
    | some ρ1 =>
      rw [h1] at e
      -- the rest stands
      have rest : ∀ {vs : List V} {ys : List Val}, VsOk M F H σ ρ vs ys → NoV ys → (∀ w x, (w, x) ∈ vs.zip ys → ∀ d, x = .n d → ∀ a, w = .ref a → ¬ OA ρ1 (σ.set i (some v)) a) → VsOk M F H (σ.set i (some v)) ρ1 vs ys := by
        intro vs
        induction vs with
        | nil => intro ys h _ _; exact h
        | cons w vs ih =>
          rintro ys ⟨y, ys', rfl, g, gr, gn⟩ o m
          have o' : NoV ys' := by cases y <;> first | exact o | exact o.elim
          refine ⟨y, ys', rfl, ?_, ih gr o' (fun w' y' hm => m w' y' (by simp [hm])), gn⟩
          cases y with
          | t _ => exact g.elim
          | f d => exact g
          | v j => exact o.elim
          | n d =>
            obtain ⟨a, ob, rfl, e2, e3, e4, e5⟩ := g
            exact ⟨a, ob, rfl, e2, e3, e4, m _ _ (by simp) d rfl a rfl⟩
      have o' : NoV ys := by cases y <;> first | exact O | exact O.elim
      cases y with
      | t _ => first | rfl | exact h.elim | exact p.elim | exact p1.elim | exact p2.elim | exact p3.elim | (exact absurd e (by intro z; cases z)) | (cases e; done)
      | v j => exact O.elim
      | f d =>
        obtain ⟨R2, O2, P2⟩ := R.setF h h1
        obtain ⟨R3, S3, P3, L3⟩ := storeAll_ok hd R2 (S.shrink O2) (rest r o' fun w x m d' ex a ew q => by
          subst ex; subst ew
          obtain ⟨_, _, q1, _, _, _, q2⟩ := memV r m
          cases q1
          exact q2 (O2 a q)) N2 o' e
        exact ⟨R3, S3, P2.trans P3, by simp [L3]⟩
      | n d =>
        obtain ⟨a, o, rfl, e2, e3, e4, e5⟩ := h
        obtain ⟨R2, O2, P2⟩ := R.setO e2 e3 e4 e5 (hd a (N1 d a rfl rfl)) (show setS ρ i (.ow d) = some ρ1 from h1)
        have S2 : Stp Fs Hs As F H (OA ρ1 (σ.set i (some (.ref a)))) := ⟨S.le, S.fr, S.dm, S.nw, fun b z => (O2 b z).elim (S.ow b) fun y => by subst y; exact .inr (N1 d _ rfl rfl), S.mm⟩
        obtain ⟨R3, S3, P3, L3⟩ := storeAll_ok hd R2 S2 (rest r o' fun w x m d' ex b ew q => by
          subst ex; subst ew
          obtain ⟨_, _, q1, _, _, _, q2⟩ := memV r m
          cases q1
          rcases O2 b q with q | q
          · exact q2 q
          · subst q; exact n _ _ m d d' rfl rfl rfl) N2 o' e
        exact ⟨R3, S3, P2.trans P3, by simp [L3]⟩
theorem i_par {is : List Nat} {k : List Bool} {es : CEs} {D : Ends} {σ : L2.St} {H : Hp} (h : tS M H0 W T (.par is k es) D σ H) : tA M H0 W T es σ H fun vs H1 => vs.length = is.length ∧ D.nx (putAllV σ is vs) H1 := by
  obtain ⟨F, ρ, R, p⟩ := h
  simp only [ex] at p
  refine ⟨F, ρ, R, toS_bind p fun xs ρ1 vs F1 H1 R1 S1 E1 V1 p1 => ?_⟩
  cases h1 : prep ρ1 k xs with
  | none => simp only [h1, Option.bind] at p1; exact p1.elim
  | some q =>
    obtain ⟨ys, ρ2⟩ := q
    simp only [h1, Option.bind] at p1
    obtain ⟨F2, R2, S2, E2, _, V2, N2, O2, _, _⟩ := prep_ok R1 S1 V1.1 V1.2 h1
    cases h2 : storeAll ρ2 is ys with
    | none => rw [h2] at p1; exact p1.elim
    | some ρ3 =>
      rw [h2] at p1
      obtain ⟨R3, S3, P3, L3⟩ := storeAll_ok R.dom R2 S2 V2 N2 O2 h2
      exact ⟨L3, p1 _ F2 H1 ⟨R3, S3, (E1.trans E2).pwk.trans P3⟩⟩
theorem i_par2 {i j : Nat} {k : List Bool} {es : CEs} {D : Ends} {σ : L2.St} {H : Hp} (h : tS M H0 W T (.par [i, j] k es) D σ H) : tPar i j (tA M H0 W T es) D σ H := by
  have q := i_par h
  obtain ⟨F, ρ, R, p⟩ := q
  refine ⟨F, ρ, R, p.imp (fun _ _ _ _ _ z => z) fun vs H1 ⟨h1, h2⟩ => ?_⟩
  match vs, h1 with
  | [v, w], _ => exact ⟨v, w, rfl, h2⟩
/-- values of a new tuple, in the caller's frame -/
theorem VsOk.place {F H H1 : Hp} {σ : L2.St} {ρ : Env} (k : ∀ a, H1 a = none → ¬ OA ρ σ a) : ∀ {vs : List V} {xs : List (Bool × D)}, VsOk M F H [] [] vs (xs.map tv) → VsNew H1 vs (xs.map tv) → VsOk M F H σ ρ vs (xs.map tv)
  | [], _, h, _ => h
  | v :: vs, [], ⟨_, _, e, _⟩, _ => by cases e
  | v :: vs, (b, d) :: xs, ⟨x, ys, e, h, r, n⟩, hn => by
    rw [List.map_cons] at e hn ⊢
    cases e
    obtain ⟨n1, n2⟩ := hn
    refine ⟨_, _, rfl, ?_, VsOk.place k r n2, n⟩
    cases b with
    | false => exact h
    | true =>
      obtain ⟨a, o, rfl, e2, e3, e4, _⟩ := h
      exact ⟨a, o, rfl, e2, e3, e4, k a (n1 d a rfl rfl)⟩
/-! ### while -/
theorem whileN_succ {c : Env → Out Val} {b : Env → SOut} {n : Nat} {ρ : Env} : whileN c b (n + 1) ρ = (okB (c ρ)).toS fun k ρ1 => if k then (match b ρ1 with
      | .nx ρ2 => whileN c b n ρ2
      | .ct ρ2 => whileN c b n ρ2
      | .br ρ2 => .nx ρ2
      | .rt v ρ2 => .rt v ρ2
      | .exc e ρ2 => .exc e ρ2
      | .bad => .bad) else .nx ρ1 := by
  rw [show whileN c b (n + 1) ρ = (c ρ).toS fun v ρ1 => match v with
    | .f (.bl true) => match b ρ1 with
      | .nx ρ2 => whileN c b n ρ2
      | .ct ρ2 => whileN c b n ρ2
      | .br ρ2 => .nx ρ2
      | .rt v ρ2 => .rt v ρ2
      | .exc e ρ2 => .exc e ρ2
      | .bad => .bad
    | .f (.bl false) => .nx ρ1
    | _ => .bad from rfl]
  cases c ρ with
  | ok x ρ1 =>
    cases x with
    | t _ => first | rfl | exact h.elim | exact p.elim | exact p1.elim | exact p2.elim | exact p3.elim | (exact absurd e (by intro z; cases z)) | (cases e; done)
    | f d => cases d with
      | bl k => cases k <;> rfl
      | _ => rfl
    | n d => rfl
    | v i => rfl
  | exc e ρ1 => rfl
  | bad => rfl
theorem i_whl {c : CE} {b : CSs} {D : Ends} {σ : L2.St} {H : Hp} (h : tS M H0 W T (.whl c b) D σ H) : tWhile (tT M H0 W T c) (tSs M H0 W T b) D σ H := by
  obtain ⟨F, ρ, R, p⟩ := h
  simp only [ex] at p
  refine ⟨fun m σ H => ∃ F ρ, Rel M H0 F H σ ρ ∧ PostS M H0 W F H σ ρ (whileN (fun ρ => ev T c ρ) (fun ρ => exs T b ρ) m ρ) D, ⟨TURNS, F, ρ, R, p⟩, ?_⟩
  rintro m σ H ⟨F, ρ, R, p⟩
  cases m with
  | zero => exact p.elim
  | succ n =>
    rw [whileN_succ] at p
    refine ⟨F, ρ, R, toS_bind p fun k ρ1 k' F1 H1 R1 S1 E1 V1 p1 => ?_⟩
    subst V1
    have S : RelS M H0 F H σ ρ F1 H1 σ ρ1 := ⟨R1, S1, E1.pwk⟩
    cases k with
    | false => exact p1 σ F1 H1 S
    | true =>
      rw [if_pos rfl] at p1 ⊢
      have p2 := PostS.shift p1 S
      refine ⟨fun σ' H' => ∃ F' ρ', Rel M H0 F' H' σ' ρ' ∧ PostS M H0 W F' H' σ' ρ' (whileN (fun ρ => ev T c ρ) (fun ρ => exs T b ρ) n ρ') D, fun σ' H' z => ⟨n, Nat.lt_succ_self n, z⟩, F1, ρ1, R1, ?_⟩
      cases h2 : exs T b ρ1 with
      | nx ρ2 => rw [h2] at p2; exact fun σ' F' H' z => ⟨F', ρ2, z.1, p2.shift z⟩
      | ct ρ2 => rw [h2] at p2; exact fun σ' F' H' z => ⟨F', ρ2, z.1, p2.shift z⟩
      | br ρ2 => rw [h2] at p2; exact p2
      | rt v ρ2 => rw [h2] at p2; exact p2
      | exc e ρ2 => rw [h2] at p2; exact p2
      | bad => rw [h2] at p2; exact p2
end
end PV

set_option Elab.async false
set_option linter.all false
set_option maxRecDepth 100000
set_option maxHeartbeats 1000000
/-! PvI: what is walked; for; comprehensions. -/
namespace PV
open PySem L2
/-- frozen: known, not marked -/
def Fz (F : Hp) (b : Addr) : Prop := F b ≠ none ∧ ∀ x, F b ≠ some (.own x)
theorem rd_fz {F : Hp} {a : Addr} {u : HO} (r : Rd F a u) (h : ∀ x, u ≠ .own x) : Fz F a := by
  rcases r with r | ⟨o, r⟩
  · exact ⟨by rw [r]; exact fun z => (by cases z), fun x z => by rw [r] at z; cases z; exact h x rfl⟩
  · exact ⟨by rw [r]; exact fun z => (by cases z), fun x z => by rw [r] at z; cases z⟩
/-- what was frozen at the start of a walk stands -/
def Keep (F1 H1 H : Hp) : Prop := ∀ b o, Fz F1 b → H1 b = some o → H b = some o
theorem Keep.refl (F H : Hp) : Keep F H H := fun _ _ _ h => h
structure IterOk (M : Nm) (F1 H1 : Hp) (J : It) (ds : List D) : Prop where
  go : ∀ i H, i < ds.length → Keep F1 H1 H → J.go i H
  stop : ∀ H, Keep F1 H1 H → J.stop ds.length H
  yld : ∀ i H x H', i < ds.length → Keep F1 H1 H → J.yld i H x H' → ∃ d, ds[i]? = some d ∧ ((H' = H ∧ Rep M F1 d x) ∨ ∃ T vs es, x = .ref T ∧ H T = none ∧ H' = upd H T (.tup vs) ∧ d = .tup es ∧ Reps M F1 es vs)
/-- a dict is locked, or nothing -/
def Lk (HX F0 H0' F1 H1 : Hp) : Prop := (F1 = F0 ∧ H1 = H0') ∨ ∃ d od kvs, Rd F0 d (.dK kvs) ∧ H0' d = some (.dK kvs) ∧ (∀ o' u', HX d ≠ some (.frz o' u')) ∧ F1 = upd F0 d (.frz od (.dK kvs)) ∧ H1 = upd H0' d (.frz od (.dK kvs))
/-- something locked is unlocked, or nothing -/
def Unl (HX H H' : Hp) : Prop := H' = H ∨ ∃ d od u, H d = some (.frz od u) ∧ (∀ o' u', HX d ≠ some (.frz o' u')) ∧ H' = upd H d u
section
variable {M : Nm} {H0 : Hp} {W : WX} {T : Tb}
def PostI (M : Nm) (H0 : Hp) (W : WX) (HX F H : Hp) (σ : L2.St) (ρ : Env) (r : Out (List D)) (R : It → Hp → Prop) : Prop := match r with
  | .ok ds ρ' => ∀ J F0 H0' F1 H1, Rel M H0 F0 H0' σ ρ' → Stp F H (OA ρ σ) F0 H0' (OA ρ' σ) → ES ρ ρ' → Lk HX F0 H0' F1 H1 → IterOk M F1 H1 J ds → R J H1
  | .exc e ρ' => ∀ cls d F' H', Rel M H0 F' H' σ ρ' → Stp F H (OA ρ σ) F' H' (OA ρ' σ) → ES ρ ρ' → XOk M F' H' e cls d → W cls d σ H'
  | .bad => False
def tI (M : Nm) (H0 : Hp) (W : WX) (T : Tb) (HX : Hp) (c : CI) : TI := fun σ H R => ∃ F ρ, Rel M H0 F H σ ρ ∧ PostI M H0 W HX F H σ ρ (evI T c ρ) R
/-! ### locks -/
theorem Le.lock {F : Hp} {d : Addr} {od : Obj} {kvs : List (Key × V)} (h : Rd F d (.dK kvs)) : Le F (upd F d (.frz od (.dK kvs))) := by
  have ne : ∀ {a : Addr} {u : HO}, Rd F a u → (∀ xs, u ≠ .dK xs) → (∀ o w, u ≠ .frz o w) → a ≠ d := fun {a u} r n n' => by
    rintro rfl
    rcases r with r | ⟨o, r⟩ <;> rcases h with h | ⟨o', h⟩ <;> rw [h] at r <;> cases r
    · exact n _ rfl
    · exact n' _ _ rfl
    · exact n _ rfl
  have keepR : ∀ {a : Addr} {u : HO}, a ≠ d → Rd F a u → Rd (upd F d (.frz od (.dK kvs))) a u := fun {a u} q r => by
    rcases r with r | ⟨o, r⟩
    · exact .inl (by rw [upd_ne q]; exact r)
    · exact .inr ⟨o, by rw [upd_ne q]; exact r⟩
  have neX : ∀ {a : Addr} {u : HO}, F a = some u → (∀ xs, u ≠ .dK xs) → (∀ o w, u ≠ .frz o w) → a ≠ d := fun {a u} r n n' => by
    rintro rfl
    rcases h with h | ⟨o', h⟩ <;> rw [h] at r <;> cases r
    · exact n _ rfl
    · exact n' _ _ rfl
  refine ⟨fun a xs r => keepR (ne r (fun _ z => by cases z) fun _ _ z => by cases z) r, fun a xs r => by rw [upd_ne (neX r (fun _ z => by cases z) fun _ _ z => by cases z)]; exact r, fun a xs r => keepR (ne r (fun _ z => by cases z) fun _ _ z => by cases z) r, fun a xs r => ?_,
    fun a xs r => keepR (ne r (fun _ z => by cases z) fun _ _ z => by cases z) r, fun a C dx fs r => by rw [upd_ne (neX r (fun _ z => by cases z) fun _ _ z => by cases z)]; exact r, fun a φ io r => by rw [upd_ne (neX r (fun _ z => by rw [z] at io; exact io) fun _ _ z => by rw [z] at io; exact io)]; exact r, fun a e => ?_, fun a x e => ?_⟩
  · by_cases q : a = d
    · subst q
      have : xs = kvs := by
        rcases r with r | ⟨o, r⟩ <;> rcases h with h | ⟨o', h⟩ <;> rw [h] at r <;> cases r <;> rfl
      subst this
      exact .inr ⟨od, upd_same⟩
    · exact keepR q r
  · by_cases q : a = d
    · subst q; rw [upd_same] at e; cases e
    · rw [upd_ne q] at e; exact e
  · by_cases q : a = d
    · subst q; rw [upd_same] at e; cases e
    · rw [upd_ne q] at e; exact .inr e
theorem Le.unlock {F : Hp} {d : Addr} {od : Obj} {kvs : List (Key × V)} (h : F d = some (.frz od (.dK kvs))) : Le F (upd F d (.dK kvs)) := by
  have keepR : ∀ {a : Addr} {u : HO}, a ≠ d → Rd F a u → Rd (upd F d (.dK kvs)) a u := fun {a u} q r => by
    rcases r with r | ⟨o, r⟩
    · exact .inl (by rw [upd_ne q]; exact r)
    · exact .inr ⟨o, by rw [upd_ne q]; exact r⟩
  have ne : ∀ {a : Addr} {u : HO}, Rd F a u → (∀ xs, u ≠ .dK xs) → (∀ o w, u ≠ .frz o w) → a ≠ d := fun {a u} r n n' => by
    rintro rfl
    rcases r with r | ⟨o, r⟩ <;> rw [h] at r <;> cases r
    · exact n' _ _ rfl
    · exact n _ rfl
  refine ⟨fun a xs r => keepR (ne r (fun _ z => by cases z) fun _ _ z => by cases z) r, fun a xs r => by rw [upd_ne (ne (.inl r) (fun _ z => by cases z) fun _ _ z => by cases z)]; exact r, fun a xs r => keepR (ne r (fun _ z => by cases z) fun _ _ z => by cases z) r, fun a xs r => ?_,
    fun a xs r => keepR (ne r (fun _ z => by cases z) fun _ _ z => by cases z) r, fun a C dx fs r => by rw [upd_ne (ne (.inl r) (fun _ z => by cases z) fun _ _ z => by cases z)]; exact r, fun a φ io r => by rw [upd_ne (ne (.inl r) (fun _ z => by rw [z] at io; exact io) fun _ _ z => by rw [z] at io; exact io)]; exact r, fun a e => ?_, fun a x e => ?_⟩
  · by_cases q : a = d
    · subst q
      have : xs = kvs := by
        rcases r with r | ⟨o, r⟩ <;> rw [h] at r <;> cases r
        rfl
      subst this
      exact .inl upd_same
    · exact keepR q r
  · by_cases q : a = d
    · subst q; rw [upd_same] at e; cases e
    · rw [upd_ne q] at e; exact e
  · by_cases q : a = d
    · subst q; rw [upd_same] at e; cases e
    · rw [upd_ne q] at e; exact .inr e
theorem Le.upd2 {F H : Hp} {d : Addr} {u : HO} (l : Le F H) : Le (upd F d u) (upd H d u) := by
  have rdb : ∀ a w, (Rd F a w → Rd H a w) → Rd (upd F d u) a w → Rd (upd H d u) a w := fun a w f r => by
    by_cases q : a = d
    · subst q
      rcases r with r | ⟨ob, r⟩
      · rw [upd_same] at r; exact .inl (by rw [upd_same]; exact r)
      · rw [upd_same] at r; exact .inr ⟨ob, by rw [upd_same]; exact r⟩
    · have r' : Rd F a w := by
        rcases r with r | ⟨ob, r⟩
        · rw [upd_ne q] at r; exact .inl r
        · rw [upd_ne q] at r; exact .inr ⟨ob, r⟩
      rcases f r' with r | ⟨ob, r⟩
      · exact .inl (by rw [upd_ne q]; exact r)
      · exact .inr ⟨ob, by rw [upd_ne q]; exact r⟩
  refine ⟨fun a xs => rdb a _ (l.l a xs), fun a xs e => ?_, fun a xs => rdb a _ (l.tr a xs), fun a xs => rdb a _ (l.k a xs), fun a xs => rdb a _ (l.kt a xs), fun a C dx fs e => ?_, fun a φ io e => ?_, fun a e => ?_, fun a x e => ?_⟩
  · by_cases q : a = d
    · subst q; rw [upd_same] at e ⊢; exact e
    · rw [upd_ne q] at e ⊢; exact l.t a xs e
  · by_cases q : a = d
    · subst q; rw [upd_same] at e ⊢; exact e
    · rw [upd_ne q] at e ⊢; exact l.i a C dx fs e
  · by_cases q : a = d
    · subst q; rw [upd_same] at e ⊢; exact e
    · rw [upd_ne q] at e ⊢; exact l.x a φ io e
  · by_cases q : a = d
    · subst q; rw [upd_same] at e; cases e
    · rw [upd_ne q] at e ⊢; exact l.d a e
  · by_cases q : a = d
    · subst q; rw [upd_same] at e ⊢; exact .inr e
    · rw [upd_ne q] at e ⊢; exact l.o a x e
/-- both worlds get u at d, which F knows -/
theorem Rel.relock {F H : Hp} {σ : L2.St} {ρ : Env} {d : Addr} {u : HO} (R : Rel M H0 F H σ ρ) (hf : F d ≠ none) (ho : ∀ x, F d ≠ some (.own x)) (le : Le F (upd F d u)) : Rel M H0 (upd F d u) (upd H d u) σ ρ := by
  have nd : ∀ {b x}, F b = some (.own x) → b ≠ d := fun {b x} e z => ho x (by rw [← z]; exact e)
  refine ⟨R.sub.upd2, R.len, fun i e z => ?_, fun i e z => ?_, R.dist, R.new, fun a z => ?_, R.odr.step le (fun b x e => by rw [upd_ne (nd e)]; exact e) (fun b x o e e' => by rw [upd_ne (nd e)]; exact e') fun i ks z => ⟨z, rfl⟩⟩
  · obtain ⟨v, h1, h2⟩ := R.fz i e z; exact ⟨v, h1, Rep.mono le _ _ h2⟩
  · obtain ⟨a, o, h1, h2, h3, h4⟩ := R.ow i e z
    have na : a ≠ d := by rintro rfl; exact hf h2
    exact ⟨a, o, h1, by rw [upd_ne na]; exact h2, by rw [upd_ne na]; exact h3, h4.mono le⟩
  · by_cases q : a = d
    · subst q; rw [upd_same] at z; cases z
    · rw [upd_ne q] at z; exact R.dom a z
theorem Lk.rel {HX F0 H0' F1 H1 : Hp} {σ : L2.St} {ρ : Env} (R : Rel M H0 F0 H0' σ ρ) (k : Lk HX F0 H0' F1 H1) : Rel M H0 F1 H1 σ ρ := by
  rcases k with ⟨rfl, rfl⟩ | ⟨d, od, kvs, h1, h2, h3, rfl, rfl⟩
  · exact R
  · have z := rd_fz h1 (fun x => by intro z; cases z)
    exact R.relock z.1 z.2 (Le.lock h1)
/-- from the locked walk's end back -/
theorem Lk.back {HW HX F0 H0' F1 H1 F2 H2 : Hp} {σ σ2 : L2.St} {ρ ρ2 : Env} (k : Lk HX F0 H0' F1 H1) (R1 : Rel M H0 F1 H1 σ ρ) (R2 : Rel M H0 F2 H2 σ2 ρ2) (S : StpW HW F1 H1 (OA ρ σ) F2 H2 (OA ρ2 σ2)) :
    ∃ F3 H3, Unl HX H2 H3 ∧ Rel M H0 F3 H3 σ2 ρ2 ∧ StpW HW F0 H0' (OA ρ σ) F3 H3 (OA ρ2 σ2) ∧ Le F2 F3 ∧ (∀ b, F2 b = none → F3 b = none) ∧ (∀ a, F2 a = none → H3 a = H2 a) := by
  rcases k with ⟨rfl, rfl⟩ | ⟨d, od, kvs, h1, h2, h3, rfl, rfl⟩
  · exact ⟨F2, H2, .inl rfl, R2, S, Le.refl _, fun _ h => h, fun _ _ => rfl⟩
  · have e1 : H2 d = some (.frz od (.dK kvs)) := S.fr d _ upd_same (fun z => by have := R1.oan z; rw [upd_same] at this; cases this) fun x q => by rw [upd_same] at q; cases q
    have rd2 : Rd F2 d (.dK kvs) := S.le.k d kvs (.inr ⟨od, upd_same⟩)
    have zf := rd_fz rd2 (fun x => by intro z; cases z)
    have nf : F2 d ≠ none := zf.1
    have le2 : Le F2 (upd F2 d (.dK kvs)) := by
      rcases rd2 with h | ⟨o, h⟩
      · have : upd F2 d (.dK kvs) = F2 := by funext b; unfold upd; split; · rename_i q; rw [q, h]
                                             · rfl
        rw [this]; exact Le.refl _
      · exact Le.unlock h
    refine ⟨upd F2 d (.dK kvs), upd H2 d (.dK kvs), .inr ⟨d, od, _, e1, h3, rfl⟩, R2.relock nf zf.2 le2, ⟨(Le.lock (od := od) h1).trans (S.le.trans le2), fun b o e n k => ?_, fun b e => ?_, fun b e e' => ?_, fun b e => ?_, fun b x e k => ?_⟩, le2, fun b e => ?_, fun a e => ?_⟩
    · by_cases q : b = d
      · subst q; rw [h2] at e; cases e; exact upd_same
      · rw [upd_ne q]; exact S.fr b o (by rw [upd_ne q]; exact e) n fun x y => k x (by rw [upd_ne q] at y; exact y)
    · have q : b ≠ d := by rintro rfl; rw [upd_same] at e; cases e
      rw [upd_ne q] at e
      have := S.dm b e
      rw [upd_ne q] at this; exact this
    · have q : b ≠ d := by
        rintro rfl
        rcases h1 with h | ⟨_, h⟩ <;> (rw [h] at e; cases e)
      rw [upd_ne q] at e'
      rcases S.nw b (by rw [upd_ne q]; exact e) e' with z | z
      · rw [upd_ne q] at z; exact .inl z
      · exact .inr z
    · rcases S.ow b e with z | z
      · exact .inl z
      · by_cases q : b = d
        · subst q; rw [upd_same] at z; cases z
        · rw [upd_ne q] at z; exact .inr z
    · have q : b ≠ d := by
        rintro rfl
        rcases h1 with h | ⟨_, h⟩ <;> (rw [h] at e; cases e)
      rw [upd_ne q]; exact S.mm b x (by rw [upd_ne q]; exact e) k
    · by_cases q : b = d
      · subst q; exact absurd e nf
      · rw [upd_ne q]; exact e
    · have q : a ≠ d := by rintro rfl; exact nf e
      rw [upd_ne q]
theorem StpW.keep {F H F' H' : Hp} {σ : L2.St} {ρ : Env} {A' : Addr → Prop} (R : Rel M H0 F H σ ρ) (S : StpW H0 F H (OA ρ σ) F' H' A') : Keep F H H' := fun b o h e => S.fr b o e (fun z => h.1 (R.oan z)) fun x q => absurd q (h.2 x)
/-- at a turn: the item in hand -/
theorem IterOk.turn {F1 H1 F H : Hp} {σ : L2.St} {ρ : Env} {J : It} {ds : List D} {i : Nat} {x : V} {H' : Hp} (I : IterOk M F1 H1 J ds) (le : Le F1 F) (R : Rel M H0 F H σ ρ) (k : Keep F1 H1 H) (hi : i < ds.length) (y : J.yld i H x H') :
    ∃ d F', ds[i]? = some d ∧ Rel M H0 F' H' σ ρ ∧ Stp F H (OA ρ σ) F' H' (OA ρ σ) ∧ Rep M F' d x := by
  obtain ⟨d, hd, ⟨rfl, r⟩ | ⟨T, vs, es, rfl, hT, rfl, rfl, r⟩⟩ := I.yld i H x H' hi k y
  · exact ⟨d, F, hd, R, Stp.refl _ _ _, Rep.mono le _ _ r⟩
  · have fT := R.sub.d T hT
    have op : OpPost M F H (.f (.tup es)) (.ref T) (upd F T (.tup vs)) (upd H T (.tup vs)) := ⟨⟨T, vs, rfl, upd_same, Reps.mono (Le.new fT) _ _ (Reps.mono le _ _ r)⟩, .inr ⟨T, _, hT, rfl, rfl⟩⟩
    obtain ⟨R2, S2, v2, _⟩ := OpPost.rel R op
    exact ⟨_, _, hd, R2, S2, v2⟩
theorem XOk.unl {HX F F3 H H3 : Hp} {e : XV} {c : Value} {d : Option Addr} (x : XOk M F H e c d) (u : Unl HX H H3) (le : Le F F3) : XOk M F3 H3 e c d := by
  obtain ⟨h1, h2⟩ := x
  refine ⟨h1, ?_⟩
  cases d with
  | none => exact h2
  | some a =>
    obtain ⟨ws, h3, h4⟩ := h2
    exact ⟨ws, le.x a _ (show IsEx (.xd ws) from True.intro) h3, RepA.mono le _ _ h4⟩
/-! ### for -/
def unlD (HX : Hp) (D : Ends) : Ends := { nx := fun σ H => ∃ H', Unl HX H H' ∧ D.nx σ H', rt := fun v H => ∃ H', Unl HX H H' ∧ D.rt v H', bk := fun σ H => ∃ H', Unl HX H H' ∧ D.bk σ H', ct := fun σ H => ∃ H', Unl HX H H' ∧ D.ct σ H' }
def tUnl (HX : Hp) (t : TS) : TS := fun D σ H => t (unlD HX D) σ H
theorem unl_inv {X : Cx} {pins : List (Addr × Obj)} {σ : L2.St} {H H' : Hp} {s : Shared} (I : Inv X pins σ H s) (u : Unl X.H_0 H H') : Inv X pins σ H' s := by
  rcases u with rfl | ⟨d, od, u, h1, h2, rfl⟩
  · exact I
  · exact I.unlock h1 h2
theorem ps_unl {X : Cx} {st : Stmt} {t : TS} (h : PS X st t) : PS X st (tUnl X.H_0 t) := by
  refine ⟨fun pins s σ H D I q => thn (h.run pins s σ H _ I q) fun f s' z => ?_⟩
  cases f with
  | next => obtain ⟨σ', H', I', H2, u, q⟩ := z; exact ⟨σ', H2, unl_inv I' u, q⟩
  | brk => obtain ⟨σ', H', I', H2, u, q⟩ := z; exact ⟨σ', H2, unl_inv I' u, q⟩
  | cont => obtain ⟨σ', H', I', H2, u, q⟩ := z; exact ⟨σ', H2, unl_inv I' u, q⟩
  | ret v => obtain ⟨x, σ', H', I', r, H2, u, q⟩ := z; exact ⟨x, σ', H2, unl_inv I' u, r, q⟩
def tUnlE (HX : Hp) (t : TE) : TE := fun σ H Q => t σ H fun v H1 => ∃ H', Unl HX H1 H' ∧ Q v H'
theorem pe_unl {X : Cx} {e : Expr} {t : TE} (h : PE X e t) : PE X e (tUnlE X.H_0 t) := by
  refine ⟨fun pins s σ H Q I q => thn (h.run pins s σ H _ I q) fun u s' ⟨x, H', I', r, H2, z, q⟩ => ⟨x, H2, unl_inv I' z, r, q⟩⟩
theorem eachS_cons {f : D → Env → SOut} {x : D} {r : List D} {ρ : Env} : eachS f (x :: r) ρ = match f x ρ with
    | .nx ρ1 => eachS f r ρ1
    | .ct ρ1 => eachS f r ρ1
    | .br ρ1 => .nx ρ1
    | .rt v ρ1 => .rt v ρ1
    | .exc e ρ1 => .exc e ρ1
    | .bad => .bad := rfl
theorem i_fors {HX : Hp} {t : CT} {it : CI} {b : CSs} {D : Ends} {σ : L2.St} {H : Hp} (hW : ∀ cls d σ H H', Unl HX H H' → W cls d σ H' → W cls d σ H) (h : tS M H0 W T (.fors t it b) D σ H) :
    tUnl HX (tFor (tI M H0 W T HX it) (tG M H0 t) (tSs M H0 W T b)) D σ H := by
  obtain ⟨F, ρ, R, p⟩ := h
  simp only [ex] at p
  refine ⟨F, ρ, R, ?_⟩
  cases h1 : evI T it ρ with
  | bad => rw [h1] at p; exact p
  | exc e ρ1 => rw [h1] at p; exact fun c d F1 H1 R S E v => p c d σ F1 H1 ⟨R, S, E.pwk⟩ v
  | ok ds ρ1 =>
    rw [h1] at p
    intro J F0 H0' F1 H1 R0 S0 E0 k I
    have p0 : PostS M H0 W F H σ ρ (eachS (fun x ρ => match tgt ρ t x with
      | some ρ => exs T b ρ
      | none => .bad) ds ρ1) D := p
    have p1 := p0.shift ⟨R0, S0, E0.pwk⟩
    have R1 := k.rel R0
    -- the word: what is left of the walk, from a state that the walk came to
    refine ⟨fun i m σ' H' => m = ds.length - i ∧ i ≤ ds.length ∧ ∃ F' ρ', RelS M H0 F1 H1 σ ρ1 F' H' σ' ρ' ∧ ∀ (E : Ends), True → PostS M H0 W F1 H1 σ ρ1 (eachS (fun x ρ => match tgt ρ t x with
      | some ρ => exs T b ρ
      | none => .bad) ds ρ1) (unlD HX D) → PostS M H0 W F' H' σ' ρ' (eachS (fun x ρ => match tgt ρ t x with
      | some ρ => exs T b ρ
      | none => .bad) (ds.drop i) ρ') (unlD HX D), ⟨ds.length, by simp, Nat.zero_le _, F1, ρ1, RelS.refl R1, fun _ _ z => z⟩, ?_⟩
    -- the whole, locked
    have pl : PostS M H0 W F1 H1 σ ρ1 (eachS (fun x ρ => match tgt ρ t x with
      | some ρ => exs T b ρ
      | none => .bad) ds ρ1) (unlD HX D) := by
      generalize eachS (fun x ρ => match tgt ρ t x with
        | some ρ => exs T b ρ
        | none => .bad) ds ρ1 = r at p1
      cases r with
      | bad => exact p1
      | nx ρ2 => exact fun σ' F' H' z => let ⟨F3, H3, u, R3, S3, _⟩ := k.back R1 z.1 z.2.1; ⟨H3, u, p1 σ' F3 H3 ⟨R3, S3, z.2.2⟩⟩
      | br ρ2 => exact fun σ' F' H' z => let ⟨F3, H3, u, R3, S3, _⟩ := k.back R1 z.1 z.2.1; ⟨H3, u, p1 σ' F3 H3 ⟨R3, S3, z.2.2⟩⟩
      | ct ρ2 => exact fun σ' F' H' z => let ⟨F3, H3, u, R3, S3, _⟩ := k.back R1 z.1 z.2.1; ⟨H3, u, p1 σ' F3 H3 ⟨R3, S3, z.2.2⟩⟩
      | rt x ρ2 =>
        intro σ' v F' H' z vo vn
        obtain ⟨F3, H3, u, R3, S3, le3, nn3, same3⟩ := k.back R1 z.1 z.2.1
        refine ⟨H3, u, p1 σ' v F3 H3 ⟨R3, S3, z.2.2⟩ ?_ vn⟩
        cases x with
        | f d => exact Rep.mono le3 _ _ vo
        | n d =>
          obtain ⟨a, o, e1, e2, e3, e4, e5⟩ := vo
          exact ⟨a, o, e1, nn3 a e2, (same3 a e2).trans e3, e4.mono le3, e5⟩
        | v i => exact vo
        | t xs =>
          obtain ⟨a, us, rfl, e2, e3, V, N⟩ := vo
          refine ⟨a, us, rfl, nn3 a e2, (same3 a e2).trans e3, V.lift fun w y hy g => ?_, N⟩
          cases y with
          | f d => exact Rep.mono le3 _ _ g
          | n d =>
            obtain ⟨a, o, e1, e2, e3, e4, e5⟩ := g
            exact ⟨a, o, e1, nn3 a e2, (same3 a e2).trans e3, e4.mono le3, e5⟩
          | v i => exact absurd rfl (hy i)
          | t _ => exact g.elim
      | exc e ρ2 =>
        intro c d σ' F' H' z x
        obtain ⟨F3, H3, u, R3, S3, le3, nn3, same3⟩ := k.back R1 z.1 z.2.1
        refine hW _ _ _ _ _ u (p1 c d σ' F3 H3 ⟨R3, S3, z.2.2⟩ (x.unl u le3))
    rintro i m σ' H' ⟨rfl, hi, F', ρ', S, w⟩
    have w := w D True.intro pl
    have kp : Keep F1 H1 H' := S.2.1.keep R1
    by_cases hlt : i < ds.length
    · refine .inr ⟨I.go i H' hlt kp, fun σ2 H2 => (ds.length - (i + 1)) = ds.length - (i + 1) ∧ i + 1 ≤ ds.length ∧ ∃ F2 ρ2, RelS M H0 F1 H1 σ ρ1 F2 H2 σ2 ρ2 ∧ ∀ (E : Ends), True → PostS M H0 W F1 H1 σ ρ1 (eachS (fun x ρ => match tgt ρ t x with
        | some ρ => exs T b ρ
        | none => .bad) ds ρ1) (unlD HX D) → PostS M H0 W F2 H2 σ2 ρ2 (eachS (fun x ρ => match tgt ρ t x with
        | some ρ => exs T b ρ
        | none => .bad) (ds.drop (i + 1)) ρ2) (unlD HX D), fun σ2 H2 z => ⟨ds.length - (i + 1), by omega, z⟩, fun x H2 y => ?_⟩
      obtain ⟨d, F2, hd, R2, S2, r2⟩ := I.turn S.2.1.le S.1 kp hlt y
      have ed : ds.drop i = d :: ds.drop (i + 1) := by
        rw [List.drop_eq_getElem_cons hlt]
        rw [List.getElem?_eq_getElem hlt] at hd
        cases hd; rfl
      rw [ed, eachS_cons] at w
      have S' : RelS M H0 F' H' σ' ρ' F2 H2 σ' ρ' := ⟨R2, S2, PWk.refl _ _⟩
      refine ⟨F2, ρ', d, R2, r2, ?_⟩
      cases h2 : tgt ρ' t d with
      | none => rw [h2] at w; exact w
      | some ρ2 =>
        rw [h2] at w
        intro σ2 R3 O3 P3 _
        have S3 : RelS M H0 F' H' σ' ρ' F2 H2 σ2 ρ2 := ⟨R3, S2.shrink O3, P3⟩
        refine ⟨F2, ρ2, R3, ?_⟩
        dsimp only at w
        have w2 := w
        cases h3 : exs T b ρ2 with
        | bad => rw [h3] at w2; exact w2
        | nx ρ3 =>
          rw [h3] at w2
          exact fun σ3 F3 H3 z => ⟨rfl, hlt, F3, ρ3, (S.trans (S3.trans z)), fun _ _ _ => PostS.shift w2 (S3.trans z)⟩
        | ct ρ3 =>
          rw [h3] at w2
          exact fun σ3 F3 H3 z => ⟨rfl, hlt, F3, ρ3, (S.trans (S3.trans z)), fun _ _ _ => PostS.shift w2 (S3.trans z)⟩
        | br ρ3 => rw [h3] at w2; exact fun σ3 F3 H3 z => w2 σ3 F3 H3 (S3.trans z)
        | rt v ρ3 => rw [h3] at w2; exact fun σ3 v F3 H3 z => w2 σ3 v F3 H3 (S3.trans z)
        | exc e ρ3 => rw [h3] at w2; exact fun c d σ3 F3 H3 z => w2 c d σ3 F3 H3 (S3.trans z)
    · have e : i = ds.length := by omega
      subst e
      refine .inl ⟨I.stop H' kp, ?_⟩
      rw [List.drop_length] at w
      exact w σ' F' H' (RelS.refl S.1)
end
end PV

set_option Elab.async false
set_option linter.all false
set_option maxRecDepth 100000
set_option maxHeartbeats 1000000
/-! PvJ: comprehensions. -/
namespace PV
open PySem L2
section
variable {M : Nm} {H0 : Hp} {W : WX} {T : Tb}
/-! ### a thing that is being made -/
theorem Rel.pend {F H : Hp} {σ : L2.St} {ρ : Env} {D : Addr} {o : HO} (R : Rel M H0 F H σ ρ) (fd : F D = none) (nd : ¬ OA ρ σ D) : Rel M H0 F (upd H D o) σ ρ := by
  refine ⟨R.sub.mut fd, R.len, R.fz, fun i d z => ?_, R.dist, R.new, fun a z => ?_, R.odr.step (Le.refl F) (MkS.refl F) (HkS.mut fd) fun i ks z => ⟨z, rfl⟩⟩
  · obtain ⟨a, u, h1, h2, h3, h4⟩ := R.ow i d z
    have na : a ≠ D := by
      rintro rfl
      exact nd ⟨i, by rcases z with z | z <;> (rw [z]; exact True.intro), h1⟩
    exact ⟨a, u, h1, h2, by rw [upd_ne na]; exact h3, h4⟩
  · have na : a ≠ D := by rintro rfl; rw [upd_same] at z; cases z
    rw [upd_ne na] at z; exact R.dom a z
def AD (D : Addr) (ρ : Env) (σ : L2.St) : Addr → Prop := fun a => OA ρ σ a ∨ a = D
theorem Stp.liftD {F H F' H' : Hp} {ρ ρ' : Env} {σ σ' : L2.St} {D : Addr} (S : Stp F H (OA ρ σ) F' H' (OA ρ' σ')) : Stp F H (AD D ρ σ) F' H' (AD D ρ' σ') :=
  ⟨S.le, fun b o h n => S.fr b o h fun z => n (.inl z), S.dm, fun b h h' => (S.nw b h h').imp id .inl, fun b h => h.elim (fun z => (S.ow b z).imp .inl id) fun z => .inl (.inr z), S.mm⟩
theorem Stp.pend {F H : Hp} {ρ : Env} {σ : L2.St} {D : Addr} {o : HO} (hd : H D ≠ none) : Stp F H (AD D ρ σ) F (upd H D o) (AD D ρ σ) := by
  refine ⟨Le.refl F, fun b u h n => ?_, fun b h => ?_, fun b h h' => absurd h h', fun b h => .inl h, MkS.refl F⟩
  · rw [upd_ne fun z => n (.inr z)]; exact h
  · have nb : b ≠ D := by rintro rfl; rw [upd_same] at h; cases h
    rw [upd_ne nb] at h; exact h
theorem not_oa {F H : Hp} {σ : L2.St} {ρ : Env} {a : Addr} (R : Rel M H0 F H σ ρ) (h : H a = none) : ¬ OA ρ σ a := by
  rintro ⟨i, q, z⟩
  cases w : slotAt ρ i with
  | no => rw [w] at q; exact q
  | fz _ => rw [w] at q; exact q
  | ow d => obtain ⟨b, u, g1, g2, g3, _⟩ := R.ow i d (.inl w); rw [z] at g1; cases g1; rw [h] at g3; cases g3
  | pw d => obtain ⟨b, u, g1, g2, g3, _⟩ := R.ow i d (.inr w); rw [z] at g1; cases g1; rw [h] at g3; cases g3
  | od d => rw [w] at q; exact q
/-! ### slots forgotten -/
theorem wipe_get (σ : L2.St) : ∀ (vs : List Nat) (i : Nat), (wipe σ vs)[i]? = if i ∈ vs ∧ i < σ.length then some none else σ[i]?
  | [], i => by simp [wipe]
  | v :: vs, i => by
    unfold wipe
    rw [List.getElem?_set, wipe_length, wipe_get σ vs i]
    by_cases h : v = i
    · subst h
      by_cases q : v < σ.length
      · simp [q]
      · simp [q]
    · rw [if_neg h]
      have : (i ∈ v :: vs) = (i ∈ vs) := propext ⟨fun m => (List.mem_cons.1 m).elim (fun z => absurd z.symm h) id, fun m => List.mem_cons_of_mem _ m⟩
      simp only [this]
theorem wipeE_len (ρ : Env) : ∀ vs : List Nat, (wipeE ρ vs).length = ρ.length
  | [] => rfl
  | v :: vs => by unfold wipeE; rw [List.length_set, wipeE_len]
theorem wipeE_at (ρ : Env) : ∀ (vs : List Nat) (i : Nat), slotAt (wipeE ρ vs) i = if i ∈ vs then .no else slotAt ρ i
  | [], i => by simp [wipeE]
  | v :: vs, i => by
    unfold wipeE
    rw [slotAt_set, wipeE_len, wipeE_at ρ vs i]
    by_cases h : i = v
    · subst h
      by_cases q : i < ρ.length
      · simp [q]
      · have : slotAt ρ i = .no := by unfold slotAt; rw [List.getD_eq_getElem?_getD, List.getElem?_eq_none (by omega)]; rfl
        simp [q, this]
    · rw [if_neg fun z => h z.1]
      simp [h]
theorem Rel.wipe {F H : Hp} {σ : L2.St} {ρ : Env} (R : Rel M H0 F H σ ρ) (vs : List Nat) : Rel M H0 F H (wipe σ vs) (wipeE ρ vs) ∧ ∀ a, OA (wipeE ρ vs) (wipe σ vs) a → OA ρ σ a := by
  have up : ∀ {i : Nat} {s : Slot}, s ≠ .no → slotAt (wipeE ρ vs) i = s → slotAt ρ i = s ∧ (L2.wipe σ vs)[i]? = σ[i]? := fun {i s} n z => by
    rw [wipeE_at] at z
    by_cases h : i ∈ vs
    · rw [if_pos h] at z; exact absurd z.symm n
    · rw [if_neg h] at z; exact ⟨z, by rw [wipe_get, if_neg fun y => h y.1]⟩
  have upO : ∀ {i : Nat}, IsOwn (slotAt (wipeE ρ vs) i) → IsOwn (slotAt ρ i) ∧ (L2.wipe σ vs)[i]? = σ[i]? := fun {i} z => by
    obtain ⟨h1, h2⟩ := up (s := slotAt (wipeE ρ vs) i) (fun y => by rw [y] at z; exact z) rfl
    exact ⟨by rw [h1]; exact z, h2⟩
  refine ⟨⟨R.sub, by rw [wipe_length, wipeE_len]; exact R.len, fun i d z => ?_, fun i d z => ?_, fun i j a z w y y' => ?_, fun i d a z y => ?_, R.dom, R.odr.step (Le.refl F) (MkS.refl F) (HkS.refl F H) fun i ks z => up (fun y => by cases y) z⟩, fun a ⟨i, z, y⟩ => ?_⟩
  · obtain ⟨h1, h2⟩ := up (fun y => by cases y) z
    rw [h2]; exact R.fz i d h1
  · have : slotAt ρ i = .ow d ∨ slotAt ρ i = .pw d := z.imp (fun y => (up (fun y => by cases y) y).1) fun y => (up (fun y => by cases y) y).1
    have h2 : (L2.wipe σ vs)[i]? = σ[i]? := z.elim (fun y => (up (fun y => by cases y) y).2) fun y => (up (fun y => by cases y) y).2
    rw [h2]; exact R.ow i d this
  · obtain ⟨h1, h2⟩ := upO z
    obtain ⟨g1, g2⟩ := upO w
    rw [h2] at y; rw [g2] at y'
    exact R.dist i j a h1 g1 y y'
  · obtain ⟨h1, h2⟩ := up (fun y => by cases y) z
    rw [h2] at y; exact R.new i d a h1 y
  · obtain ⟨h1, h2⟩ := upO z
    rw [h2] at y; exact ⟨i, h1, y⟩
theorem wipe_only {σ σ2 : L2.St} {vs js : List Nat} (h : Only js (wipe σ vs) σ2) (hj : ∀ j ∈ js, j ∈ vs) : wipe σ2 vs = wipe σ vs := by
  have hl : σ2.length = σ.length := by rw [h.1, wipe_length]
  apply List.ext_getElem?
  intro i
  rw [wipe_get, wipe_get, hl]
  by_cases q : i ∈ vs ∧ i < σ.length
  · rw [if_pos q, if_pos q]
  · rw [if_neg q, if_neg q]
    by_cases w : i ∈ vs
    · have : σ.length ≤ i := Nat.le_of_not_lt fun y => q ⟨w, y⟩
      rw [List.getElem?_eq_none (by omega), List.getElem?_eq_none this]
    · rw [h.2 i fun y => w (hj i y), wipe_get, if_neg fun y => w y.1]
theorem setS_at {ρ ρ' : Env} {i : Nat} {s : Slot} (h : setS ρ i s = some ρ') : ρ'.length = ρ.length ∧ ∀ j, j ≠ i → slotAt ρ' j = slotAt ρ j := by
  obtain ⟨rfl, _, _⟩ := setS_some h
  exact ⟨List.length_set, fun j hj => by rw [slotAt_set, if_neg fun z => hj z.1]⟩
theorem setMany_at : ∀ {is : List Nat} {ds : List D} {ρ ρ' : Env}, setMany ρ is ds = some ρ' → ρ'.length = ρ.length ∧ ∀ j, j ∉ is → slotAt ρ' j = slotAt ρ j
  | [], [], ρ, ρ', h => by cases h; exact ⟨rfl, fun _ _ => rfl⟩
  | [], _ :: _, ρ, ρ', h => by cases h
  | _ :: _, [], ρ, ρ', h => by cases h
  | i :: is, d :: ds, ρ, ρ', h => by
    simp only [setMany] at h
    cases h1 : setS ρ i (.fz d) with
    | none => rw [h1] at h; cases h
    | some ρ1 =>
      rw [h1] at h
      obtain ⟨a, b⟩ := setS_at h1
      obtain ⟨c, e⟩ := setMany_at h
      exact ⟨c.trans a, fun j hj => by
        rw [List.mem_cons, not_or] at hj
        rw [e j hj.2, b j hj.1]⟩
theorem setQ_at : ∀ {is : List (List Nat)} {ds : List D} {ρ ρ' : Env}, setQ ρ is ds = some ρ' → ρ'.length = ρ.length ∧ ∀ j, j ∉ is.flatten → slotAt ρ' j = slotAt ρ j
  | [], [], ρ, ρ', h => by cases h; exact ⟨rfl, fun _ _ => rfl⟩
  | [], _ :: _, ρ, ρ', h => by cases h
  | js :: is, [], ρ, ρ', h => by
    match js, h with
    | [], h => cases h
    | [_], h => cases h
    | _ :: _ :: _, h => cases h
  | js :: is, d :: ds, ρ, ρ', h => by
    by_cases hj : js.length = 1
    · obtain ⟨i, rfl⟩ : ∃ i, js = [i] := by
        match js, hj with
        | [i], _ => exact ⟨i, rfl⟩
      have e : setQ ρ ([i] :: is) (d :: ds) = (setS ρ i (.fz d)).bind fun ρ1 => setQ ρ1 is ds := rfl
      rw [e] at h
      cases h1 : setS ρ i (.fz d) with
      | none => rw [h1] at h; cases h
      | some ρ1 =>
        rw [h1] at h
        obtain ⟨a, b⟩ := setS_at h1
        obtain ⟨c, e⟩ := setQ_at h
        exact ⟨c.trans a, fun j hj => by
          simp only [List.flatten_cons, List.mem_append, not_or, List.mem_singleton] at hj
          rw [e j hj.2, b j hj.1]⟩
    · rw [setQ_two hj] at h
      cases d with
      | tup xs =>
        dsimp only at h
        cases h1 : setMany ρ js xs with
        | none => rw [h1] at h; cases h
        | some ρ1 =>
          rw [h1] at h
          obtain ⟨a, b⟩ := setMany_at h1
          obtain ⟨c, e⟩ := setQ_at h
          exact ⟨c.trans a, fun j hj => by
            simp only [List.flatten_cons, List.mem_append, not_or] at hj
            rw [e j hj.2, b j hj.1]⟩
      | _ => cases h
theorem tgt_at {t : CT} {d : D} {ρ ρ' : Env} (h : tgt ρ t d = some ρ') : ρ'.length = ρ.length ∧ ∀ j, j ∉ t.slots → slotAt ρ' j = slotAt ρ j := by
  cases t with
  | nm i =>
    obtain ⟨a, b⟩ := setS_at (show setS ρ i (.fz d) = some ρ' from h)
    exact ⟨a, fun j hj => b j (by simpa [CT.slots] using hj)⟩
  | tp is => cases d <;> first | exact setMany_at h | cases h
  | tq is => cases d <;> first | exact setQ_at h | cases h
def Wiped (vs : List Nat) (ρ : Env) : Prop := ∀ i ∈ vs, slotAt ρ i = .no
theorem wiped_wipe (ρ : Env) (vs : List Nat) : Wiped vs (wipeE ρ vs) := fun i h => by rw [wipeE_at, if_pos h]
/-- one turn's slots: the target, the parts, forgotten again -/
theorem es_turn {vs : List Nat} {t : CT} {d : D} {ρ ρa ρ5 : Env} (w : Wiped vs ρ) (h : tgt ρ t d = some ρa) (hj : ∀ j ∈ t.slots, j ∈ vs) (e : ES ρa ρ5) : ES ρ (wipeE ρ5 vs) := by
  obtain ⟨h1, h2⟩ := tgt_at h
  have out : ∀ {i : Nat} {s : Slot}, s ≠ .no → slotAt ρ i = s → i ∉ vs ∧ slotAt ρa i = s := fun {i s} n z => by
    have hi : i ∉ vs := fun y => n (by rw [← z, w i y])
    exact ⟨hi, by rw [h2 i fun y => hi (hj i y)]; exact z⟩
  refine ⟨by rw [wipeE_len, ← e.len, h1], fun i d z => ?_, fun i d z => ?_, fun i d z => ?_, fun i z => ?_, fun i d z => ?_⟩
  · obtain ⟨a, b⟩ := out (fun y => by cases y) z
    rw [wipeE_at, if_neg a]; exact e.fz i d b
  · obtain ⟨a, b⟩ := out (fun y => by cases y) z
    rw [wipeE_at, if_neg a]; exact e.ow i d b
  · obtain ⟨a, b⟩ := out (fun y => by cases y) z
    rw [wipeE_at, if_neg a]; exact e.pw i d b
  · rw [wipeE_at]
    by_cases a : i ∈ vs
    · rw [if_pos a]
    · rw [if_neg a]; exact e.no i (by rw [h2 i fun y => a (hj i y)]; exact z)
  · obtain ⟨a, b⟩ := out (fun y => by cases y) z
    rw [wipeE_at, if_neg a]; exact e.od i d b
theorem unwipe_len (ρ0 ρ : Env) : ∀ vs : List Nat, (unwipe ρ0 ρ vs).length = ρ.length
  | [] => rfl
  | v :: vs => by unfold unwipe; rw [List.length_set, unwipe_len]
theorem unwipe_at {ρ0 ρ : Env} (hl : ρ0.length = ρ.length) : ∀ (vs : List Nat) (i : Nat), slotAt (unwipe ρ0 ρ vs) i = if i ∈ vs then slotAt ρ0 i else slotAt ρ i
  | [], i => by simp [unwipe]
  | v :: vs, i => by
    unfold unwipe
    rw [slotAt_set, unwipe_len, unwipe_at hl vs i]
    by_cases h : i = v
    · subst h
      by_cases q : i < ρ.length
      · simp [q]
      · have n1 : slotAt ρ0 i = .no := by unfold slotAt; rw [List.getD_eq_getElem?_getD, List.getElem?_eq_none (by omega)]; rfl
        have n2 : slotAt ρ i = .no := by unfold slotAt; rw [List.getD_eq_getElem?_getD, List.getElem?_eq_none (by omega)]; rfl
        simp [q, n1, n2]
    · rw [if_neg fun z => h z.1]
      simp [h]
/-- behind the block -/
theorem Rel.unwipe {F1 H1 F H : Hp} {σ : L2.St} {ρ1 ρ2 : Env} {vs : List Nat} {D : Addr} (R1 : Rel M H0 F1 H1 σ ρ1) (hD : H1 D = none) (R2 : Rel M H0 F H (L2.wipe σ vs) ρ2) (w : Wiped vs ρ2) (e : ES (wipeE ρ1 vs) ρ2) (S : Stp F1 H1 (OA (wipeE ρ1 vs) (L2.wipe σ vs)) F H (AD D ρ2 (L2.wipe σ vs))) :
    Rel M H0 F H σ (unwipe ρ1 ρ2 vs) ∧ ES ρ1 (unwipe ρ1 ρ2 vs) ∧ Stp F1 H1 (OA ρ1 σ) F H (OA (unwipe ρ1 ρ2 vs) σ) := by
  have hl : ρ1.length = ρ2.length := by rw [← e.len, wipeE_len]
  have at' := unwipe_at (ρ0 := ρ1) (ρ := ρ2) hl vs
  have out : ∀ {i : Nat}, i ∉ vs → (L2.wipe σ vs)[i]? = σ[i]? := fun {i} h => by rw [wipe_get, if_neg fun y => h y.1]
  have es : ES ρ1 (PV.unwipe ρ1 ρ2 vs) := by
    refine ⟨by rw [unwipe_len]; exact hl, fun i d z => ?_, fun i d z => ?_, fun i d z => ?_, fun i z => ?_, fun i d z => ?_⟩ <;> rw [at'] <;> by_cases h : i ∈ vs
    · rw [if_pos h]; exact z
    · rw [if_neg h]; exact e.fz i d (by rw [wipeE_at, if_neg h]; exact z)
    · rw [if_pos h]; exact ⟨d, .inl z⟩
    · rw [if_neg h]; exact e.ow i d (by rw [wipeE_at, if_neg h]; exact z)
    · rw [if_pos h]; exact ⟨d, z⟩
    · rw [if_neg h]; exact e.pw i d (by rw [wipeE_at, if_neg h]; exact z)
    · rw [if_pos h]; exact z
    · rw [if_neg h]; exact e.no i (by rw [wipeE_at, if_neg h]; exact z)
    · rw [if_pos h]; exact z
    · rw [if_neg h]; exact e.od i d (by rw [wipeE_at, if_neg h]; exact z)
  -- an own object that the block did not see
  have away : ∀ {i : Nat} {a : Addr}, i ∈ vs → IsOwn (slotAt ρ1 i) → σ[i]? = some (some (.ref a)) → ¬ OA (wipeE ρ1 vs) (L2.wipe σ vs) a := fun {i a} h o z => by
    rintro ⟨j, q, y⟩
    rw [wipeE_at] at q
    by_cases hj : j ∈ vs
    · rw [if_pos hj] at q; exact q
    · rw [if_neg hj] at q
      rw [out hj] at y
      exact hj (R1.dist i j a o q z y ▸ h)
  have own : ∀ {i : Nat}, IsOwn (slotAt (PV.unwipe ρ1 ρ2 vs) i) → (i ∈ vs ∧ IsOwn (slotAt ρ1 i)) ∨ (i ∉ vs ∧ IsOwn (slotAt ρ2 i) ∧ IsOwn (slotAt ρ1 i)) := fun {i} z => by
    rw [at'] at z
    by_cases h : i ∈ vs
    · rw [if_pos h] at z; exact .inl ⟨h, z⟩
    · rw [if_neg h] at z
      have := e.own z
      rw [wipeE_at, if_neg h] at this
      exact .inr ⟨h, z, this⟩
  have oa : ∀ a, OA (wipeE ρ1 vs) (L2.wipe σ vs) a → OA ρ1 σ a := (R1.wipe vs).2
  refine ⟨⟨R2.sub, by rw [unwipe_len, ← hl]; exact R1.len, fun i d z => ?_, fun i d z => ?_, fun i j a z w' y y' => ?_, fun i d a z y => ?_, R2.dom, R1.odr.step S.le S.mm (R1.hks S fun b z => oa b z) fun i ks z => ⟨es.od' z, rfl⟩⟩, es, ⟨S.le, fun b o z n => S.fr b o z fun y => n (oa b y), S.dm, fun b z z' => (S.nw b z z').imp id (oa b), fun b ⟨i, z, y⟩ => ?_, S.mm⟩⟩
  · rw [at'] at z
    by_cases h : i ∈ vs
    · rw [if_pos h] at z
      obtain ⟨v, h1, h2⟩ := R1.fz i d z
      exact ⟨v, h1, Rep.mono S.le _ _ h2⟩
    · rw [if_neg h] at z
      rw [← out h]; exact R2.fz i d z
  · by_cases h : i ∈ vs
    · rw [at', if_pos h] at z
      obtain ⟨a, o, h1, h2, h3, h4⟩ := R1.ow i d z
      have na := away h (by rcases z with z | z <;> (rw [z]; exact True.intro)) h1
      refine ⟨a, o, h1, ?_, S.fr a o h3 na, h4.mono S.le⟩
      cases q : F a with
      | none => rfl
      | some u =>
        rcases S.nw a h2 (by rw [q]; intro y; cases y) with y | y
        · rw [h3] at y; cases y
        · exact absurd y na
    · rw [at', if_neg h] at z
      rw [← out h]; exact R2.ow i d z
  · rcases own z with ⟨h1, h2⟩ | ⟨h1, h2, h3⟩
    · rcases own w' with ⟨g1, g2⟩ | ⟨g1, g2, g3⟩
      · exact R1.dist i j a h2 g2 y y'
      · exact R1.dist i j a h2 g3 y y'
    · rcases own w' with ⟨g1, g2⟩ | ⟨g1, g2, g3⟩
      · exact R1.dist i j a h3 g2 y y'
      · exact R1.dist i j a h3 g3 y y'
  · by_cases h : i ∈ vs
    · rw [at', if_pos h] at z; exact R1.new i d a z y
    · rw [at', if_neg h] at z
      rw [← out h] at y; exact R2.new i d a z y
  · rcases own z with ⟨h1, h2⟩ | ⟨h1, h2, h3⟩
    · exact .inl ⟨i, h2, y⟩
    · exact .inl ⟨i, h3, y⟩
/-! ### the turns -/
theorem gather_ok {α : Type} {f : D → Env → Out (List α)} {x : D} {r : List D} {ρ ρ2 : Env} {ds : List α} (h : gather f (x :: r) ρ = .ok ds ρ2) : ∃ o ρ1 ds', f x ρ = .ok o ρ1 ∧ gather f r ρ1 = .ok ds' ρ2 ∧ ds = o ++ ds' := by
  simp only [gather] at h
  cases h1 : f x ρ with
  | bad => rw [h1] at h; cases h
  | exc e ρ1 => rw [h1] at h; cases h
  | ok o ρ1 =>
    rw [h1] at h
    cases h2 : gather f r ρ1 with
    | bad => simp only [Out.bind, h2] at h; cases h
    | exc e ρ1 => simp only [Out.bind, h2] at h; cases h
    | ok ds' ρ3 =>
      simp only [Out.bind, h2] at h
      cases h
      exact ⟨o, ρ1, ds', rfl, h2, rfl⟩
theorem truth_ok {α : Type} {r : Out Val} {f : Bool → Env → Out α} {a : α} {ρ2 : Env} (h : (r.bind fun v ρ => truth v ρ f) = .ok a ρ2) : ∃ k ρ1, okB r = .ok k ρ1 ∧ f k ρ1 = .ok a ρ2 := by
  rw [truth_bind] at h
  cases h1 : okB r with
  | ok k ρ1 => rw [h1] at h; exact ⟨k, ρ1, rfl, h⟩
  | exc e ρ1 => rw [h1] at h; cases h
  | bad => rw [h1] at h; cases h
theorem bind_ok {α β : Type} {r : Out α} {f : α → Env → Out β} {b : β} {ρ2 : Env} (h : r.bind f = .ok b ρ2) : ∃ a ρ1, r = .ok a ρ1 ∧ f a ρ1 = .ok b ρ2 := by
  cases r with
  | ok a ρ1 => exact ⟨a, ρ1, rfl, h⟩
  | exc e ρ1 => cases h
  | bad => cases h
/-- no exception leaves a block -/
abbrev WN : WX := fun _ _ _ _ => False
/-- an expression that comes to a value, in a block -/
theorem post_ok {α β : Type} {F H : Hp} {σ : L2.St} {ρ ρ1 : Env} {VR : Hp → Hp → Env → α → β → Prop} {r : Out α} {x : α} {Q : β → Hp → Prop} (h : r = .ok x ρ1) (k : ∀ b F' H', Rel M H0 F' H' σ ρ1 → Stp F H (OA ρ σ) F' H' (OA ρ1 σ) → ES ρ ρ1 → VR F' H' ρ1 x b → Q b H') :
    Post M H0 W F H σ ρ VR r Q := by
  rw [h]; exact k
/-- one turn of a comprehension's element: what the block asks, from what the turn comes to -/
def fLc (T : Tb) (e c : CE) (t : CT) (own : List Nat) : D → Env → Out (List D) := fun x ρ => match tgt ρ t x with
  | none => .bad
  | some ρ => (ev T c ρ).bind fun b ρ => truth b ρ fun k ρ => if k then (ev T e ρ).bind fun v ρ => (okD v ρ).bind fun d ρ => .ok [d] (wipeE ρ own) else .ok [] (wipeE ρ own)
/-- the state between two turns -/
structure Mid (M : Nm) (H0 F1 H1 : Hp) (σ : L2.St) (own : List Nat) (ρw : Env) (D : Addr) (F H : Hp) (ρ : Env) : Prop where
  rel : Rel M H0 F H (wipe σ own) ρ
  stp : Stp F1 H1 (AD D ρw (wipe σ own)) F H (AD D ρ (wipe σ own))
  es : ES ρw ρ
  wiped : Wiped own ρ
  fd : F D = none
  nd : ¬ OA ρ (wipe σ own) D
/-- D and its own place behind a step -/
theorem pend_keep {F H F' H' : Hp} {σ σ' : L2.St} {ρ ρ' : Env} {D : Addr} {o : HO} (fd : F D = none) (hd : H D = some o) (nd : ¬ OA ρ σ D) (S : Stp F H (OA ρ σ) F' H' (OA ρ' σ')) : F' D = none ∧ H' D = some o ∧ ¬ OA ρ' σ' D := by
  refine ⟨?_, S.fr D o hd nd, fun z => ?_⟩
  · cases q : F' D with
    | none => rfl
    | some u =>
      rcases S.nw D fd (by rw [q]; intro y; cases y) with y | y
      · rw [hd] at y; cases y
      · exact absurd y nd
  · rcases S.ow D z with y | y
    · exact nd y
    · rw [hd] at y; cases y
theorem turn_ok {e c : CE} {t : CT} {own : List Nat} (hj : ∀ j ∈ t.slots, j ∈ own) {F1 H1 F H F' H' : Hp} {σ : L2.St} {ρw ρ ρ2 : Env} {D : Addr} {acc : List V} {x : V} {d : PV.D} {o : List PV.D} {Nx : Hp → Prop}
    (m : Mid M H0 F1 H1 σ own ρw D F H ρ) (hD : H D = some (.lst acc)) (hz : acc.length < sizeLine) (R : Rel M H0 F' H' (wipe σ own) ρ) (S : Stp F H (OA ρ (wipe σ own)) F' H' (OA ρ (wipe σ own))) (r : Rep M F' d x) (h : fLc T e c t own d ρ = .ok o ρ2)
    (k : ∀ F2 H2 ys, Mid M H0 F1 H1 σ own ρw D F2 H2 ρ2 → Le F F2 → Reps M F2 o ys → H2 D = some (.lst (acc ++ ys)) → Nx H2) :
    tG M H0 t x (wipe σ own) H' fun σ2 H2 => wipe σ2 own = wipe σ own ∧ tT M H0 WN T c σ2 H2 fun b H3 =>
      if b = true then tE M H0 WN T e σ2 H3 fun y H4 => ∃ acc, H4 D = some (.lst acc) ∧ acc.length < sizeLine ∧ Nx (upd H4 D (.lst (acc ++ [y]))) else Nx H3 := by
  refine ⟨F', ρ, d, R, r, ?_⟩
  unfold fLc at h
  cases h1 : tgt ρ t d with
  | none => rw [h1] at h; cases h
  | some ρa =>
    rw [h1] at h
    dsimp only at h
    intro σ2 R2 O2 P2 N2
    have ew := wipe_only N2 hj
    refine ⟨ew, F', ρa, R2, ?_⟩
    obtain ⟨q, ρb, h2, h3⟩ := truth_ok h
    refine post_ok h2 fun b F3 H3 R3 S3 E3 V3 => ?_
    subst V3
    have St3 : Stp F H (OA ρ (wipe σ own)) F3 H3 (OA ρb σ2) := (S.shrink O2).trans S3
    have fin : ∀ {F4 H4 : Hp} {ρc : Env}, Rel M H0 F4 H4 σ2 ρc → Stp F H (OA ρ (wipe σ own)) F4 H4 (OA ρc σ2) → ES ρa ρc → Mid M H0 F1 H1 σ own ρw D F4 H4 (wipeE ρc own) ∧ H4 D = some (.lst acc) := fun {F4 H4 ρc} R4 S4 E4 => by
      obtain ⟨g1, g2, g3⟩ := pend_keep m.fd hD m.nd S4
      obtain ⟨R5, O5⟩ := R4.wipe own
      rw [ew] at R5 O5
      exact ⟨⟨R5, m.stp.trans (S4.shrink O5).liftD, m.es.trans (es_turn m.wiped h1 hj E4), wiped_wipe _ _, g1, fun z => g3 (O5 D z)⟩, g2⟩
    cases q with
    | false =>
      rw [if_neg (by decide)] at h3 ⊢
      cases h3
      obtain ⟨m2, g2⟩ := fin R3 St3 E3
      exact k F3 H3 [] m2 St3.le Reps.nil (by rw [List.append_nil]; exact g2)
    | true =>
      rw [if_pos rfl] at h3 ⊢
      obtain ⟨v, ρc, h4, h5⟩ := bind_ok h3
      obtain ⟨dd, ρd, h6, h7⟩ := bind_ok h5
      cases h7
      refine ⟨F3, ρb, R3, post_ok h4 fun y F4 H4 R4 S4 E4 V4 => ?_⟩
      obtain ⟨F5, R5, S5, E5, r5, _⟩ := okD_ok (F := F3) (H := H3) R4 S4 V4.1 V4.2 h6
      obtain ⟨m2, g2⟩ := fin R5 (St3.trans S5) (E3.trans (E4.trans E5))
      refine ⟨acc, g2, hz, k F5 _ [y] ⟨m2.rel.pend m2.fd m2.nd, m2.stp.trans (Stp.pend (by rw [g2]; intro z; cases z)), m2.es, m2.wiped, m2.fd, m2.nd⟩ (St3.trans S5).le (Reps.cons r5 Reps.nil) upd_same⟩
theorem i_lc {HX : Hp} {e c : CE} {t : CT} {it : CI} {own : List Nat} (hj : ∀ j ∈ t.slots, j ∈ own) (hW : ∀ cls d σ H H', Unl HX H H' → W cls d σ H' → W cls d σ H) {σ : L2.St} {H : Hp} {Q : VK} (h : tE M H0 W T (.lc e t it c own) σ H Q) :
    tUnlE HX (tLc (tI M H0 W T HX it) (tG M H0 t) (tT M H0 WN T c) (tE M H0 WN T e) own) σ H Q := by
  obtain ⟨F, ρ, R, p⟩ := h
  simp only [ev] at p
  refine ⟨F, ρ, R, ?_⟩
  cases h1 : evI T it ρ with
  | bad => rw [h1] at p; exact p
  | exc ex ρ1 => rw [h1] at p; exact p
  | ok ds ρ1 =>
    rw [h1] at p
    intro J F0 H0' F1 H1 R0 S0 E0 k I D hD
    have R1 := k.rel R0
    have p' : Post M H0 W F H σ ρ (VR1 M H σ) ((calm (gather (fLc T e c t own) ds (wipeE ρ1 own))).bind fun ds ρ2 => if ds.length ≤ LIM then .ok (.n (.lst ds)) (unwipe ρ1 ρ2 own) else .bad) Q := p
    cases h2 : gather (fLc T e c t own) ds (wipeE ρ1 own) with
    | bad => rw [h2] at p'; exact p'.elim
    | exc ex ρ2 => rw [h2] at p'; exact p'.elim
    | ok out ρ2 =>
      rw [h2] at p'
      simp only [calm, Out.bind] at p'
      by_cases hz : out.length ≤ LIM
      case neg => rw [if_neg hz] at p'; exact p'.elim
      rw [if_pos hz] at p'
      have hL := LIM_line
      have f1D : F1 D = none := R1.sub.d D hD
      have n1D : ¬ OA ρ1 σ D := not_oa R1 hD
      obtain ⟨Rw, Ow⟩ := R1.wipe own
      have m0 : Mid M H0 F1 (upd H1 D (.lst [])) σ own (wipeE ρ1 own) D F1 (upd H1 D (.lst [])) (wipeE ρ1 own) :=
        ⟨Rw.pend f1D (fun z => n1D (Ow D z)), Stp.refl _ _ _, ES.refl _, wiped_wipe _ _, f1D, fun z => n1D (Ow D z)⟩
      -- what the walk leaned on stands
      have kp : ∀ {F' H' : Hp} {ρ' : Env}, Mid M H0 F1 (upd H1 D (.lst [])) σ own (wipeE ρ1 own) D F' H' ρ' → Keep F1 H1 H' := fun {F' H' ρ'} m b o hb he => by
        have nb : b ≠ D := by rintro rfl; exact hb.1 f1D
        refine m.stp.fr b o (by rw [upd_ne nb]; exact he) ?_
        rintro (z | z)
        · exact hb.1 (Rw.oan z)
        · exact nb z
      refine ⟨fun i m H' => m = ds.length - i ∧ i ≤ ds.length ∧ ∃ F' ρ' pre post acc, gather (fLc T e c t own) (ds.drop i) ρ' = .ok post ρ2 ∧ out = pre ++ post ∧ Mid M H0 F1 (upd H1 D (.lst [])) σ own (wipeE ρ1 own) D F' H' ρ' ∧ Reps M F' pre acc ∧ H' D = some (.lst acc),
        ⟨ds.length, by simp, Nat.zero_le _, F1, wipeE ρ1 own, [], out, [], by simpa using h2, rfl, m0, Reps.nil, upd_same⟩, ?_⟩
      rintro i m H' ⟨rfl, hi, F', ρ', pre, post, acc, g, ho, md, ra, hd⟩
      by_cases hlt : i < ds.length
      · have ed : ∃ d, ds[i]? = some d ∧ ds.drop i = d :: ds.drop (i + 1) := ⟨ds[i], List.getElem?_eq_getElem hlt, List.drop_eq_getElem_cons hlt⟩
        obtain ⟨d0, hd0, ed⟩ := ed
        rw [ed] at g
        obtain ⟨o, ρ3, post', g1, g2, rfl⟩ := gather_ok g
        refine .inr ⟨I.go i H' hlt (kp md), fun H2 => (ds.length - (i + 1)) = ds.length - (i + 1) ∧ i + 1 ≤ ds.length ∧ ∃ F' ρ' pre post acc, gather (fLc T e c t own) (ds.drop (i + 1)) ρ' = .ok post ρ2 ∧ out = pre ++ post ∧ Mid M H0 F1 (upd H1 D (.lst [])) σ own (wipeE ρ1 own) D F' H2 ρ' ∧ Reps M F' pre acc ∧ H2 D = some (.lst acc),
          fun H2 z => ⟨ds.length - (i + 1), by omega, z⟩, fun x H2 y => ?_⟩
        obtain ⟨d, F2, hdd, R2, S2, r2⟩ := I.turn md.stp.le md.rel (kp md) hlt y
        rw [hd0] at hdd; cases hdd
        have hacc : acc.length < sizeLine := by
          have q1 := ra.length
          have q2 : out.length = pre.length + (o ++ post').length := by rw [ho, List.length_append]
          have : sizeLine = 16777216 := sizeLine_eq
          have : LIM = 16000000 := rfl
          omega
        refine turn_ok hj md hd hacc R2 S2 r2 g1 fun F3 H3 ys m3 le3 r3 h3 => ⟨rfl, hlt, F3, ρ3, pre ++ o, post', acc ++ ys, g2, by rw [ho, List.append_assoc], m3, (Reps.mono le3 _ _ ra).append r3, h3⟩
      · have e : i = ds.length := by omega
        subst e
        rw [List.drop_length] at g
        simp only [gather] at g
        cases g
        refine .inl ⟨I.stop H' (kp md), ?_⟩
        rw [List.append_nil] at ho
        subst ho
        -- the block's end
        have St : Stp F1 H1 (OA (wipeE ρ1 own) (L2.wipe σ own)) F' H' (AD D ρ2 (L2.wipe σ own)) := by
          refine ⟨md.stp.le, fun b o hb n => ?_, fun b hb => ?_, fun b hb hb' => ?_, fun b hb => ?_, md.stp.mm⟩
          · have nb : b ≠ D := by rintro rfl; rw [hD] at hb; cases hb
            exact md.stp.fr b o (by rw [upd_ne nb]; exact hb) fun z => z.elim n nb
          · have := md.stp.dm b hb
            by_cases q : b = D
            · rw [q]; exact hD
            · rw [upd_ne q] at this; exact this
          · rcases md.stp.nw b hb hb' with z | z
            · by_cases q : b = D
              · subst q; rw [upd_same] at z; cases z
              · rw [upd_ne q] at z; exact .inl z
            · rcases z with z | z
              · exact .inr z
              · subst z; exact absurd md.fd hb'
          · rcases md.stp.ow b hb with z | z
            · rcases z with z | z
              · exact .inl z
              · subst z; exact .inr hD
            · by_cases q : b = D
              · subst q; exact .inr hD
              · rw [upd_ne q] at z; exact .inr z
        obtain ⟨R5, E5, S5⟩ := R1.unwipe hD md.rel md.wiped md.es St
        obtain ⟨F6, H6, u6, R6, S6', le6, nn6, same6⟩ := k.back (HW := HAll) R1 R5 S5
        have S6 := S6'.all
        refine ⟨H6, u6, p' (.ref D) F6 H6 R6 (S0.trans S6) (E0.trans E5) ⟨⟨D, .lst acc, rfl, nn6 D md.fd, (same6 D md.fd).trans hd, ra.mono le6 _ _, fun z => ?_⟩, fun d' a z z' => ?_⟩⟩
        · exact n1D (E5.oa z)
        · cases z'
          have hD0 : H0' D = none := by
            rcases k with ⟨_, rfl⟩ | ⟨b, od, kvs, _, q2, _, _, rfl⟩
            · exact hD
            · by_cases q : D = b
              · subst q; rw [upd_same] at hD; cases hD
              · rw [upd_ne q] at hD; exact hD
          exact S0.dm D hD0
end
end PV

set_option Elab.async false
set_option linter.all false
set_option maxRecDepth 100000
set_option maxHeartbeats 1000000
/-! PvK: == and != of data: lists, tuples, dicts, both answers. -/
namespace PV
open PySem PySem.SeqAt
open AutoSeq1 (wpAny_loadPart')
open MeetsSeq MeetsSeq2 MeetsSeq3 SeqRoads2
section
variable {prog : Program} {w : World}
theorem ne_loopP (l b : Addr) (items items2 : Array Value) (n n2 : Nat) (dd dd2 : Option Addr) (sl sl2 : Array (Option Value)) (hsz : items.size = items2.size) (e : Nat → Bool) (k : Nat) :
    ∀ i : Nat, items.size - i = k → MeetsIn prog w (Builtin.«list.__eq__.loop» ⟨[.ref l, .ref b, rawInt i, rawInt 3], []⟩)
      (fun A R s => s.heap.get? l = some { cls := .type "list", dict := dd, data := .seq items n, slots := sl } ∧ s.heap.get? b = some { cls := .type "list", dict := dd2, data := .seq items2 n2, slots := sl2 } ∧
        (∀ j (h1 : j < items.size) (h2 : j < items2.size), EqP prog w A.in1 s items[j] items2[j] (e j)) ∧
        R (.ok (.ret (.bool (!((List.range items.size).drop i).all e)))) s) := by
  induction k with
  | zero =>
    intro i hk A R s ⟨hl, hb, he, h⟩
    obtain ⟨hp, g, d, tk, os⟩ := s
    wp_walk using wpAny_loadPart' hl, wpAny_loadPart' hb
    have a1 : items[((i : Nat) : Int).toNat]? = none := by simp; omega
    have a2 : items2[((i : Nat) : Int).toNat]? = none := by simp; omega
    have a3 : (List.range items.size).drop i = [] := by simp; omega
    rw [a3] at h
    rw [a1, a2]
    wp_walk using wpAny_loadPart' hl, wpAny_loadPart' hb
    show R (.ok (.ret (.bool (items.size != items2.size)))) _
    rw [hsz]
    simpa using h
  | succ k ih =>
    intro i hk A R s ⟨hl, hb, he, h⟩
    obtain ⟨hp, g, d, tk, os⟩ := s
    wp_walk using wpAny_loadPart' hl, wpAny_loadPart' hb
    have q1 : i < items.size := by omega
    have q2 : i < items2.size := by omega
    have a1 : items[((i : Nat) : Int).toNat]? = some items[i] := by simp [q1]
    have a2 : items2[((i : Nat) : Int).toNat]? = some items2[i] := by simp [q2]
    have a3 : (List.range items.size).drop i = i :: (List.range items.size).drop (i + 1) := by simp [List.drop_eq_getElem_cons, q1]
    have a4 : ((i : Int) + 1) = ((i + 1 : Nat) : Int) := by push_cast; rfl
    rw [a3, List.all_cons] at h
    rw [a1, a2]
    refine wpAny_bind (he i q1 q2 _ _ ?_)
    cases z : e i with
    | true =>
      rw [z] at h
      wp_walk
      rw [a4]
      exact ⟨plainId_quiet plain_eq_loop _, codeAny_builtin entry_eq_loop (by
        rw [Around.under_plainId plain_eq_loop _]
        exact ih (i + 1) (by omega) A R _ ⟨hl, hb, he, by simpa using h⟩)⟩
    | false =>
      rw [z] at h
      wp_walk using wpAny_loadPart' hl, wpAny_loadPart' hb
      rw [a1, a2]
      wp_walk
      simpa using h
theorem list_neP (l b : Addr) (items items2 : Array Value) (n n2 : Nat) (dd dd2 : Option Addr) (sl sl2 : Array (Option Value)) (hsz : items.size = items2.size) (e : Nat → Bool) :
    MeetsIn prog w (Builtin.«list.__ne__» ⟨[.ref l, .ref b], []⟩)
      (fun A R s => s.heap.get? l = some { cls := .type "list", dict := dd, data := .seq items n, slots := sl } ∧ s.heap.get? b = some { cls := .type "list", dict := dd2, data := .seq items2 n2, slots := sl2 } ∧
        (∀ j (h1 : j < items.size) (h2 : j < items2.size), EqP prog w A.in1 s items[j] items2[j] (e j)) ∧
        R (.ok (.ret (.bool (!(List.range items.size).all e)))) s) := by
  intro A R s ⟨hl, hb, he, h⟩
  obtain ⟨hp, g, d, tk, os⟩ := s
  have f3 := AutoSeq1.sub_list_list
  have hne : ¬ (items.size != items2.size) = true := by simp [hsz]
  wp_walk using wpAny_loadPart' hl, wpAny_loadPart' hb
  exact ⟨plainId_quiet plain_eq_loop _, codeAny_builtin entry_eq_loop (by
    rw [Around.under_plainId plain_eq_loop _]
    exact ne_loopP l b items items2 n n2 dd dd2 sl sl2 hsz e _ 0 rfl A R _ ⟨hl, hb, he, by simpa using h⟩)⟩
theorem rcNeP_lists {A : Around} {s : Shared} {l b : Addr} {items items2 : Array Value} {e : Nat → Bool} (hl : s.heap.IsList l items) (hb : s.heap.IsList b items2) (hsz : items.size = items2.size) (hu : A.units < cLine)
    (he : ∀ j (h1 : j < items.size) (h2 : j < items2.size), EqP prog w A.in1 s items[j] items2[j] (e j)) (E Q : Value → Shared → Prop) (h : Q (.bool (!(List.range items.size).all e)) s) : wpAny (model prog w) A (richCompare .NotEq (.ref l) (.ref b)) Q E s := by
  obtain ⟨⟨cls, dd, data, sl⟩, ho, hc, n, hd⟩ := id hl
  obtain ⟨⟨cls2, dd2, data2, sl2⟩, ho2, hc2, n2, hd2⟩ := id hb
  simp only at hc hd hc2 hd2
  subst hc hd hc2 hd2
  have ta : s.TypeIs (.ref l) "list" := ⟨_, ho, rfl⟩
  have tb : s.TypeIs (.ref b) "list" := ⟨_, ho2, rfl⟩
  exact wpAny_richCompare_same_room (op := .NotEq) ta tb F.slot_list_ne (call_meetsIn F.slot_list_ne ta F.entry_list_ne (F.args_list_ne_2 _ _) (list_neP l b items items2 n n2 dd dd2 sl sl2 hsz e)
    ⟨ho, ho2, he, show Value.bool (!(List.range items.size).all e) ≠ Value.notImplemented ∧ Q (.bool (!(List.range items.size).all e)) s from ⟨(fun x => nomatch x), h⟩⟩) hu
theorem rcNeP_dicts {K : Type} [DecidableEq K] {knd : KeyKind prog w K} {A : Around} {s : Shared} {a b : Addr} {ka kb : List (K × Value)} {r : Bool} (ha : (a == sysModules) = false) (hb : (b == sysModules) = false)
    (da : s.heap.DictOf knd a ka) (db : s.heap.DictOf knd b kb) (hu : A.units < cLine) (hits : ka.length = kb.length → PySem.W.KeqHitsP prog w A.in1 s kb ka r) (E Q : Value → Shared → Prop) (h : Q (.bool (!(ka.length == kb.length && r))) s) :
    wpAny (model prog w) A (richCompare .NotEq (.ref a) (.ref b)) Q E s := by
  refine wpAny_richCompare_same_room (op := .NotEq) da.typeIs db.typeIs PySem.F.slot_dict_ne (wpAny_call_entry PySem.F.slot_dict_ne da.typeIs PySem.F.entry_dict_ne ?_ (PySem.F.args_dict_ne_2 _ _)) hu
  show wpAny _ _ (Builtin.Dict.dictSlotArgs "__ne__" ⟨[.ref a, .ref b], []⟩ >>= _) _ _ s
  refine wpAny_bind ?_
  unfold Builtin.Dict.dictSlotArgs
  refine wpAny_bind (wpAny_notOrdered_dict da.typeIs ?_)
  show wpAny _ _ (pure (Value.ref a, Value.ref b)) _ _ s
  refine wpAny_pure ?_
  refine wpAny_bind (wpAny_isInstance (T := "dict") db.typeIs PySem.F.sub_dict_dict ?_)
  simp only [Bool.not_true, Bool.false_eq_true, if_false]
  refine wpAny_bind (wpAny_pure (wpAny_bind (wpAny_pure ?_)))
  refine wpAny_bind (PySem.W.samePairsP ha hb da db hits ?_)
  refine wpAny_pure ⟨_, rfl, ?_, ?_⟩
  · exact fun x => nomatch x
  · simpa using h
end
end PV
namespace PV
open PySem PySem.SeqAt L2
/-! ### what is compared -/
theorem RT.flat {M : Nm} {F H : Hp} {d : D} {v : V} (f : d.flat = true) (h : RT M F H d v) : (d = .non ∧ v = .non) ∨ (∃ b, d = .bl b ∧ v = .bl b) ∨ (∃ i, d = .int i ∧ v = .int i) ∨ ∃ x, d = .str x ∧ v = .str x := by
  cases d with
  | non => exact .inl ⟨rfl, h.non⟩
  | bl b => exact .inr (.inl ⟨b, rfl, h.bl⟩)
  | int i => exact .inr (.inr (.inl ⟨i, rfl, h.int⟩))
  | str x => exact .inr (.inr (.inr ⟨x, rfl, h.str⟩))
  | _ => exact absurd f Bool.false_ne_true
section
variable {A : Around} {s : Shared} {M : Nm} {F H : Hp} {a b : D} {x y : V} {v u : Value}
theorem flat_eqAt (fa : a.flat = true) (fb : b.flat = true) (ra : RT M F H a x) (rb : RT M F H b y) (rx : RelV x v) (ry : RelV y u) : EqAt A s v u (D.eqf a b) := by
  have k := fun (f : flatV x = true) (g : flatV y = true) => eqAt_V (A := A) (s := s) rx ry f g
  rcases ra.flat fa with ⟨rfl, rfl⟩ | ⟨i, rfl, rfl⟩ | ⟨i, rfl, rfl⟩ | ⟨i, rfl, rfl⟩ <;> rcases rb.flat fb with ⟨rfl, rfl⟩ | ⟨j, rfl, rfl⟩ | ⟨j, rfl, rfl⟩ | ⟨j, rfl, rfl⟩ <;> exact k rfl rfl
theorem flat_rcAt (fa : a.flat = true) (fb : b.flat = true) (ra : RT M F H a x) (rb : RT M F H b y) (rx : RelV x v) (ry : RelV y u) : RcAt A s v u (D.eqf a b) ∧ RcNeAt A s v u (!D.eqf a b) := by
  rcases ra.flat fa with ⟨rfl, rfl⟩ | ⟨i, rfl, rfl⟩ | ⟨i, rfl, rfl⟩ | ⟨i, rfl, rfl⟩ <;> rcases rb.flat fb with ⟨rfl, rfl⟩ | ⟨j, rfl, rfl⟩ | ⟨j, rfl, rfl⟩ | ⟨j, rfl, rfl⟩
  · cases rx; cases ry; exact ⟨.none_none, .none_none⟩
  · cases rx; cases ry; exact ⟨.none_bool _, .none_bool _⟩
  · obtain ⟨t, rfl⟩ := ry; cases rx; exact ⟨.none_int _ _, .none_int _ _⟩
  · obtain ⟨t, rfl⟩ := ry; cases rx; exact ⟨.none_str _ _, .none_str _ _⟩
  · cases rx; cases ry; exact ⟨.bool_none _, .bool_none _⟩
  · cases rx; cases ry; exact ⟨.bool_bool _ _, .bool_bool _ _⟩
  · obtain ⟨t, rfl⟩ := ry; cases rx; exact ⟨.bool_int _ _ _, .bool_int _ _ _⟩
  · obtain ⟨t, rfl⟩ := ry; cases rx; exact ⟨.bool_str _ _ _, .bool_str _ _ _⟩
  · obtain ⟨t, rfl⟩ := rx; cases ry; exact ⟨.int_none _ _, .int_none _ _⟩
  · obtain ⟨t, rfl⟩ := rx; cases ry; exact ⟨.int_bool _ _ _, .int_bool _ _ _⟩
  · obtain ⟨t, rfl⟩ := rx; obtain ⟨t', rfl⟩ := ry; exact ⟨.int_int _ _ _ _, .int_int _ _ _ _⟩
  · obtain ⟨t, rfl⟩ := rx; obtain ⟨t', rfl⟩ := ry; exact ⟨.int_str _ _ _ _, .int_str _ _ _ _⟩
  · obtain ⟨t, rfl⟩ := rx; cases ry; exact ⟨.str_none _ _, .str_none _ _⟩
  · obtain ⟨t, rfl⟩ := rx; cases ry; exact ⟨.str_bool _ _ _, .str_bool _ _ _⟩
  · obtain ⟨t, rfl⟩ := rx; obtain ⟨t', rfl⟩ := ry; exact ⟨.str_int _ _ _ _, .str_int _ _ _ _⟩
  · obtain ⟨t, rfl⟩ := rx; obtain ⟨t', rfl⟩ := ry; exact ⟨.str_str _ _ _ _, .str_str _ _ _ _⟩
theorem flat_same (fa : a.flat = true) (fb : b.flat = true) (ra : RT M F H a x) (rb : RT M F H b x) : D.eqf a b = true := by
  rcases ra.flat fa with ⟨rfl, rfl⟩ | ⟨i, rfl, rfl⟩ | ⟨i, rfl, rfl⟩ | ⟨i, rfl, rfl⟩ <;> rcases rb.flat fb with ⟨rfl, e⟩ | ⟨j, rfl, e⟩ | ⟨j, rfl, e⟩ | ⟨j, rfl, e⟩ <;> cases e <;> simp [D.eqf]
end
/-- the j-th answer -/
def ansAt (f : D → D → Option Bool) (xs ys : List D) (j : Nat) : Bool := match xs[j]?, ys[j]? with
  | some x, some y => (f x y).getD false
  | _, _ => false
theorem allO_zip {f : D → D → Option Bool} : ∀ {xs ys : List D} {e : Bool}, allO (List.zipWith f xs ys) = some e →
    (∀ (j : Nat) x y, xs[j]? = some x → ys[j]? = some y → f x y = some (ansAt f xs ys j)) ∧ (List.range (min xs.length ys.length)).all (ansAt f xs ys) = e
  | [], ys, e, h => by
    simp [allO] at h
    exact ⟨fun j x y h1 => by simp at h1, by simp [h]⟩
  | _ :: _, [], e, h => by
    simp [allO] at h
    exact ⟨fun j x y h1 h2 => by simp at h2, by simp [h]⟩
  | x :: xs, y :: ys, e, h => by
    rw [List.zipWith_cons_cons] at h
    cases q : f x y with
    | none => rw [q] at h; simp [allO] at h
    | some c =>
      rw [q] at h
      simp only [allO] at h
      cases r : allO (List.zipWith f xs ys) with
      | none => rw [r] at h; simp at h
      | some e' =>
        rw [r] at h
        simp at h
        obtain ⟨h1, h2⟩ := allO_zip r
        refine ⟨fun j x' y' g1 g2 => ?_, ?_⟩
        · cases j with
          | zero => simp at g1 g2; subst g1; subst g2; simp [ansAt, q]
          | succ j => simp at g1 g2; rw [h1 j x' y' g1 g2]; simp [ansAt]
        · rw [List.length_cons, List.length_cons, Nat.succ_min_succ, List.range_succ_eq_map, List.all_cons, List.all_map]
          rw [show (ansAt f (x :: xs) (y :: ys) ∘ Nat.succ) = ansAt f xs ys from by funext j; simp [ansAt], h2, ← h]
          simp [ansAt, q]
theorem Rd.unique {H : Hp} {a : Addr} {o u : HO} (h : Rd H a o) (g : Rd H a u) (n : ∀ ob w, o ≠ .frz ob w) (m : ∀ ob w, u ≠ .frz ob w) : o = u := by
  rcases h with h | ⟨x, h⟩ <;> rcases g with g | ⟨y, g⟩ <;> rw [h] at g
  · exact Option.some.inj g
  · exact absurd (Option.some.inj g) (n _ _)
  · exact absurd (Option.some.inj g).symm (m _ _)
  · injection g with g; injection g with _ g
theorem eqAt_refs {A : Around} {s : Shared} {l b : Addr} {e : Bool} (h : RcAt A s (.ref l) (.ref b) e) (q : l = b → e = true) : EqAt A s (.ref l) (.ref b) e := by
  by_cases z : l = b
  · rw [q z, z]; exact .same _
  · exact .of_refs z h
theorem eqP_refs' {prog : Program} {w : World} {A : Around} {s : Shared} {l b : Addr} {e : Bool} (h : ∀ (E Q : Value → Shared → Prop), Q (.bool e) s → wpAny (model prog w) A (richCompare .Eq (.ref l) (.ref b)) Q E s) (q : l = b → e = true) : EqP prog w A s (.ref l) (.ref b) e := by
  by_cases z : l = b
  · rw [q z, z]; exact (EqAt.same _).eqP
  · exact eqP_refs z h
/-- all answers about the same values are True -/
theorem zip_same {f : D → D → Option Bool} {M : Nm} {F : Hp} (k : ∀ a b v e, Rep M F a v → Rep M F b v → f a b = some e → e = true) : ∀ {xs ys : List D} {vs : List V} {e : Bool}, Reps M F xs vs → Reps M F ys vs → allO (List.zipWith f xs ys) = some e → e = true
  | [], ys, vs, e, h1, h2, h => by simp [allO] at h; exact h
  | x :: xs, [], vs, e, h1, h2, h => by simp [allO] at h; exact h
  | x :: xs, y :: ys, vs, e, h1, h2, h => by
    obtain ⟨v, ws, rfl, r1, t1⟩ := h1
    obtain ⟨v', ws', e', r2, t2⟩ := h2
    cases e'
    rw [List.zipWith_cons_cons] at h
    cases q : f x y with
    | none => rw [q] at h; simp [allO] at h
    | some c =>
      rw [q] at h
      simp only [allO] at h
      cases r : allO (List.zipWith f xs ys) with
      | none => rw [r] at h; simp at h
      | some e' =>
        rw [r] at h
        simp at h
        rw [← h, k x y v c r1 r2 q, zip_same k t1 t2 r]; rfl
section
variable {X : Cx} {pins : List (Addr × Obj)} {σ : L2.St} {F H : Hp} {s : Shared} {M : Nm}
theorem eq2_same (le : Le F H) : ∀ (n : Nat) (a b : D) (x : V) (e : Bool), RT M F H a x → RT M F H b x → D.eq2 n a b = some e → e = true := by
  intro n
  induction n with
  | zero =>
    intro a b x e ra rb h
    unfold D.eq2 flatE at h
    split at h
    · rename_i f
      rw [Bool.and_eq_true] at f
      cases h; exact flat_same f.1 f.2 ra rb
    · cases h
  | succ n ih =>
    intro a b x e ra rb h
    unfold D.eq2 at h
    split at h
    · obtain ⟨l, vs, rfl, h1, h2⟩ := ra.lstR le
      obtain ⟨l', vs', e', h3, h4⟩ := rb.lstR le
      cases e'
      cases Rd.unique h1 h3 (fun _ _ z => by cases z) fun _ _ z => by cases z
      split at h
      · exact zip_same (fun a b v e r1 r2 q => ih a b v e (.inl r1) (.inl r2) q) h2 h4 h
      · rename_i z; exact absurd (h2.length.trans h4.length.symm) z
    · obtain ⟨l, vs, rfl, h1, h2⟩ := ra.tup le
      obtain ⟨l', vs', e', h3, h4⟩ := rb.tup le
      cases e'
      rw [h1] at h3; cases h3
      split at h
      · exact zip_same (fun a b v e r1 r2 q => ih a b v e (.inl r1) (.inl r2) q) h2 h4 h
      · rename_i z; exact absurd (h2.length.trans h4.length.symm) z
    · unfold flatE at h
      split at h
      · rename_i f
        rw [Bool.and_eq_true] at f
        cases h; exact flat_same f.1 f.2 ra rb
      · cases h
/-- the items of two lists -/
theorem items_at {P : Value → Value → Bool → Prop} {f : D → D → Option Bool} {xs ys : List D} {vs ws : List V} {us zs : List Value} {e : Bool} (h1 : Reps M F xs vs) (h2 : Reps M F ys ws) (r1 : Vals vs us) (r2 : Vals ws zs)
    (h : allO (List.zipWith f xs ys) = some e) (k : ∀ a b x y v u c, Rep M F a x → Rep M F b y → RelV x v → RelV y u → f a b = some c → P v u c) :
    ∀ j (j1 : j < us.toArray.size) (j2 : j < zs.toArray.size), P us.toArray[j] zs.toArray[j] (ansAt f xs ys j) := by
  intro j j1 j2
  have l1 : j < vs.length := by rw [r1.length]; simpa using j1
  have l2 : j < ws.length := by rw [r2.length]; simpa using j2
  obtain ⟨a, ha, ra⟩ := h1.get (List.getElem?_eq_getElem l1)
  obtain ⟨b, hb, rb⟩ := h2.get (List.getElem?_eq_getElem l2)
  obtain ⟨v, hv, rv⟩ := r1.get (List.getElem?_eq_getElem l1)
  obtain ⟨u, hu, ru⟩ := r2.get (List.getElem?_eq_getElem l2)
  have e1 : us.toArray[j] = v := by
    rw [List.getElem?_eq_getElem (by simpa using j1)] at hv
    simpa using hv
  have e2 : zs.toArray[j] = u := by
    rw [List.getElem?_eq_getElem (by simpa using j2)] at hu
    simpa using hu
  rw [e1, e2]
  exact k a b _ _ v u _ ra rb rv ru ((allO_zip h).1 j a b ha hb)
theorem eq2_rc (I : Inv X pins σ H s) (hk : X.K = M.K) (le : Le F H) : ∀ (n : Nat) (A : Around), A.units + n < cLine → ∀ (a b : D) (x y : V) (v u : Value) (e : Bool), D.eq2 n a b = some e → RT M F H a x → RT M F H b y → RelV x v → RelV y u →
    RcAt A s v u e ∧ RcNeAt A s v u (!e) ∧ EqAt A s v u e := by
  intro n
  induction n with
  | zero =>
    intro A hu a b x y v u e h ra rb rx ry
    unfold D.eq2 flatE at h
    split at h
    · rename_i f
      rw [Bool.and_eq_true] at f
      cases h
      exact ⟨(flat_rcAt f.1 f.2 ra rb rx ry).1, (flat_rcAt f.1 f.2 ra rb rx ry).2, flat_eqAt f.1 f.2 ra rb rx ry⟩
    · cases h
  | succ n ih =>
    intro A hu a b x y v u e h ra rb rx ry
    have h0 := h
    unfold D.eq2 at h
    have hu1 : A.in1.units + n < cLine := by show A.units + 1 + n < cLine; omega
    have hu0 : A.units < cLine := by omega
    split at h
    · obtain ⟨l, vs, rfl, h1, h2⟩ := ra.lst le
      obtain ⟨l', ws, rfl, h3, h4⟩ := rb.lst le
      cases rx; cases ry
      rw [← hk] at h1 h3
      obtain ⟨us, r1, p1, _⟩ := I.list h1
      obtain ⟨zs, r2, p2, _⟩ := I.list h3
      have q1 : us.toArray.size = _ := List.size_toArray.trans (r1.length.symm.trans h2.length.symm)
      have q2 : zs.toArray.size = _ := List.size_toArray.trans (r2.length.symm.trans h4.length.symm)
      have same : l = l' → e = true := fun z => eq2_same le (n + 1) _ _ _ e ra (z ▸ rb) h0
      split at h
      · rename_i hl
        have k := items_at h2 h4 r1 r2 h fun a b x y v u c g1 g2 g3 g4 g5 => (ih A.in1 hu1 a b x y v u c g5 (.inl g1) (.inl g2) g3 g4).2.2
        have hsz : us.toArray.size = zs.toArray.size := by rw [q1, q2, hl]
        have c1 := RcAt.lists p1.isList p2.isList hsz hu0 k
        have c2 := RcNeAt.lists p1.isList p2.isList hsz hu0 k
        have z := (allO_zip h).2
        rw [← hl, Nat.min_self] at z
        rw [q1, z] at c1 c2
        exact ⟨c1, c2, eqAt_refs c1 same⟩
      · rename_i hl
        cases h
        have hsz : (us.toArray.size != zs.toArray.size) = true := by rw [q1, q2]; simpa using hl
        have c1 := RcAt.lists_lengths (A := A) p1.isList p2.isList hsz hu0
        exact ⟨c1, RcNeAt.lists_lengths p1.isList p2.isList hsz hu0, eqAt_refs c1 same⟩
    · rename_i xs ys
      obtain ⟨l, vs, rfl, h1, h2⟩ := ra.tup le
      obtain ⟨l', ws, rfl, h3, h4⟩ := rb.tup le
      cases rx; cases ry
      obtain ⟨us, r1, p1, _⟩ := I.tuple (.inl (.inl h1))
      obtain ⟨zs, r2, p2, _⟩ := I.tuple (.inl (.inl h3))
      have q1 : us.toArray.size = _ := List.size_toArray.trans (r1.length.symm.trans h2.length.symm)
      have q2 : zs.toArray.size = _ := List.size_toArray.trans (r2.length.symm.trans h4.length.symm)
      have same : l = l' → e = true := fun z => eq2_same le (n + 1) _ _ _ e ra (z ▸ rb) h0
      split at h
      · rename_i hl
        have k := items_at h2 h4 r1 r2 h fun a b x y v u c g1 g2 g3 g4 g5 => (ih A.in1 hu1 a b x y v u c g5 (.inl g1) (.inl g2) g3 g4).2.2
        have hsz : us.toArray.size = zs.toArray.size := by rw [q1, q2, hl]
        have c1 := RcAt.tuples p1 p2 hu0 k
        have c2 := RcNeAt.tuples p1 p2 hu0 k
        have z := (allO_zip h).2
        rw [← hl, Nat.min_self] at z
        rw [← hsz, Nat.min_self, q1, z, beq_self_eq_true, Bool.and_true] at c1 c2
        exact ⟨c1, c2, eqAt_refs c1 same⟩
      · rename_i hl
        cases r : allO (List.zipWith (D.eq2 n) xs ys) with
        | none => rw [r] at h; cases h
        | some e' =>
          rw [r] at h
          cases h
          have k := items_at h2 h4 r1 r2 r fun a b x y v u c g1 g2 g3 g4 g5 => (ih A.in1 hu1 a b x y v u c g5 (.inl g1) (.inl g2) g3 g4).2.2
          have hsz : (us.toArray.size == zs.toArray.size) = false := by rw [q1, q2]; simpa using hl
          have c1 := RcAt.tuples p1 p2 hu0 k
          have c2 := RcNeAt.tuples p1 p2 hu0 k
          rw [hsz, Bool.and_false] at c1 c2
          exact ⟨c1, c2, eqAt_refs c1 same⟩
    · unfold flatE at h
      split at h
      · rename_i f
        rw [Bool.and_eq_true] at f
        cases h
        exact ⟨(flat_rcAt f.1 f.2 ra rb rx ry).1, (flat_rcAt f.1 f.2 ra rb rx ry).2, flat_eqAt f.1 f.2 ra rb rx ry⟩
      · cases h

/-! ### dicts -/
theorem RepK.keys {M : Nm} {F : Hp} : ∀ {ks : List (Key × D)} {ws : List (Key × V)}, RepK M F ks ws → ks.map (·.1) = ws.map (·.1)
  | [], ws, h => by cases h; rfl
  | (k, d) :: ks, ws, h => by
    obtain ⟨v, ws', rfl, r, t⟩ := h
    rw [List.map_cons, List.map_cons, RepK.keys t]
theorem RepK.length {M : Nm} {F : Hp} {ks : List (Key × D)} {ws : List (Key × V)} (h : RepK M F ks ws) : ks.length = ws.length := by
  have := congrArg List.length h.keys
  simpa using this
theorem look_cons {κ : Type} [DecidableEq κ] {k j : κ} {d : D} {r : List (κ × D)} : look ((k, d) :: r) j = if k = j then some d else look r j := by
  unfold look
  rw [List.find?_cons]
  by_cases q : k = j <;> simp [q]
theorem valV_cons {κ : Type} [DecidableEq κ] {k j : κ} {d : V} {r : List (κ × V)} : valV ((k, d) :: r) j = if k = j then some d else valV r j := by
  unfold valV
  rw [List.find?_cons]
  by_cases q : k = j <;> simp [q]
theorem RepK.look {M : Nm} {F : Hp} (j : Key) : ∀ {ks : List (Key × D)} {ws : List (Key × V)}, RepK M F ks ws → (PV.look ks j = none ∧ valV ws j = none) ∨ ∃ d v, PV.look ks j = some d ∧ valV ws j = some v ∧ Rep M F d v
  | [], ws, h => by cases h; exact .inl ⟨rfl, rfl⟩
  | (k, d) :: ks, ws, h => by
    obtain ⟨v, ws', rfl, r, t⟩ := h
    rw [look_cons, valV_cons]
    by_cases q : k = j
    · rw [if_pos q, if_pos q]; exact .inr ⟨d, v, rfl, rfl, r⟩
    · rw [if_neg q, if_neg q]; exact RepK.look j t
theorem valV_mem {ws : List (Key × V)} (nd : (ws.map (·.1)).Nodup) {k : Key} {v : V} (h : (k, v) ∈ ws) : valV ws k = some v := by
  induction ws with
  | nil => cases h
  | cons p r ih =>
    obtain ⟨k', v'⟩ := p
    rw [List.map_cons, List.nodup_cons] at nd
    rw [valV_cons]
    rcases List.mem_cons.1 h with e | m
    · cases e; rw [if_pos rfl]
    · have hm : k ∈ r.map (·.1) := List.mem_map_of_mem (f := (·.1)) m
      rw [if_neg fun z => nd.1 (by rw [z]; exact hm)]
      exact ih nd.2 m
theorem kv_keys : ∀ {ks : List (Key × V)} {vs : List (Key × Value)}, KV ks vs → ks.map (·.1) = vs.map (·.1)
  | _, _, .nil => rfl
  | _, _, .cons h t => by rw [List.map_cons, List.map_cons, kv_keys t, h.1]
/-- the keys of a dict differ -/
theorem dK_nodup (I : Inv X pins σ H s) {a : Addr} {ws : List (Key × V)} (h : Rd H a (.dK ws)) : (ws.map (·.1)).Nodup := by
  obtain ⟨_, _, vs, kv, ⟨o, es, ep, _, _, _, _, _, nd⟩⟩ := h.ok I.hok
  have : ws.map (·.1) = vs.map (·.1) := kv_keys kv
  rw [this]; exact nd
theorem hits_same {f : D → D → Option Bool} {ys : List (Key × D)} {ws : List (Key × V)} (k : ∀ a b v e, Rep M F a v → Rep M F b v → f a b = some e → e = true) (nd : (ws.map (·.1)).Nodup) (h2 : RepK M F ys ws) :
    ∀ {xs : List (Key × D)} {vs : List (Key × V)} {e : Bool}, RepK M F xs vs → (∀ p ∈ vs, p ∈ ws) → hitsO f ys xs = some e → e = true
  | [], vs, e, h1, m, h => by simp [hitsO] at h; exact h
  | (q, x) :: xs, vs, e, h1, m, h => by
    obtain ⟨v, vs', rfl, r, t⟩ := h1
    have hv : valV ws q = some v := valV_mem nd (m _ List.mem_cons_self)
    simp only [hitsO] at h
    rcases h2.look q with ⟨_, z⟩ | ⟨d, v', z1, z2, z3⟩
    · rw [hv] at z; cases z
    · rw [hv] at z2; cases z2
      rw [z1] at h
      simp only at h
      cases g : f x d with
      | none => rw [g] at h; cases h
      | some c =>
        rw [g] at h
        simp only at h
        cases g2 : hitsO f ys xs with
        | none => rw [g2] at h; cases h
        | some e' =>
          rw [g2] at h
          simp at h
          rw [← h, k x d v c r z3 g, hits_same k nd h2 t (fun p hp => m p (List.mem_cons_of_mem _ hp)) g2]; rfl
theorem eq3_same (I : Inv X pins σ H s) (le : Le F H) : ∀ (n : Nat) (a b : D) (x : V) (e : Bool), RT M F H a x → RT M F H b x → D.eq3 n a b = some e → e = true := by
  intro n
  induction n with
  | zero =>
    intro a b x e ra rb h
    exact eq2_same le 0 a b x e ra rb h
  | succ n ih =>
    intro a b x e ra rb h
    unfold D.eq3 at h
    split at h
    · obtain ⟨l, vs, rfl, h1, h2⟩ := ra.lstR le
      obtain ⟨l', vs', e', h3, h4⟩ := rb.lstR le
      cases e'
      cases Rd.unique h1 h3 (fun _ _ z => by cases z) fun _ _ z => by cases z
      split at h
      · exact zip_same (fun a b v e r1 r2 q => ih a b v e (.inl r1) (.inl r2) q) h2 h4 h
      · rename_i z; exact absurd (h2.length.trans h4.length.symm) z
    · obtain ⟨l, vs, rfl, h1, h2⟩ := ra.dct le
      obtain ⟨l', vs', e', h3, h4⟩ := rb.dct le
      cases e'
      cases Rd.unique h1 h3 (fun _ _ z => by cases z) fun _ _ z => by cases z
      split at h
      · exact hits_same (fun a b v e r1 r2 q => ih a b v e (.inl r1) (.inl r2) q) (dK_nodup I h1) h4 h2 (fun _ m => m) h
      · rename_i z; exact absurd (h2.length.trans h4.length.symm) z
    · exact eq2_same le n a b x e ra rb h
theorem hits_at {A : Around} {f : D → D → Option Bool} {ys : List (Key × D)} {ws : List (Key × V)} {zs : List (Key × Value)} (h2 : RepK M F ys ws) (r2 : KV ws zs)
    (k : ∀ a b x y v u c, Rep M F a x → Rep M F b y → RelV x v → RelV y u → f a b = some c → EqP X.prog X.w A s v u c) :
    ∀ {xs : List (Key × D)} {vs : List (Key × V)} {us : List (Key × Value)} {e : Bool}, RepK M F xs vs → KV vs us → hitsO f ys xs = some e → PySem.W.KeqHitsP X.prog X.w A s zs us e
  | [], vs, us, e, h1, r1, h => by
    cases h1; cases r1
    simp [hitsO] at h
    rw [h]; exact .nil
  | (q, x) :: xs, vs, us, e, h1, r1, h => by
    obtain ⟨v, vs', rfl, r, t⟩ := h1
    cases r1 with
    | @cons _ b _ us' g1 g2 =>
      obtain ⟨q', u⟩ := b
      obtain ⟨e1, e2⟩ := g1
      simp only at e1 e2
      subst e1
      have rr : RelO (valV ws q) (valueAt zs q) := r2.val q
      simp only [hitsO] at h
      rcases h2.look q with ⟨z1, z2⟩ | ⟨d, y, z1, z2, z3⟩
      · rw [z1] at h
        cases h
        rw [z2] at rr
        refine .miss ?_
        cases g : valueAt zs q with
        | none => rfl
        | some _ => rw [g] at rr; exact rr.elim
      · rw [z1] at h
        simp only at h
        rw [z2] at rr
        obtain ⟨y', hy, ry⟩ := rr.some_of
        cases g : f x d with
        | none => rw [g] at h; cases h
        | some c =>
          rw [g] at h
          simp only at h
          cases g3 : hitsO f ys xs with
          | none => rw [g3] at h; cases h
          | some e' =>
            rw [g3] at h
            simp at h
            rw [← h]
            exact .hit hy (k x d v y u y' c r z3 e2 ry g) (hits_at h2 r2 k t g2 g3)
/-- == and != of data -/
theorem eq3_rc (I : Inv X pins σ H s) (hk : X.K = M.K) (le : Le F H) : ∀ (n : Nat) (A : Around), A.units + n < cLine → ∀ (a b : D) (x y : V) (v u : Value) (e : Bool), D.eq3 n a b = some e → RT M F H a x → RT M F H b y → RelV x v → RelV y u →
    (∀ (E Q : Value → Shared → Prop), Q (.bool e) s → wpAny (model X.prog X.w) A (richCompare .Eq v u) Q E s) ∧ (∀ (E Q : Value → Shared → Prop), Q (.bool (!e)) s → wpAny (model X.prog X.w) A (richCompare .NotEq v u) Q E s) ∧
      EqP X.prog X.w A s v u e := by
  have two : ∀ (n : Nat) (A : Around), A.units + n < cLine → ∀ (a b : D) (x y : V) (v u : Value) (e : Bool), D.eq2 n a b = some e → RT M F H a x → RT M F H b y → RelV x v → RelV y u →
    (∀ (E Q : Value → Shared → Prop), Q (.bool e) s → wpAny (model X.prog X.w) A (richCompare .Eq v u) Q E s) ∧ (∀ (E Q : Value → Shared → Prop), Q (.bool (!e)) s → wpAny (model X.prog X.w) A (richCompare .NotEq v u) Q E s) ∧
      EqP X.prog X.w A s v u e := fun n A hu a b x y v u e h ra rb rx ry => by
    obtain ⟨c1, c2, c3⟩ := eq2_rc I hk le n A hu a b x y v u e h ra rb rx ry
    exact ⟨fun E Q q => c1 _ _ E Q q, fun E Q q => c2 _ _ E Q q, c3.eqP⟩
  intro n
  induction n with
  | zero =>
    intro A hu a b x y v u e h ra rb rx ry
    exact two 0 A hu a b x y v u e h ra rb rx ry
  | succ n ih =>
    intro A hu a b x y v u e h ra rb rx ry
    have h0 := h
    unfold D.eq3 at h
    have hu1 : A.in1.units + n < cLine := by show A.units + 1 + n < cLine; omega
    have hu0 : A.units < cLine := by omega
    split at h
    · obtain ⟨l, vs, rfl, h1, h2⟩ := ra.lst le
      obtain ⟨l', ws, rfl, h3, h4⟩ := rb.lst le
      cases rx; cases ry
      rw [← hk] at h1 h3
      obtain ⟨us, r1, p1, _⟩ := I.list h1
      obtain ⟨zs, r2, p2, _⟩ := I.list h3
      have q1 : us.toArray.size = _ := List.size_toArray.trans (r1.length.symm.trans h2.length.symm)
      have q2 : zs.toArray.size = _ := List.size_toArray.trans (r2.length.symm.trans h4.length.symm)
      have same : l = l' → e = true := fun z => eq3_same I le (n + 1) _ _ _ e ra (z ▸ rb) h0
      split at h
      · rename_i hl
        have k := items_at (P := fun v u c => EqP X.prog X.w A.in1 s v u c) h2 h4 r1 r2 h fun a b x y v u c g1 g2 g3 g4 g5 => (ih A.in1 hu1 a b x y v u c g5 (.inl g1) (.inl g2) g3 g4).2.2
        have hsz : us.toArray.size = zs.toArray.size := by rw [q1, q2, hl]
        have c1 := rcP_lists p1.isList p2.isList hsz hu0 k
        have c2 := rcNeP_lists p1.isList p2.isList hsz hu0 k
        have z := (allO_zip h).2
        rw [← hl, Nat.min_self] at z
        rw [q1, z] at c1 c2
        exact ⟨c1, c2, eqP_refs' c1 same⟩
      · rename_i hl
        cases h
        have hsz : (us.toArray.size != zs.toArray.size) = true := by rw [q1, q2]; simpa using hl
        have c1 := RcAt.lists_lengths (A := A) p1.isList p2.isList hsz hu0
        have c2 := RcNeAt.lists_lengths (A := A) p1.isList p2.isList hsz hu0
        exact ⟨fun E Q q => c1 _ _ E Q q, fun E Q q => c2 _ _ E Q q, (eqAt_refs c1 same).eqP⟩
    · obtain ⟨l, vs, rfl, h1, h2⟩ := ra.dct le
      obtain ⟨l', ws, rfl, h3, h4⟩ := rb.dct le
      cases rx; cases ry
      obtain ⟨_, ya, us, r1, da⟩ := h1.ok I.hok
      obtain ⟨_, yb, zs, r2, db⟩ := h3.ok I.hok
      have same : l = l' → e = true := fun z => eq3_same I le (n + 1) _ _ _ e ra (z ▸ rb) h0
      have q1 : us.length = _ := r1.length.symm.trans h2.length.symm
      have q2 : zs.length = _ := r2.length.symm.trans h4.length.symm
      split at h
      · rename_i hl
        have hits := hits_at (X := X) (s := s) (A := A.in1) h4 r2 (fun a b x y v u c g1 g2 g3 g4 g5 => (ih A.in1 hu1 a b x y v u c g5 (.inl g1) (.inl g2) g3 g4).2.2) h2 r1 h
        have c1 := PySem.W.rcP_dicts (knd := mixKind X.prog X.w) ya yb da db hu0 (fun _ => hits)
        have c2 := rcNeP_dicts (knd := mixKind X.prog X.w) ya yb da db hu0 (fun _ => hits)
        have z : (us.length == zs.length && e) = e := by rw [q1, q2, hl]; simp
        rw [z] at c1 c2
        exact ⟨c1, c2, eqP_refs' c1 same⟩
      · rename_i hl
        cases h
        have ne : ¬ us.length = zs.length := by rw [q1, q2]; exact hl
        have c1 := PySem.W.rcP_dicts (knd := mixKind X.prog X.w) (r := false) ya yb da db hu0 (fun z => absurd z ne)
        have c2 := rcNeP_dicts (knd := mixKind X.prog X.w) (r := false) ya yb da db hu0 (fun z => absurd z ne)
        rw [Bool.and_false] at c1 c2
        exact ⟨c1, c2, eqP_refs' c1 same⟩
    · exact two n A (by omega) a b x y v u e h ra rb rx ry
/-- a == b, a != b -/
theorem r_eq (hk : X.K = M.K) (hu : X.A.units + 64 < cLine) : OpR X (compareOp .Eq) (rO2 M (oEq false)) := by
  rintro pins s σ H x y v u Q I rx ry ⟨F, d, e, r, le, h1, h2, h3, h4⟩
  unfold oEq at h3
  cases q : D.eq3 40 d e with
  | none => rw [q] at h3; cases h3
  | some b =>
    rw [q] at h3
    cases h3
    exact (eq3_rc I hk le 40 X.A (by omega) d e x y v u b q h1 h2 rx ry).1 _ _ ⟨.bl b, H, I, rfl, h4 _ F H ⟨by simp [Rep], .inl ⟨rfl, rfl⟩⟩⟩
theorem r_ne (hk : X.K = M.K) (hu : X.A.units + 64 < cLine) : OpR X (compareOp .NotEq) (rO2 M (oEq true)) := by
  rintro pins s σ H x y v u Q I rx ry ⟨F, d, e, r, le, h1, h2, h3, h4⟩
  unfold oEq at h3
  cases q : D.eq3 40 d e with
  | none => rw [q] at h3; cases h3
  | some b =>
    rw [q] at h3
    cases h3
    exact (eq3_rc I hk le 40 X.A (by omega) d e x y v u b q h1 h2 rx ry).2.1 _ _ ⟨.bl (!b), H, I, rfl, h4 _ F H ⟨by simp [Rep], .inl ⟨rfl, rfl⟩⟩⟩
end
end PV

set_option Elab.async false
set_option linter.all false
set_option maxRecDepth 100000
set_option maxHeartbeats 1000000
/-! PvL: the operations on data over the hand layer's operators and built-ins. -/
namespace PV
open PySem L2
theorem lim_ok {n : Nat} (h : n ≤ LIM) : n ≤ sizeLine := Nat.le_trans h (by decide)
theorem lim_lt {n : Nat} (h : n < LIM) : n < sizeLine := Nat.lt_of_lt_of_le h (by decide)
section
variable {X : Cx} {pins : List (Addr × Obj)} {σ : L2.St} {F H : Hp} {s : Shared} {M : Nm} {Q : VK}
theorem q_f {d : D} {v : V} (q : ∀ v F' H', OpPost M F H (.f d) v F' H' → Q v H') (r : Rep M F d v) : Q v H := q v F H ⟨r, .inl ⟨rfl, rfl⟩⟩
theorem q_n {d : D} {p : Addr} {o : HO} (q : ∀ v F' H', OpPost M F H (.n d) v F' H' → Q v H') (hp : H p = none) (r : RepTop M F d o) : Q (.ref p) (upd H p o) := q _ F _ ⟨p, o, rfl, hp, rfl, rfl, r⟩
theorem q_t {ds : List D} {vs : List V} {p : Addr} (le : Le F H) (q : ∀ v F' H', OpPost M F H (.f (.tup ds)) v F' H' → Q v H') (hp : H p = none) (r : Reps M F ds vs) : Q (.ref p) (upd H p (.tup vs)) :=
  q _ (upd F p (.tup vs)) _ ⟨⟨p, vs, rfl, upd_same, Reps.mono (Le.new (le.d p hp)) _ _ r⟩, .inr ⟨p, _, hp, rfl, rfl⟩⟩
/-- a list is read -/
theorem lst_get (I : Inv X pins σ H s) {l : Addr} {xs : List V} (h : Rd H l (.lst xs)) : xs.length ≤ sizeLine ∧ ∃ (its : List Value) (n : Nat), Vals xs its ∧ xs.length = its.length ∧ s.heap.get? l = some { cls := .type "list", data := .seq its.toArray n } := by
  obtain ⟨z, its, n, r, e⟩ := h.ok I.hok
  exact ⟨z, its, n, r, r.length, e⟩
theorem r_add (hk : X.K = M.K) : OpR X (binaryOp .Add) (rO2 M oAdd) := by
  rintro pins s σ H x y v u Q I rx ry ⟨F, d, e, r, le, h1, h2, h3, h4⟩
  unfold oAdd fD nD at h3
  split at h3
  · cases h3
    cases h1.int; cases h2.int
    exact op_add pins s σ H _ _ v u Q I rx ry ⟨_, _, rfl, rfl, q_f h4 rfl⟩
  · split at h3
    · rename_i z
      cases h3
      cases h1.str; cases h2.str
      exact op_add_str pins s σ H _ _ v u Q I rx ry ⟨_, _, rfl, rfl, lim_ok z, q_f h4 rfl⟩
    · cases h3
  · split at h3
    · rename_i z
      cases h3
      obtain ⟨l, xs, rfl, g1, g2⟩ := h1.lstR le
      obtain ⟨b, zs, rfl, g3, g4⟩ := h2.lstR le
      cases rx; cases ry
      obtain ⟨_, its, n, r1, l1, e1⟩ := lst_get I g1
      obtain ⟨_, its2, n2, r2, l2, e2⟩ := lst_get I g3
      have hz : its.length + its2.length ≤ sizeLine := by rw [← l1, ← l2, ← g2.length, ← g4.length]; exact lim_ok z
      refine PySem.P.add_list e1 e2 ?_ (by rw [List.size_toArray, List.size_toArray]; omega)
      rw [show its.toArray ++ its2.toArray = (its ++ its2).toArray by simp]
      exact ⟨.ref _, _, I.lnew (t' := s.toks) (r1.append r2) (by rw [List.length_append]; omega), rfl, q_n h4 I.fresh (g2.append g4)⟩
    · cases h3
  · split at h3
    · rename_i z
      cases h3
      obtain ⟨l, xs, rfl, g1, g2⟩ := h1.tup le
      obtain ⟨b, zs, rfl, g3, g4⟩ := h2.tup le
      refine op_catA pins s σ H _ _ v u Q I rx ry ⟨l, b, xs, zs, rfl, rfl, .inl (.inl g1), .inl (.inl g3), by rw [← g2.length, ← g4.length]; exact lim_ok z, fun w => ?_, fun _ w => ?_, fun _ _ p hp => q_t le h4 hp (g2.append g4)⟩
      · subst w
        have w : _ = [] := List.length_eq_zero_iff.1 g2.length
        rw [w, List.nil_append] at h4
        rcases h2 with h2 | ⟨b2, o2, e2, e3, e4⟩
        · exact q_f h4 h2
        · cases o2 <;> first | exact e4.elim | skip
      · subst w
        have w : _ = [] := List.length_eq_zero_iff.1 g4.length
        rw [w, List.append_nil] at h4
        rcases h1 with h1 | ⟨b2, o2, e2, e3, e4⟩
        · exact q_f h4 h1
        · cases o2 <;> first | exact e4.elim | skip
    · cases h3
  · cases h3
theorem r_sub : OpR X (binaryOp .Sub) (rO2 M oSub) := by
  rintro pins s σ H x y v u Q I rx ry ⟨F, d, e, r, le, h1, h2, h3, h4⟩
  unfold oSub fD at h3
  split at h3
  · cases h3
    cases h1.int; cases h2.int
    exact op_sub pins s σ H _ _ v u Q I rx ry ⟨_, _, rfl, rfl, q_f h4 rfl⟩
  · cases h3
theorem mul_w {i j : Int} (z : mulOk i j = true) : CMulW i j := by
  unfold mulOk at z
  exact (of_decide_eq_true z : i.natAbs.log2 + j.natAbs.log2 < 1000000)
theorem rep_list (I : Inv X pins σ H s) {l : Addr} {k : Int} {t : Tok} {xs : List V} (g : Rd H l (.lst xs)) (h1 : -(2 ^ 63) ≤ k) (h2 : k < 2 ^ 63) (hz : xs.length * k.toNat ≤ sizeLine)
    (q : ∀ p, H p = none → Q (.ref p) (upd H p (.lst (List.replicate k.toNat xs).flatten))) : wpAny (model X.prog X.w) X.A (binaryOp .Mult (.ref l) (.int k t)) (EP X pins σ Q) X.xe s := by
  obtain ⟨z, its, n, r, hl, e⟩ := lst_get I g
  have hlen : its.toArray.size * k.toNat ≤ sizeLine := by rw [List.size_toArray, ← hl]; exact hz
  have hcap : ¬ its.toArray.size * k.toNat > (2 ^ 63 - 1) / 8 := by
    have : (sizeLine : Nat) ≤ (2 ^ 63 - 1) / 8 := by decide
    omega
  have hfit : ¬ (!PySem.Builtin.List.listFitsIndex k) = true := by
    rw [fitsIndex_both h1 h2]
    exact Bool.false_ne_true
  have hlong : ¬ PySem.Builtin.List.listTooLong (its.toArray.size * k.toNat) = true := by
    rw [notLongL hlen]
    exact Bool.false_ne_true
  have hnew : List.foldl (fun x1 x2 => x1 ++ x2) #[] (List.replicate (if its.toArray.isEmpty = true then 0 else k.toNat) its.toArray) = (List.replicate k.toNat its).flatten.toArray := by
    have f0 : ∀ m : Nat, List.foldl (fun x1 x2 => x1 ++ x2) #[] (List.replicate m its.toArray) = (List.replicate m its).flatten.toArray := fun m => by
      have := foldl_rep its m []
      rw [List.nil_append] at this
      exact this
    rw [f0]
    cases its with
    | nil => simp
    | cons a r' => rw [if_neg (by simp)]
  refine wpAny_binaryOp_repeat_ref (T := "list") (U := "int") (by decide) ⟨_, e, rfl⟩ (fun s' => typeIs_int s' k t) noFill_list_mul F.fills_int_mul F.slot_int_rmul repeat_list F.slot_int_index.lookup
    (call_meets F.slot_int_rmul (typeIs_int s k t) F.entry_int_rmul (F.args_int_rmul_2 _ _) (int___rmul___int_list k t l its.toArray n)
      ⟨e, rfl, ⟨_, e, rfl⟩, call_meets F.slot_list_mul ⟨_, e, rfl⟩ F.entry_list_mul (F.args_list_mul_2 _ _) (AutoListH.list___mul___list_int_3 l its.toArray n k t hfit hcap hlong) ⟨e, ?_⟩⟩)
  rw [hnew]
  exact ⟨.ref _, _, I.lnew (t' := s.toks) (r.rep k.toNat) (by rw [PyProof.Rows.lm_len_rep_flat, Nat.mul_comm]; exact hz), rfl, q _ I.fresh⟩
theorem r_mul : OpR X (binaryOp .Mult) (rO2 M oMul) := by
  rintro pins s σ H x y v u Q I rx ry ⟨F, d, e, r, le, h1, h2, h3, h4⟩
  unfold oMul fD nD at h3
  split at h3
  · split at h3
    · rename_i z
      cases h3
      cases h1.int; cases h2.int
      exact op_mulW pins s σ H _ _ v u Q I rx ry ⟨_, _, rfl, rfl, mul_w z, q_f h4 rfl⟩
    · cases h3
  · split at h3
    · rename_i z
      cases h3
      obtain ⟨l, xs, rfl, g1, g2⟩ := h1.lstR le
      cases h2.int
      obtain ⟨z1, z2⟩ := z
      unfold small at z2
      have z2 := of_decide_eq_true z2
      cases rx
      obtain ⟨t, rfl⟩ := ry
      exact rep_list I g1 (by omega) (by omega) (by rw [← g2.length]; exact lim_ok z1) fun p hp => q_n h4 hp (g2.rep _)
    · cases h3
  · cases h3
theorem r_fdv : OpR X (binaryOp .FloorDiv) (rO2 M oFdv) := by
  rintro pins s σ H x y v u Q I rx ry ⟨F, d, e, r, le, h1, h2, h3, h4⟩
  unfold oFdv fD at h3
  split at h3
  · split at h3
    · rename_i z
      cases h3
      cases h1.int; cases h2.int
      exact op_fdivW pins s σ H _ _ v u Q I rx ry ⟨_, _, rfl, rfl, z, q_f h4 rfl⟩
    · cases h3
  · cases h3
theorem r_mod : OpR X (binaryOp .Mod) (rO2 M oMod) := by
  rintro pins s σ H x y v u Q I rx ry ⟨F, d, e, r, le, h1, h2, h3, h4⟩
  unfold oMod fD at h3
  split at h3
  · split at h3
    · rename_i z
      cases h3
      cases h1.int; cases h2.int
      exact op_mod pins s σ H _ _ v u Q I rx ry ⟨_, _, rfl, rfl, z, q_f h4 rfl⟩
    · cases h3
  · cases h3
theorem bits_le (x : Int) : PySem.Builtin.Int.intBits x ≤ x.natAbs.log2 + 1 := by
  unfold PySem.Builtin.Int.intBits
  split <;> omega
theorem r_pow : OpR X (binaryOp .Pow) (rO2 M oPow) := by
  rintro pins s σ H x y v u Q I rx ry ⟨F, d, e, r, le, h1, h2, h3, h4⟩
  unfold oPow fD at h3
  split at h3
  · split at h3
    · rename_i a b z
      cases h3
      cases h1.int; cases h2.int
      obtain ⟨t, rfl⟩ := rx
      obtain ⟨t', rfl⟩ := ry
      refine PyProof.Rows.pow_int z.1 ?_ ⟨.int _, H, I.tok _, ⟨_, rfl⟩, q_f h4 rfl⟩
      have h5 : ((PySem.Builtin.Int.intBits a : Nat) : Int) ≤ ((a.natAbs.log2 + 1 : Nat) : Int) := Int.ofNat_le.2 (bits_le a)
      have h6 := Int.mul_le_mul_of_nonneg_right h5 z.1
      have h7 := z.2
      omega
    · cases h3
  · cases h3
theorem r_cmp {f : Value → Value → Sem Value} {p : Int → Int → Bool} (k : OpR X f (rI0 fun i j => .bl (p i j))) : OpR X f (rO2 M (oCmp p)) := by
  rintro pins s σ H x y v u Q I rx ry ⟨F, d, e, r, le, h1, h2, h3, h4⟩
  unfold oCmp fD at h3
  split at h3
  · cases h3
    cases h1.int; cases h2.int
    exact k pins s σ H _ _ v u Q I rx ry ⟨_, _, rfl, rfl, q_f h4 rfl⟩
  · cases h3
theorem r_le : OpR X (compareOp .LtE) (rO2 M (oCmp fun i j => decide (i ≤ j))) := r_cmp op_le
theorem r_gt : OpR X (compareOp .Gt) (rO2 M (oCmp fun i j => decide (j < i))) := r_cmp op_gt
theorem r_ge : OpR X (compareOp .GtE) (rO2 M (oCmp fun i j => decide (j ≤ i))) := r_cmp op_ge

theorem rep_flat {d : D} {v : V} (f : d.flat = true) (h : RT M F H d v) : flatV v = true := by
  rcases h.flat f with ⟨_, rfl⟩ | ⟨_, _, rfl⟩ | ⟨_, _, rfl⟩ | ⟨_, _, rfl⟩ <;> rfl
theorem eqf_eqV {a b : D} {x y : V} (fa : a.flat = true) (fb : b.flat = true) (ra : RT M F H a x) (rb : RT M F H b y) : eqV x y = D.eqf a b := by
  rcases ra.flat fa with ⟨rfl, rfl⟩ | ⟨i, rfl, rfl⟩ | ⟨i, rfl, rfl⟩ | ⟨i, rfl, rfl⟩ <;> rcases rb.flat fb with ⟨rfl, rfl⟩ | ⟨j, rfl, rfl⟩ | ⟨j, rfl, rfl⟩ | ⟨j, rfl, rfl⟩ <;> rfl
theorem reps_flat : ∀ {ds : List D} {vs : List V}, Reps M F ds vs → ds.all D.flat = true → vs.all flatV = true
  | [], _, h, _ => by cases h; rfl
  | d :: ds, _, ⟨v, ws, e, r, t⟩, f => by
    subst e
    rw [List.all_cons, Bool.and_eq_true] at f ⊢
    exact ⟨rep_flat (H := F) f.1 (.inl r), reps_flat t f.2⟩
theorem reps_any {a : D} {x : V} (fa : a.flat = true) (ra : RT M F H a x) : ∀ {ds : List D} {vs : List V}, Reps M F ds vs → ds.all D.flat = true → inV x vs = ds.any fun d => D.eqf d a
  | [], _, h, _ => by cases h; rfl
  | d :: ds, _, ⟨v, ws, e, r, t⟩, f => by
    subst e
    rw [List.all_cons, Bool.and_eq_true] at f
    unfold inV
    rw [List.any_cons, List.any_cons, eqf_eqV f.1 fa (.inl r) ra]
    have := reps_any fa ra t f.2
    unfold inV at this
    rw [this]
theorem RT.key {d : D} {k : Key} {x : V} (h : RT M F H d x) (e : keyOf d = some k) : x = kV k := by
  cases d with
  | int i => rw [h.int]; cases e; rfl
  | str i => rw [h.str]; cases e; rfl
  | _ => cases e
theorem dct_get (le : Le F H) {kvs : List (Key × D)} {k : Key} {x : V} (h : RT M F H (.dct kvs) x) : ∃ a o, x = .ref a ∧ DGet H a (kV k) o ∧ ((look kvs k = none ∧ o = none) ∨ ∃ d v, look kvs k = some d ∧ o = some v ∧ Rep M F d v) := by
  obtain ⟨a, ws, rfl, g1, g2⟩ := h.dct le
  exact ⟨a, _, rfl, .inl ⟨ws, k, g1, rfl, rfl⟩, g2.look k⟩
theorem sign_of {y : Str} (z : isSign y = true) : ∃ c, y = ⟨#[c]⟩ := by
  obtain ⟨⟨l⟩⟩ := y
  unfold isSign at z
  have z : l.length = 1 := by simpa [Str.length] using z
  obtain ⟨c, rfl⟩ := List.length_eq_one_iff.1 z
  exact ⟨c, rfl⟩
theorem r_inn (neg : Bool) (hk : X.K = M.K) (hu : X.A.units + 1 < cLine) : OpR X (compareOp (if neg then .NotIn else .In)) (rO2 M (oIn neg)) := by
  rintro pins s σ H x y v u Q I rx ry ⟨F, d, e, r, le, h1, h2, h3, h4⟩
  have seq : ∀ {a : D} {ds : List D} {x : V} {l : Addr} {vs : List V}, a.flat = true → ds.all D.flat = true → RT M F H a x → Reps M F ds vs → RelV x v → RelV (.ref l) u → (SqL X.K H l vs ∨ SqT X.K H l vs) → (∀ v F' H', OpPost M F H (.f (.bl (neg ^^ ds.any fun d => D.eqf d a))) v F' H' → Q v H') →
      wpAny (model X.prog X.w) X.A (compareOp (if neg then .NotIn else .In) v u) (EP X pins σ Q) X.xe s := fun fa fs ra rs rx ry hq h4 => by
    have := reps_any fa ra rs fs
    cases neg with
    | false => exact op_in_seq pins s σ H _ _ v u Q I rx ry ⟨_, _, rfl, hq, rep_flat fa ra, reps_flat rs fs, by rw [this]; exact q_f h4 (by simp [Rep])⟩
    | true => exact op_notIn_seq pins s σ H _ _ v u Q I rx ry ⟨_, _, rfl, hq, rep_flat fa ra, reps_flat rs fs, by rw [this]; exact q_f h4 (by simp [Rep])⟩
  unfold oIn fD at h3
  split at h3
  · split at h3
    · rename_i z
      cases h3
      rw [Bool.and_eq_true] at z
      obtain ⟨l, vs, rfl, g1, g2⟩ := h2.lst le
      exact seq z.1 z.2 h1 g2 rx ry (.inl (hk ▸ g1)) h4
    · cases h3
  · split at h3
    · rename_i z
      cases h3
      rw [Bool.and_eq_true] at z
      obtain ⟨l, vs, rfl, g1, g2⟩ := h2.tup le
      exact seq z.1 z.2 h1 g2 rx ry (.inr (.inl (.inl g1))) h4
    · cases h3
  · rename_i kvs
    cases hk' : keyOf d with
    | none => rw [hk'] at h3; cases h3
    | some k =>
      rw [hk'] at h3
      cases h3
      cases h1.key hk'
      obtain ⟨a, o, rfl, g, hl⟩ := dct_get (k := k) le h2
      cases ry
      have : o.isSome = (look kvs k).isSome := by rcases hl with ⟨e1, e2⟩ | ⟨d, v, e1, e2, _⟩ <;> simp [e1, e2]
      cases neg with
      | false => exact d_in hu I g rx fun s' I' => ⟨.bl _, H, I', rfl, by rw [this]; exact q_f h4 (by simp [Rep])⟩
      | true => exact d_notIn hu I g rx fun s' I' => ⟨.bl _, H, I', rfl, by rw [this]; exact q_f h4 (by simp [Rep])⟩
  · split at h3
    · rename_i z
      cases h3
      cases h1.str; cases h2.str
      obtain ⟨c, rfl⟩ := sign_of z
      cases neg with
      | false => exact op_in_sign pins s σ H _ _ v u Q I rx ry ⟨c, _, rfl, rfl, q_f h4 (by simp [Rep])⟩
      | true => exact op_notIn_sign pins s σ H _ _ v u Q I rx ry ⟨c, _, rfl, rfl, q_f h4 (by simp [Rep])⟩
    · cases h3
  · cases h3

/-! ### places -/
theorem at_get {ds : List D} {vs : List V} {i : Int} {d : D} (h : Reps M F ds vs) (e : at? ds i = some d) : ∃ v, atI vs i = some v ∧ Rep M F d v := by
  unfold at? at e
  unfold atI
  rw [← h.length]
  cases g : ixOf ds.length i with
  | none => rw [g] at e; cases e
  | some j =>
    rw [g] at e
    rw [show ixN ds.length i = some j from g]
    exact h.at e
theorem reps_keys : ∀ {ds : List D} {vs : List V} {ks : List Key}, Reps M F ds vs → keysOf ds = some ks → vs = ks.map kV
  | [], _, ks, h, e => by cases h; cases e; rfl
  | d :: ds, _, ks, ⟨v, ws, e', r, t⟩, e => by
    subst e'
    unfold keysOf at e
    cases g : keyOf d with
    | none => rw [g] at e; cases e
    | some k =>
      cases g2 : keysOf ds with
      | none => rw [g, g2] at e; cases e
      | some r' =>
        rw [g, g2] at e
        cases e
        rw [RT.key (H := F) (.inl r) g, reps_keys t g2]; rfl
theorem RepKT.look (j : List Key) : ∀ {ks : List (List Key × D)} {ws : List (List Key × V)}, RepKT M F ks ws → (PV.look ks j = none ∧ valV ws j = none) ∨ ∃ d v, PV.look ks j = some d ∧ valV ws j = some v ∧ Rep M F d v
  | [], ws, h => by cases h; exact .inl ⟨rfl, rfl⟩
  | (k, d) :: ks, ws, h => by
    obtain ⟨v, ws', rfl, r, t⟩ := h
    rw [look_cons, valV_cons]
    by_cases q : k = j
    · rw [if_pos q, if_pos q]; exact .inr ⟨d, v, rfl, rfl, r⟩
    · rw [if_neg q, if_neg q]; exact RepKT.look j t
theorem r_idx (hk : X.K = M.K) (hu : X.A.units + 1 < cLine) : IxR X (rO2 M oIdx) := by
  rintro value slice pins s σ H x y v u Q I rx ry ⟨F, d, e, r, le, h1, h2, h3, h4⟩ hs
  unfold oIdx at h3
  split at h3
  · cases g : at? ‹List D› ‹Int› with
    | none => rw [g] at h3; cases h3
    | some d =>
      rw [g] at h3; cases h3
      cases h2.int
      obtain ⟨l, vs, rfl, g1, g2⟩ := h1.lst le
      obtain ⟨w, a1, a2⟩ := at_get g2 g
      exact ix_list value slice pins s σ H _ _ v u Q I rx ry ⟨l, vs, _, w, rfl, rfl, hk ▸ g1, a1, q_f h4 a2⟩ hs
  · cases g : at? ‹List D› ‹Int› with
    | none => rw [g] at h3; cases h3
    | some d =>
      rw [g] at h3; cases h3
      cases h2.int
      obtain ⟨l, vs, rfl, g1, g2⟩ := h1.tup le
      obtain ⟨w, a1, a2⟩ := at_get g2 g
      exact ix_tup value slice pins s σ H _ _ v u Q I rx ry ⟨l, vs, _, w, rfl, rfl, .inl (.inl g1), a1, q_f h4 a2⟩ hs
  · split at h3
    · rename_i z i hz
      cases g : at? z.cps.toList i with
      | none => rw [g] at h3; cases h3
      | some c =>
        rw [g] at h3; cases h3
        cases h1.str; cases h2.int
        exact ix_str value slice pins s σ H _ _ v u Q I rx ry ⟨z, i, c, rfl, rfl, lim_ok hz, g, q_f h4 rfl⟩ hs
    · cases h3
  · rename_i kvs
    cases g : keyOf e with
    | none => rw [g] at h3; cases h3
    | some k =>
      rw [g] at h3
      simp only [Option.bind] at h3
      cases g2 : look kvs k with
      | none => rw [g2] at h3; cases h3
      | some d =>
        rw [g2] at h3; cases h3
        cases h2.key g
        obtain ⟨a, o, rfl, gg, hl⟩ := dct_get (k := k) le h1
        rcases hl with ⟨e1, _⟩ | ⟨d', w, e1, rfl, rw'⟩
        · rw [g2] at e1; cases e1
        · rw [g2] at e1; cases e1
          cases rx
          refine PyProof.Rows.tail_any (dict_typeIs I gg) slot_dict_getitem.lookup ?_ hs
          exact d_getItem hu I gg ry fun w' s' I' r' => ⟨w, H, I', r', q_f h4 rw'⟩
  · rename_i kvs ks
    cases g : keysOf ks with
    | none => rw [g] at h3; cases h3
    | some k =>
      rw [g] at h3
      simp only [Option.bind] at h3
      cases g2 : look kvs k with
      | none => rw [g2] at h3; cases h3
      | some d =>
        rw [g2] at h3; cases h3
        obtain ⟨b, vs, rfl, t1, t2⟩ := h2.tup le
        obtain ⟨a, ws, rfl, g3, g4⟩ := h1.dcT le
        have ev := reps_keys t2 g
        subst ev
        have gg : DGet H a (.ref b) (valV ws k) := .inr ⟨ws, k, b, g3, rfl, t1, rfl⟩
        rcases g4.look k with ⟨e1, _⟩ | ⟨d', w, e1, e2, rw'⟩
        · rw [g2] at e1; cases e1
        · rw [g2] at e1; cases e1
          rw [e2] at gg
          cases rx
          refine PyProof.Rows.tail_any (dict_typeIs I gg) slot_dict_getitem.lookup ?_ hs
          exact d_getItem hu I gg ry fun w' s' I' r' => ⟨w, H, I', r', q_f h4 rw'⟩
  · cases h3

/-! ### calls of built-ins -/
/-- one argument, two arguments -/
theorem c_1 {f : Value} {o : Op} {g : D → R1} (e : ∀ ds r, opD o ds = some r → ∃ d, ds = [d] ∧ g d = some r)
    (k : ∀ pins s σ H x u Q F d r, Inv X pins σ H s → RelV x u → Le F H → RT M F H d x → g d = some r → (∀ v F' H', OpPost M F H r v F' H' → Q v H') → wpAny (model X.prog X.w) X.A (call f [u]) (EP X pins σ Q) X.xe s) : CallR X f (rON M (opD o)) := by
  rintro pins s σ H xs us Q I rx ⟨F, ds, r, le, h2, h3, h4⟩
  obtain ⟨d, rfl, h5⟩ := e ds r h3
  cases h2 with
  | cons r1 t =>
    cases t
    cases rx with
    | cons r2 t =>
      cases t
      exact k pins s σ H _ _ Q F d r I r2 le r1 h5 h4
theorem c_2 {f : Value} {o : Op} {g : D → D → R1} (e : ∀ ds r, opD o ds = some r → ∃ d d', ds = [d, d'] ∧ g d d' = some r)
    (k : ∀ pins s σ H x y u w Q F d d' r, Inv X pins σ H s → RelV x u → RelV y w → Le F H → RT M F H d x → RT M F H d' y → g d d' = some r → (∀ v F' H', OpPost M F H r v F' H' → Q v H') → wpAny (model X.prog X.w) X.A (call f [u, w]) (EP X pins σ Q) X.xe s) :
    CallR X f (rON M (opD o)) := by
  rintro pins s σ H xs us Q I rx ⟨F, ds, r, le, h2, h3, h4⟩
  obtain ⟨d, d', rfl, h5⟩ := e ds r h3
  cases h2 with
  | cons r1 t =>
    cases t with
    | cons r1' t =>
      cases t
      cases rx with
      | cons r2 t =>
        cases t with
        | cons r2' t =>
          cases t
          exact k pins s σ H _ _ _ _ Q F d d' r I r2 r2' le r1 r1' h5 h4
theorem o1 {o : Op} {g : D → R1} (h : ∀ d, opD o [d] = g d) (z : opD o [] = none) (z2 : ∀ a b r, opD o (a :: b :: r) = none) : ∀ ds r, opD o ds = some r → ∃ d, ds = [d] ∧ g d = some r := fun ds r e => by
  rcases ds with _ | ⟨d, _ | ⟨e', r'⟩⟩
  · rw [z] at e; cases e
  · exact ⟨d, rfl, (h d).symm.trans e⟩
  · rw [z2] at e; cases e
theorem o2 {o : Op} {g : D → D → R1} (h : ∀ a b, opD o [a, b] = g a b) (z : opD o [] = none) (z1 : ∀ a, opD o [a] = none) (z2 : ∀ a b c r, opD o (a :: b :: c :: r) = none) : ∀ ds r, opD o ds = some r → ∃ d d', ds = [d, d'] ∧ g d d' = some r := fun ds r e => by
  rcases ds with _ | ⟨d, _ | ⟨e', _ | ⟨f, r'⟩⟩⟩
  · rw [z] at e; cases e
  · rw [z1] at e; cases e
  · exact ⟨d, e', rfl, (h d e').symm.trans e⟩
  · rw [z2] at e; cases e
theorem vals1' {x : V} {u : Value} (r : RelV x u) : Vals [x] [u] := .cons r .nil
theorem vals2' {x y : V} {u w : Value} (r : RelV x u) (r' : RelV y w) : Vals [x, y] [u, w] := .cons r (.cons r' .nil)
theorem c_len (hk : X.K = M.K) : CallR X (.builtin "len") (rON M (opD .len)) := c_1 (o1 (g := oLen) (fun _ => rfl) rfl fun _ _ _ => rfl) fun pins s σ H x u Q F d r I rx le h1 h3 h4 => by
  unfold oLen fD at h3
  split at h3
  · cases h3
    obtain ⟨l, vs, rfl, g1, g2⟩ := h1.lst le
    exact call_len_seq pins s σ H _ _ Q I (vals1' rx) ⟨l, vs, rfl, .inl (hk ▸ g1), by rw [← g2.length]; exact q_f h4 rfl⟩
  · cases h3
    obtain ⟨l, vs, rfl, g1, g2⟩ := h1.tup le
    exact call_len_seq pins s σ H _ _ Q I (vals1' rx) ⟨l, vs, rfl, .inr (.inl (.inl g1)), by rw [← g2.length]; exact q_f h4 rfl⟩
  · cases h3
    obtain ⟨l, vs, rfl, g1, g2⟩ := h1.dct le
    cases rx
    exact d_len I g1 fun t s' I' => ⟨.int _, H, I', ⟨t, rfl⟩, by rw [← g2.length]; exact q_f h4 rfl⟩
  · split at h3
    · rename_i z hz
      cases h3
      cases h1.str
      exact call_len_str pins s σ H _ _ Q I (vals1' rx) ⟨z, rfl, lim_ok hz, q_f h4 rfl⟩
    · cases h3
  · cases h3
theorem c_int : CallR X (.type "int") (rON M (opD .int_)) := c_1 (o1 (g := oInt) (fun _ => rfl) rfl fun _ _ _ => rfl) fun pins s σ H x u Q F d r I rx le h1 h3 h4 => by
  unfold oInt fD at h3
  split at h3
  · cases h3; cases h1.int
    exact call_int1 pins s σ H _ _ Q I (vals1' rx) (.inl ⟨_, rfl, q_f h4 rfl⟩)
  · cases h3; cases h1.bl
    exact call_int1 pins s σ H _ _ Q I (vals1' rx) (.inr ⟨_, rfl, q_f h4 rfl⟩)
  · cases h3
theorem c_max2 (hc : X.calm = true) : CallR X (.builtin "max") (rON M (opD .max2)) := c_2 (o2 (g := oTwo fun i j => if j > i then j else i) (fun _ _ => rfl) rfl (fun _ => rfl) fun _ _ _ _ => rfl) fun pins s σ H x y u w Q F d d' r I rx ry le h1 h2 h3 h4 => by
  unfold oTwo fD at h3
  split at h3
  · cases h3; cases h1.int; cases h2.int
    exact call_max2 hc pins s σ H _ _ Q I (vals2' rx ry) ⟨_, _, rfl, q_f h4 rfl⟩
  · cases h3
theorem divp_w {i j : Int} (hj : 0 < j) (h : j.natAbs.log2 < 9000) : CDivP i j := by
  refine ⟨hj, ?_⟩
  show (decide ((if j == 0 then 0 else j.natAbs.log2 / 30 + 1) > 300) && _) = false
  rw [if_neg (show ¬ (j == 0) = true by simpa using (show j ≠ 0 by omega))]
  have k : ¬ (j.natAbs.log2 / 30 + 1 > 300) := by omega
  simp [k]
theorem c_dvm : CallR X (.builtin "divmod") (rON M (opD .dvm)) := c_2 (o2 (g := oDvm) (fun _ _ => rfl) rfl (fun _ => rfl) fun _ _ _ _ => rfl) fun pins s σ H x y u w Q F d d' r I rx ry le h1 h2 h3 h4 => by
  unfold oDvm fD at h3
  split at h3
  · split at h3
    · rename_i z
      cases h3; cases h1.int; cases h2.int
      exact call_divmodW pins s σ H _ _ Q I (vals2' rx ry) ⟨_, _, rfl, divp_w z.1 z.2, fun p hp => q_t le h4 hp ⟨_, _, rfl, rfl, _, _, rfl, rfl, rfl⟩⟩
    · cases h3
  · cases h3
theorem ints_get (le : Le F H) {g : List Int → Option Int} {d : D} {x : V} {r : Val} (h1 : RT M F H d x) (h3 : oInts g d = some r) : ∃ l is i, x = .ref l ∧ SqL M.K H l (is.map V.int) ∧ g is = some i ∧ r = .f (.int i) := by
  unfold oInts fD at h3
  split at h3
  · rename_i xs
    cases q : intsOf xs with
    | none => rw [q] at h3; cases h3
    | some is =>
      rw [q] at h3
      simp only [Option.bind] at h3
      cases q2 : g is with
      | none => rw [q2] at h3; cases h3
      | some i =>
        rw [q2] at h3
        cases h3
        obtain ⟨l, vs, rfl, g1, g2⟩ := h1.lst le
        have := g2.ints q
        subst this
        exact ⟨l, is, i, rfl, g1, q2, rfl⟩
  · cases h3
theorem c_sum (hc : X.calm = true) (hk : X.K = M.K) : CallR X (.builtin "sum") (rON M (opD .sum)) := c_1 (o1 (g := oInts fun is => some is.sum) (fun _ => rfl) rfl fun _ _ _ => rfl) fun pins s σ H x u Q F d r I rx le h1 h3 h4 => by
  obtain ⟨l, is, i, rfl, g1, g2, rfl⟩ := ints_get le h1 h3
  cases g2
  exact cr_sum hc pins s σ H _ _ Q I (vals1' rx) ⟨l, is, rfl, hk ▸ g1, q_f h4 rfl⟩
def max0 : List Int → Option Int := fun is => match is with | [] => none | i :: r => some (maxL i r)
def min0 : List Int → Option Int := fun is => match is with | [] => none | i :: r => some (minL i r)
theorem bools_get (le : Le F H) {g : List Bool → Bool} {d : D} {x : V} {r : Val} (h1 : RT M F H d x) (h3 : oBools g d = some r) : ∃ l is, x = .ref l ∧ SqL M.K H l (is.map V.bl) ∧ r = .f (.bl (g is)) := by
  unfold oBools fD at h3
  split at h3
  · rename_i xs
    cases q : boolsOf xs with
    | none => rw [q] at h3; cases h3
    | some is =>
      rw [q] at h3
      cases h3
      obtain ⟨l, vs, rfl, g1, g2⟩ := h1.lst le
      have := g2.bools q
      subst this
      exact ⟨l, is, rfl, g1, rfl⟩
  · cases h3
theorem c_all (hc : X.calm = true) (hk : X.K = M.K) : CallR X (.builtin "all") (rON M (opD .all_)) := c_1 (o1 (g := oBools fun bs => bs.all id) (fun _ => rfl) rfl fun _ _ _ => rfl) fun pins s σ H x u Q F d r I rx le h1 h3 h4 => by
  obtain ⟨l, is, rfl, g1, rfl⟩ := bools_get le h1 h3
  exact cr_all hc pins s σ H _ _ Q I (vals1' rx) ⟨l, is, rfl, hk ▸ g1, q_f h4 rfl⟩
end
end PV

set_option Elab.async false
set_option linter.all false
set_option maxRecDepth 100000
set_option maxHeartbeats 1000000
/-! PvM: list, tuple, sorted, dict, isinstance; slices; stores into dicts. -/
namespace PV
open PySem L2
section
variable {X : Cx} {pins : List (Addr × Obj)} {σ : L2.St} {F H : Hp} {s : Shared} {M : Nm} {Q : VK}
theorem repk_keys : ∀ {ds : List (Key × D)} {ws : List (Key × V)}, RepK M F ds ws → Reps M F (ds.map fun p => keyD p.1) (ws.map fun p => kV p.1)
  | [], _, h => by cases h; rfl
  | (k, d) :: ds, _, ⟨v, ws, e, r, t⟩ => by
    subst e
    refine ⟨_, _, rfl, ?_, repk_keys t⟩
    cases k <;> rfl
theorem c_list (hc : X.calm = true) (hk : X.K = M.K) : CallR X (.type "list") (rON M (opD .list_)) := c_1 (o1 (g := oList) (fun _ => rfl) rfl fun _ _ _ => rfl) fun pins s σ H x u Q F d r I rx le h1 h3 h4 => by
  unfold oList nD at h3
  split at h3
  · cases h3
    obtain ⟨l, vs, rfl, g1, g2⟩ := h1.lst le
    exact call_list_of pins s σ H _ _ Q I (vals1' rx) ⟨l, vs, rfl, .inl (hk ▸ g1), fun p hp => q_n h4 hp g2⟩
  · cases h3
    obtain ⟨l, vs, rfl, g1, g2⟩ := h1.tup le
    exact call_list_of pins s σ H _ _ Q I (vals1' rx) ⟨l, vs, rfl, .inr (.inl (.inl g1)), fun p hp => q_n h4 hp g2⟩
  · cases h3
    obtain ⟨l, vs, rfl, g1, g2⟩ := h1.dct le
    exact call_listD hc pins s σ H _ _ Q I (vals1' rx) ⟨l, vs, rfl, g1, fun p hp => q_n h4 hp (repk_keys g2)⟩
  · cases h3
theorem rep_of_rt {d : D} {x : V} (h : RT M F H d x) (n : ∀ o : HO, RepTop M F d o → False) : Rep M F d x := h.elim id fun ⟨a, o, _, _, r⟩ => (n o r).elim
theorem c_tuple (hk : X.K = M.K) : CallR X (.type "tuple") (rON M (opD .tuple_)) := c_1 (o1 (g := oTuple) (fun _ => rfl) rfl fun _ _ _ => rfl) fun pins s σ H x u Q F d r I rx le h1 h3 h4 => by
  unfold oTuple fD at h3
  split at h3
  · cases h3
    obtain ⟨l, vs, rfl, g1, g2⟩ := h1.lst le
    exact call_tuple_of pins s σ H _ _ Q I (vals1' rx) ⟨l, vs, rfl, .inl ⟨hk ▸ g1, fun p hp => q_t le h4 hp g2⟩⟩
  · cases h3
    have h0 := rep_of_rt h1 fun o r => by cases o <;> exact r
    obtain ⟨l, vs, rfl, g1, g2⟩ := h1.tup le
    exact call_tuple_of pins s σ H _ _ Q I (vals1' rx) ⟨l, vs, rfl, .inr ⟨.inl (.inl g1), q_f h4 h0⟩⟩
  · cases h3

/-! ### sorted -/
theorem insStr_perm (x : Str) : ∀ l, (insStr x l).Perm (x :: l)
  | [] => .refl _
  | y :: r => by
    unfold insStr
    split
    · exact .refl _
    · exact ((insStr_perm x r).cons y).trans (.swap _ _ _)
theorem sortStr_perm : ∀ l, (sortStr l).Perm l
  | [] => .refl _
  | x :: r => (insStr_perm x _).trans ((sortStr_perm r).cons x)
theorem insInt_perm (x : Int) : ∀ l, (insInt x l).Perm (x :: l)
  | [] => .refl _
  | y :: r => by
    unfold insInt
    split
    · exact .refl _
    · exact ((insInt_perm x r).cons y).trans (.swap _ _ _)
theorem sortInt_perm : ∀ l, (sortInt l).Perm l
  | [] => .refl _
  | x :: r => (insInt_perm x _).trans ((sortInt_perm r).cons x)
abbrev SLe (a b : Str) : Prop := a.cps.toList ≤ b.cps.toList
theorem leStr_iff {a b : Str} : leStr a b = true ↔ SLe a b := by
  unfold leStr
  rw [Bool.not_eq_true', decide_eq_false_iff_not]
  exact Iff.rfl
theorem SLe.trans {a b c : Str} (h : SLe a b) (g : SLe b c) : SLe a c := List.le_trans h g
theorem SLe.anti {a b : Str} (h : SLe a b) (g : SLe b a) : a = b := by
  obtain ⟨⟨a⟩⟩ := a
  obtain ⟨⟨b⟩⟩ := b
  have : a = b := List.le_antisymm h g
  rw [this]
theorem SLe.total (a b : Str) : SLe a b ∨ SLe b a := List.le_total _ _
theorem insStr_rises (x : Str) : ∀ l : List Str, l.Pairwise SLe → (insStr x l).Pairwise SLe
  | [], _ => by simp [insStr]
  | y :: r, h => by
    obtain ⟨h1, h2⟩ := List.pairwise_cons.mp h
    unfold insStr
    by_cases q : leStr x y = true
    · rw [if_pos q]
      have q := leStr_iff.1 q
      exact List.pairwise_cons.mpr ⟨fun z hz => (List.mem_cons.mp hz).elim (fun e => e ▸ q) fun m => q.trans (h1 z m), h⟩
    · rw [if_neg q]
      have q : SLe y x := (SLe.total x y).resolve_left fun z => q (leStr_iff.2 z)
      refine List.pairwise_cons.mpr ⟨fun z hz => ?_, insStr_rises x r h2⟩
      rcases List.mem_cons.mp ((insStr_perm x r).mem_iff.mp hz) with e | m
      · rw [e]; exact q
      · exact h1 z m
theorem sortStr_rises : ∀ l, (sortStr l).Pairwise SLe
  | [] => .nil
  | x :: r => insStr_rises x _ (sortStr_rises r)
theorem insInt_rises (x : Int) : ∀ l : List Int, l.Pairwise (· ≤ ·) → (insInt x l).Pairwise (· ≤ ·)
  | [], _ => by simp [insInt]
  | y :: r, h => by
    obtain ⟨h1, h2⟩ := List.pairwise_cons.mp h
    unfold insInt
    by_cases q : x ≤ y
    · rw [if_pos q]
      exact List.pairwise_cons.mpr ⟨fun z hz => (List.mem_cons.mp hz).elim (fun e => e ▸ q) fun m => Int.le_trans q (h1 z m), h⟩
    · rw [if_neg q]
      refine List.pairwise_cons.mpr ⟨fun z hz => ?_, insInt_rises x r h2⟩
      rcases List.mem_cons.mp ((insInt_perm x r).mem_iff.mp hz) with e | m
      · rw [e]; omega
      · exact h1 z m
theorem sortInt_rises : ∀ l, (sortInt l).Pairwise (· ≤ ·)
  | [] => .nil
  | x :: r => insInt_rises x _ (sortInt_rises r)
theorem rising_pw : ∀ (l : List Str) (p : Str), PyProof.Rows.risingS p l = true → (p :: l).Pairwise SLe
  | [], p, _ => List.pairwise_singleton _ _
  | x :: r, p, h => by
    unfold PyProof.Rows.risingS at h
    rw [Bool.and_eq_true, Bool.not_eq_true'] at h
    have ih := rising_pw r x h.2
    have q : SLe p x := by
      have := h.1
      rw [PyProof.Rows.ltCps_eq] at this
      exact of_decide_eq_false this
    refine List.pairwise_cons.mpr ⟨fun z hz => (List.mem_cons.mp hz).elim (fun e => e ▸ q) fun m => q.trans ((List.pairwise_cons.mp ih).1 z m), ih⟩
theorem sorted_pw : ∀ {l : List Str}, PyProof.Rows.sortedS l = true → l.Pairwise SLe
  | [], _ => .nil
  | x :: r, h => rising_pw r x h
theorem eq_sortStr {ys ks : List Str} (p : ys.Perm ks) (h : PyProof.Rows.sortedS ys = true) : ys = sortStr ks :=
  List.Perm.eq_of_pairwise (fun _ _ _ _ a b => SLe.anti a b) (sorted_pw h) (sortStr_rises ks) (p.trans (sortStr_perm ks).symm)
theorem eq_sortInt {ys ks : List Int} (p : ys.Perm ks) (h : ys.Pairwise (· ≤ ·)) : ys = sortInt ks :=
  List.Perm.eq_of_pairwise (fun _ _ _ _ a b => Int.le_antisymm a b) h (sortInt_rises ks) (p.trans (sortInt_perm ks).symm)
theorem sortD_cases {xs ys : List D} (h : sortD xs = some ys) : (∃ ks, strsOf xs = some ks ∧ ks.length < 64 ∧ ys = (sortStr ks).map .str) ∨ ∃ ks, intsOf xs = some ks ∧ ks.length < 64 ∧ ys = (sortInt ks).map .int := by
  unfold sortD at h
  cases q : strsOf xs with
  | some ks =>
    rw [q] at h
    simp only at h
    by_cases z : ks.length < 64
    · rw [if_pos z] at h; cases h; exact .inl ⟨ks, rfl, z, rfl⟩
    · rw [if_neg z] at h; cases h
  | none =>
    rw [q] at h
    simp only at h
    cases q2 : intsOf xs with
    | none => rw [q2] at h; cases h
    | some ks =>
      rw [q2] at h
      simp only [Option.bind] at h
      by_cases z : ks.length < 64
      · rw [if_pos z] at h; cases h; exact .inr ⟨ks, rfl, z, rfl⟩
      · rw [if_neg z] at h; cases h
theorem keys_str : ∀ {ds : List (Key × D)} {ks : List Str}, strsOf (ds.map fun p => keyD p.1) = some ks → ds.map (·.1) = ks.map Sum.inr
  | [], ks, h => by cases h; rfl
  | (.inl k, d) :: ds, ks, h => by cases h
  | (.inr k, d) :: ds, ks, h => by
    have h : (strsOf (ds.map fun p => keyD p.1)).map (k :: ·) = some ks := h
    cases q : strsOf (ds.map fun p => keyD p.1) with
    | none => rw [q] at h; cases h
    | some ks' =>
      rw [q] at h
      cases h
      rw [List.map_cons, List.map_cons, keys_str q]
theorem keys_int : ∀ {ds : List (Key × D)} {ks : List Int}, intsOf (ds.map fun p => keyD p.1) = some ks → ds.map (·.1) = ks.map Sum.inl
  | [], ks, h => by cases h; rfl
  | (.inr k, d) :: ds, ks, h => by cases h
  | (.inl k, d) :: ds, ks, h => by
    have h : (intsOf (ds.map fun p => keyD p.1)).map (k :: ·) = some ks := h
    cases q : intsOf (ds.map fun p => keyD p.1) with
    | none => rw [q] at h; cases h
    | some ks' =>
      rw [q] at h
      cases h
      rw [List.map_cons, List.map_cons, keys_int q]
theorem c_sorted (hc : X.calm = true) (hk : X.K = M.K) : CallR X (.builtin "sorted") (rON M (opD .sorted_)) := c_1 (o1 (g := oSorted) (fun _ => rfl) rfl fun _ _ _ => rfl) fun pins s σ H x u Q F d r I rx le h1 h3 h4 => by
  unfold oSorted nD at h3
  split at h3
  · rename_i kvs
    cases q : sortD (kvs.map fun p => keyD p.1) with
    | none => rw [q] at h3; cases h3
    | some ys =>
      rw [q] at h3
      cases h3
      obtain ⟨l, ws, rfl, g1, g2⟩ := h1.dct le
      rcases sortD_cases q with ⟨ks, e1, e2, rfl⟩ | ⟨ks, e1, e2, rfl⟩
      · exact call_sortedD hc pins s σ H _ _ Q I (vals1' rx) ⟨l, ws, ks, rfl, g1, g2.keys.symm.trans (keys_str e1), e2, fun ys p hp hs hn => by rw [eq_sortStr hp hs]; exact q_n h4 hn (reps_str _)⟩
      · exact call_sortedDI hc pins s σ H _ _ Q I (vals1' rx) ⟨l, ws, ks, rfl, g1, g2.keys.symm.trans (keys_int e1), e2, fun ys p hp hs hn => by rw [eq_sortInt hp hs]; exact q_n h4 hn (reps_int _)⟩
  · rename_i xs
    cases q : sortD xs with
    | none => rw [q] at h3; cases h3
    | some ys =>
      rw [q] at h3
      cases h3
      obtain ⟨l, vs, rfl, g1, g2⟩ := h1.lst le
      rcases sortD_cases q with ⟨ks, e1, e2, rfl⟩ | ⟨ks, e1, e2, rfl⟩
      · have e := g2.strs e1
        subst e
        exact cr_sortedS pins s σ H _ _ Q I (vals1' rx) ⟨l, ks, rfl, hk ▸ g1, e2, fun ys p hp hs hn => by rw [eq_sortStr hp hs]; exact q_n h4 hn (reps_str _)⟩
      · have e := g2.ints e1
        subst e
        exact cr_sorted pins s σ H _ _ Q I (vals1' rx) ⟨l, ks, rfl, hk ▸ g1, e2, fun ys p hp hs hn => by rw [eq_sortInt hp hs]; exact q_n h4 hn (reps_int _)⟩
  · cases h3

/-! ### dict(pairs), d[k] = v -/
theorem putK_cons {k j : Key} {y v : V} {r : List (Key × V)} (nd : (((j, y) :: r).map (·.1)).Nodup) : putK ((j, y) :: r) k v = if j = k then (j, v) :: r else (j, y) :: putK r k v := by
  rw [List.map_cons, List.nodup_cons] at nd
  unfold putK
  rw [List.any_cons]
  by_cases q : j = k
  · subst q
    have e : (r.map fun kv => if kv.1 = j then (kv.1, v) else kv) = r := by
      conv => rhs; rw [← List.map_id r]
      refine List.map_congr_left fun p hp => ?_
      have hm : p.1 ∈ r.map (·.1) := List.mem_map_of_mem (f := (·.1)) hp
      rw [if_neg fun z => nd.1 (by rw [← z]; exact hm)]; rfl
    simp [e]
  · simp only [decide_eq_false q, Bool.false_or, List.map_cons, if_neg q, List.cons_append]
    split <;> rfl
theorem RepK.put {k : Key} {d : D} {v : V} (rd : Rep M F d v) : ∀ {ds : List (Key × D)} {ws : List (Key × V)}, (ws.map (·.1)).Nodup → RepK M F ds ws → RepK M F (putD k d ds) (putK ws k v)
  | [], _, _, h => by cases h; exact ⟨v, [], rfl, rd, rfl⟩
  | (j, x) :: ds, _, nd, ⟨y, ws, e, r, t⟩ => by
    subst e
    rw [putK_cons nd]
    unfold putD
    rw [List.map_cons, List.nodup_cons] at nd
    by_cases q : j = k
    · rw [if_pos q, if_pos q]; exact ⟨v, ws, rfl, rd, t⟩
    · rw [if_neg q, if_neg q]; exact ⟨y, _, rfl, r, RepK.put rd nd.2 t⟩
end
end PV

set_option Elab.async false
set_option linter.all false
set_option maxRecDepth 100000
set_option maxHeartbeats 1000000
/-! PvN: iterables; slices; isinstance; stores. -/
namespace PV
open PySem L2
/-- an iterable's data stand in the heap -/
def iD (M : Nm) (HX : Hp) (K : D → Option (List D)) : V → Hp → (It → Hp → Prop) → Prop := fun x H R => ∃ F d ds, Le F H ∧ Rep M F d x ∧ K d = some ds ∧ ∀ J F1 H1, Lk HX F H F1 H1 → IterOk M F1 H1 J ds → R J H1
def kSeq : D → Option (List D)
  | .lst xs => some xs
  | .tup xs => some xs
  | .dct kvs => some (kvs.map fun p => keyD p.1)
  | .str z => some (z.cps.toList.map fun c => .str ⟨#[c]⟩)
  | _ => none
def kItm : D → Option (List D)
  | .dct kvs => some (kvs.map fun p => .tup [keyD p.1, p.2])
  | _ => none
def kVal : D → Option (List D)
  | .dct kvs => some (kvs.map (·.2))
  | _ => none
section
variable {M : Nm} {H0 : Hp} {W : WX} {T : Tb}
theorem it_of {HX F H : Hp} {σ : L2.St} {ρ : Env} {e : CE} {K : D → Option (List D)} {R : It → Hp → Prop} (R0 : Rel M H0 F H σ ρ)
    (p : PostI M H0 W HX F H σ ρ ((ev T e ρ).bind fun v ρ1 => (okD v ρ1).bind fun d ρ2 => lift (K d) ρ2) R) : tE M H0 W T e σ H fun x H1 => iD M HX K x H1 R := by
  refine ⟨F, ρ, R0, ?_⟩
  cases h : ev T e ρ with
  | bad => rw [h] at p; exact p.elim
  | exc e ρ1 => rw [h] at p; exact p
  | ok v ρ1 =>
    rw [h] at p
    intro x F1 H1 R1 S1 E1 V1
    simp only [Out.bind, okD] at p
    cases h2 : fr ρ1 v with
    | none => rw [h2] at p; exact p.elim
    | some q =>
      obtain ⟨d, ρ2⟩ := q
      rw [h2] at p
      simp only at p
      cases h3 : K d with
      | none => rw [h3] at p; exact p.elim
      | some ds =>
        rw [h3] at p
        obtain ⟨F2, Z⟩ := fr_ok R1 S1 V1.1 V1.2 h2
        exact ⟨F2, d, ds, Z.rel.sub, Z.rep, h3, fun J F3 H3 lk it => p J F2 H1 F3 H3 Z.rel Z.stp (E1.trans Z.es) lk it⟩
theorem i_sq {HX : Hp} {e : CE} {σ : L2.St} {H : Hp} {R : It → Hp → Prop} (h : tI M H0 W T HX (.seq e) σ H R) : tE M H0 W T e σ H fun x H1 => iD M HX kSeq x H1 R := by
  obtain ⟨F, ρ, R0, p⟩ := h
  simp only [evI] at p
  refine it_of R0 ?_
  cases h : ev T e ρ with
  | bad => rw [h] at p; exact p
  | exc e ρ1 => rw [h] at p; exact p
  | ok v ρ1 =>
    rw [h] at p
    simp only [Out.bind] at p ⊢
    cases h2 : okD v ρ1 with
    | bad => rw [h2] at p; exact p
    | exc e ρ1 => rw [h2] at p; exact p
    | ok d ρ2 => rw [h2] at p; cases d <;> exact p
end
section
variable {X : Cx} {pins : List (Addr × Obj)} {σ : L2.St} {F H : Hp} {s : Shared} {M : Nm}
theorem Keep.rd {F1 H1 H : Hp} {a : Addr} {u : HO} (k : Keep F1 H1 H) (f : Fz F1 a) (r : Rd H1 a u) : Rd H a u := r.imp (k a _ f) fun ⟨o, r⟩ => ⟨o, k a _ f r⟩
theorem it_lst {K : PySem.W.Frag} {a : Addr} {vs : List V} {ds : List D} (le : Le F H) (r : Rd F a (.lst vs)) (h : Reps M F ds vs) : IterOk M F H (Itl K a) ds := by
  have rd : ∀ H', Keep F H H' → SqL K H' a vs := fun H' k => .inl (k.rd (rd_fz r fun x z => by cases z) (le.l _ _ r))
  refine ⟨fun i H' hi k => ?_, fun H' k => ⟨vs, rd H' k, by rw [h.length]; exact Nat.le_refl _⟩, fun i H' x H2 hi k y => ?_⟩
  · rw [h.length] at hi
    exact ⟨vs, _, rd H' k, List.getElem?_eq_getElem hi⟩
  · obtain ⟨rfl, y⟩ := y
    obtain ⟨d, hd, rp⟩ := h.get (y vs (rd _ k))
    exact ⟨d, hd, .inl ⟨rfl, rp⟩⟩
theorem it_tup {K : PySem.W.Frag} {a : Addr} {vs : List V} {ds : List D} (le : Le F H) (r : F a = some (.tup vs)) (h : Reps M F ds vs) : IterOk M F H (Itt K a) ds := by
  have rd : ∀ H', Keep F H H' → SqT K H' a vs := fun H' k => .inl (.inl (k a _ (rd_fz (.inl r) fun x z => by cases z) (le.t _ _ r)))
  refine ⟨fun i H' hi k => ?_, fun H' k => ⟨vs, rd H' k, by rw [h.length]; exact Nat.le_refl _⟩, fun i H' x H2 hi k y => ?_⟩
  · rw [h.length] at hi
    exact ⟨vs, _, rd H' k, List.getElem?_eq_getElem hi⟩
  · obtain ⟨rfl, y⟩ := y
    obtain ⟨d, hd, rp⟩ := h.get (y vs (rd _ k))
    exact ⟨d, hd, .inl ⟨rfl, rp⟩⟩
theorem it_str {z : Str} : IterOk M F H (Its z) (z.cps.toList.map fun c => .str ⟨#[c]⟩) := by
  refine ⟨fun i H' hi k => ?_, fun H' k => ?_, fun i H' x H2 hi k y => ?_⟩
  · show i < z.cps.size
    simpa using hi
  · show z.cps.size ≤ _
    simp
  · obtain ⟨rfl, c, hc, rfl⟩ := y
    exact ⟨.str ⟨#[c]⟩, by simp [hc], .inl ⟨rfl, rfl⟩⟩
theorem it_keys {a : Addr} {o : Obj} {ws : List (Key × V)} {kvs : List (Key × D)} (hf : Fz F a) (hd : H a = some (.frz o (.dK ws))) (h : RepK M F kvs ws) : IterOk M F H (Itk a o ws) (kvs.map fun p => keyD p.1) := by
  refine ⟨fun i H' hi k => ⟨k a _ hf hd, ?_⟩, fun H' k => ⟨k a _ hf hd, ?_⟩, fun i H' x H2 hi k y => ?_⟩
  · rw [List.length_map, h.length] at hi; exact hi
  · rw [List.length_map, h.length]; exact Nat.le_refl _
  · obtain ⟨rfl, q, v, hq, rfl⟩ := y
    obtain ⟨d, g1, g2⟩ := (repk_keys h).get (show (ws.map fun p => kV p.1)[i]? = some (kV q) by rw [List.getElem?_map, hq]; rfl)
    exact ⟨d, g1, .inl ⟨rfl, g2⟩⟩
/-- a dict is locked for a walk -/
theorem dict_lock (I : Inv X pins σ H s) (le : Le F H) {a : Addr} {ws : List (Key × V)} (r : Rd F a (.dK ws)) : ∃ o F1 H1, Inv X pins σ H1 s ∧ H1 a = some (.frz o (.dK ws)) ∧ Fz F1 a ∧ Lk X.H_0 F H F1 H1 ∧ Le F F1 := by
  rcases le.k _ _ r with h | ⟨o, h⟩
  · obtain ⟨o, I1⟩ := I.lock h trivial
    exact ⟨o, upd F a (.frz o (.dK ws)), upd H a (.frz o (.dK ws)), I1, upd_same, rd_fz (u := .dK ws) (.inr ⟨o, upd_same⟩) (fun x z => by cases z), .inr ⟨a, o, ws, r, h, I.nofrz h trivial, rfl, rfl⟩, Le.lock r⟩
  · exact ⟨o, F, H, I, h, rd_fz r (fun x z => by cases z), .inl ⟨rfl, rfl⟩, Le.refl _⟩
theorem p_it {tg e : Expr} {te : V → Hp → (It → Hp → Prop) → Prop} {t : TI} {c : TE} (he : PE X e c) (i : ∀ σ H R, t σ H R → c σ H fun x H1 => te x H1 R)
    (k : ∀ pins s σ H x v R, Inv X pins σ H s → RelV x v → te x H R → wpAny (model X.prog X.w) X.A (pyIter v) (PIE X pins σ tg R) X.xe s) : PI X tg e t :=
  ⟨fun pins s σ H R I h => thn (he.run pins s σ H _ I (i σ H R h)) fun v s1 ⟨x, H1, I1, r1, q1⟩ => k pins s1 σ H1 x v R I1 r1 q1⟩
theorem run_seq {tg : Expr} {pins : List (Addr × Obj)} {s : Shared} {σ : L2.St} {H : Hp} {x : V} {v : Value} {R : It → Hp → Prop} (I : Inv X pins σ H s) (rx : RelV x v) (h : iD M X.H_0 kSeq x H R) :
    wpAny (model X.prog X.w) X.A (pyIter v) (PIE X pins σ tg R) X.xe s := by
  obtain ⟨F, d, ds, le, rp, hk, q⟩ := h
  cases d with
  | lst xs =>
    cases hk
    obtain ⟨a, vs, rfl, r, rs⟩ := rp
    cases rx
    obtain ⟨its, rv, p, hz⟩ := I.list (.inl (le.l _ _ r))
    refine wpAny_pyIter_list p.isList ?_
    exact pi_one (tk := s.toks) I _ (turn_list a _) ⟨_, Heap.get?_push_size _ rfl, rfl, rfl⟩ (q (Itl X.K a) F H (.inl ⟨rfl, rfl⟩) (it_lst le r rs))
  | tup xs =>
    cases hk
    obtain ⟨a, vs, rfl, r, rs⟩ := rp
    cases rx
    obtain ⟨its, rv, p, hz⟩ := I.tuple (.inl (.inl (le.t _ _ r)))
    refine wpAny_pyIter_tuple (show s.heap.IsTuple a its.toArray from p) ?_
    exact pi_one (tk := s.toks) I _ (turn_tuple a _) ⟨_, Heap.get?_push_size _ rfl, rfl, rfl⟩ (q (Itt X.K a) F H (.inl ⟨rfl, rfl⟩) (it_tup le r rs))
  | dct kvs =>
    cases hk
    obtain ⟨a, ws, rfl, r, rs⟩ := rp
    cases rx
    obtain ⟨o, F1, H1, I1, hd, hf, lk, l1⟩ := dict_lock I le r
    obtain ⟨hs, hgd, hx, es, ep, vs, hdt, hsz, kv, hm⟩ := I1.frzK hd
    refine iter_keys hs hgd hx hdt (pi_one (tk := s.toks) I1 _ (turn_keys _ hdt) ⟨_, Heap.get?_push_size _ rfl, rfl, ?_⟩ (q (Itk a o ws) F1 H1 lk (it_keys hf hd (RepK.mono l1 _ _ rs))))
    rw [hsz] <;> rfl
  | str z =>
    cases hk
    cases (show x = .str z from rp)
    obtain ⟨t, rfl⟩ := rx
    have q' := q (Its z) F H (.inl ⟨rfl, rfl⟩) it_str
    cases ha : z.cps.all (· < 128)
    · exact wpAny_pyIter_wide ha (pi_one (tk := s.toks) I _ (turn_str _ z t "str_iterator" (.inr rfl)) ⟨_, Heap.get?_push_size _ rfl, rfl, rfl⟩ q')
    · exact wpAny_pyIter_ascii ha (pi_one (tk := s.toks) I _ (turn_str _ z t "str_ascii_iterator" (.inl rfl)) ⟨_, Heap.get?_push_size _ rfl, rfl, rfl⟩ q')
  | _ => cases hk

section
variable {W : WX} {H0 : Hp} {T : Tb} {tg e : Expr} {c : CE} {apos cpos : Pos}
theorem p_seq (he : PE X e (tE M H0 W T c)) : PI X tg e (tI M H0 W T X.H_0 (.seq c)) := p_it he (fun _ _ _ h => i_sq h) fun _ _ _ _ _ _ _ I rx h => run_seq I rx h
/-! ### range -/
theorem it_rng {lo : Int} {n : Nat} : IterOk M F H (Itr lo n) (mapRange lo n) := by
  have hl : (mapRange lo n).length = n := by simp [mapRange]
  refine ⟨fun i H' hi k => ?_, fun H' k => ?_, fun i H' x H2 hi k y => ?_⟩
  · rw [hl] at hi; exact hi
  · rw [hl]; exact Nat.le_refl _
  · obtain ⟨rfl, rfl⟩ := y
    rw [hl] at hi
    exact ⟨.int (lo + i), by simp [mapRange, hi], .inl ⟨rfl, rfl⟩⟩
theorem i_rng {HX : Hp} {c : CE} {σ : L2.St} {H : Hp} {R : It → Hp → Prop} (h : tI M H0 W T HX (.rng c) σ H R) : iRng1 (tCons (tE M H0 W T c) tNil) σ H R := by
  obtain ⟨F, ρ, R0, p⟩ := h
  simp only [evI] at p
  refine ⟨F, ρ, R0, ?_⟩
  cases h : ev T c ρ with
  | bad => rw [h] at p; exact p.elim
  | exc e ρ1 => rw [h] at p; exact p
  | ok v ρ1 =>
    rw [h] at p
    intro x F1 H1 R1 S1 E1 V1
    simp only [Out.bind] at p
    cases v with
    | f d =>
      cases d with
      | int n =>
        simp only at p
        split at p
        · rename_i hn
          have e : x = .int n := V1.1
          subst e
          have := small_63 hn
          exact ⟨n, rfl, this.1, this.2, p _ F1 H1 F1 H1 R1 S1 E1 (.inl ⟨rfl, rfl⟩) it_rng⟩
        · exact p.elim
      | _ => exact p.elim
    | _ => exact p.elim
theorem PI.imp {t t' : TI} (h : PI X tg e t) (i : ∀ σ H R, t' σ H R → t σ H R) : PI X tg e t' := ⟨fun pins s σ H R I q => h.run pins s σ H R I (i σ H R q)⟩
end
/-! ### slices -/
theorem cut_reps {ds : List D} {vs : List V} (h : Reps M F ds vs) (lo hi : Option Int) : Reps M F (cut ds lo hi) (cutV vs lo hi) := by
  unfold cut cutV
  have e : slIx = HT.sIx := rfl
  rw [e, h.length]
  exact (h.drop _).take _
/-- x[lo:hi] by values -/
def rSl (M : Nm) : V → Option Int → Option Int → Hp → VK → Prop := fun x lo hi H Q => ∃ F d r, Le F H ∧ RT M F H d x ∧ sliD lo hi d = some r ∧ ∀ v F' H', OpPost M F H r v F' H' → Q v H'
theorem r_sl (hk : X.K = M.K) : SlR X (rSl M) := by
  rintro pins s σ H x v vl vu lo hi sl Q I rx hs pl pu ⟨F, d, r, le, h1, h3, h4⟩
  cases d with
  | lst xs =>
    cases h3
    obtain ⟨l, vs, rfl, g1, g2⟩ := h1.lst le
    exact sl_list pins s σ H _ v vl vu lo hi sl Q I rx hs pl pu ⟨l, vs, rfl, hk ▸ g1, fun p hp => q_n h4 hp (cut_reps g2 lo hi)⟩
  | tup xs =>
    cases h3
    have h0 := rep_of_rt h1 fun o r => by cases o <;> exact r
    obtain ⟨l, vs, rfl, g1, g2⟩ := h1.tup le
    refine sl_tupA pins s σ H _ v vl vu lo hi sl Q I rx hs pl pu ⟨l, vs, rfl, .inl (.inl g1), fun w => ?_, fun _ p hp => q_t le h4 hp (cut_reps g2 lo hi)⟩
    have e : cut xs lo hi = xs := by
      unfold cut
      have e : slIx = HT.sIx := rfl
      rw [e, g2.length, w.1, w.2, ← g2.length]
      simp
    rw [e] at h4
    exact q_f h4 h0
  | str z =>
    have h3 : (if z.length ≤ LIM then fD (.str ⟨(cut z.cps.toList lo hi).toArray⟩) else none) = some r := h3
    by_cases hz : z.length ≤ LIM
    · rw [if_pos hz] at h3
      cases h3
      cases h1.str
      have e : (⟨(cut z.cps.toList lo hi).toArray⟩ : Str) = cutS z lo hi := rfl
      rw [e] at h4
      exact sl_str pins s σ H _ v vl vu lo hi sl Q I rx hs pl pu ⟨z, rfl, lim_ok hz, q_f h4 rfl⟩
    · rw [if_neg hz] at h3
      cases h3
  | _ => cases h3
end
end PV

set_option Elab.async false
set_option linter.all false
set_option maxRecDepth 100000
set_option maxHeartbeats 1000000
/-! PvO: dict comprehensions. -/
namespace PV
open PySem L2
section
variable {M : Nm} {H0 : Hp} {W : WX} {T : Tb}
def fDc (T : Tb) (ke e c : CE) (t : CT) (own : List Nat) : D → Env → Out (List (Key × D)) := fun x ρ => match tgt ρ t x with
  | none => .bad
  | some ρ => (ev T c ρ).bind fun b ρ => truth b ρ fun q ρ => if q then (ev T ke ρ).bind fun kv ρ => (ev T e ρ).bind fun v ρ => match (rd ρ kv).bind keyOf with
    | some key => (okD v ρ).bind fun d ρ => .ok [(key, d)] (wipeE ρ own)
    | none => .bad
    else .ok [] (wipeE ρ own)
end
end PV

set_option Elab.async false
set_option linter.all false
set_option maxRecDepth 100000
set_option maxHeartbeats 1000000
/-! PvP: displays with stars; dict displays. -/
namespace PV
open PySem L2
section
variable {M : Nm} {H0 : Hp} {W : WX} {T : Tb}
abbrev VRd (M : Nm) : Hp → Hp → Env → List D → List V → Prop := fun F' _ _ ds vs => Reps M F' ds vs
def tAS (M : Nm) (H0 : Hp) (W : WX) (T : Tb) (cs : CEs) (st : List Bool) : TA := fun σ H Q => ∃ F ρ, Rel M H0 F H σ ρ ∧ Post M H0 W F H σ ρ (VRd M) (evsS T cs st ρ) Q
end
end PV

set_option Elab.async false
set_option linter.all false
set_option maxRecDepth 100000
set_option maxHeartbeats 1000000
/-! PvQ: stores, isinstance, dict displays. -/
namespace PV
open PySem L2
section
variable {X : Cx} {pins : List (Addr × Obj)} {σ : L2.St} {F H : Hp} {s : Shared} {M : Nm} {Q : VK}
/-! ### o[k] = v -/
theorem r_set (hu : X.A.units + 1 < cLine) : PSet X (rSet M) := by
  rintro pins s σ H o i v ov iv u Q I ro ri rv ⟨F, a, ob, d, k, e, d', rfl, le, hH, rt, rk, re, hs, q⟩
  unfold setD at hs
  split at hs
  · rename_i xs j
    cases g : ixOf xs.length j with
    | none => rw [g] at hs; cases hs
    | some m =>
      rw [g] at hs
      cases hs
      cases ob with
      | lst vs =>
        have rs : Reps M F xs vs := rt
        cases rk.int
        refine set_list pins s σ H _ _ v ov iv u Q I ro ri rv ⟨a, vs, j, m, rfl, rfl, hH, ?_, q _ (rs.set m re)⟩
        rw [← rs.length]; exact g
      | _ => exact rt.elim
  · rename_i kvs
    cases g : keyOf k with
    | none => rw [g] at hs; cases hs
    | some key =>
      rw [g] at hs
      simp only [Option.bind] at hs
      split at hs
      · rename_i hz
        cases hs
        cases ob with
        | dK ws =>
          have rs : RepK M F kvs ws := rt
          cases rk.key g
          cases ro
          have nd := dK_nodup I (.inl hH)
          exact d_setItem hu I (DPut.k hH (by rw [← rs.length]; exact lim_lt hz)) ri rv fun s' I' => ⟨_, I', q (.dK (putK ws key v)) (rs.put re nd)⟩
        | _ => exact rt.elim
      · cases hs
  · cases hs
/-! ### isinstance -/
/-- the type's name of data that are no object -/
def tyN : D → Option String
  | .non => some "NoneType" | .bl _ => some "bool" | .int _ => some "int" | .str _ => some "str" | .lst _ => some "list" | .tup _ => some "tuple" | .dct _ => some "dict" | .dcT _ => none | .obj _ _ => none | .exn _ _ => none
theorem ty_ok (le : Le F H) {d : D} {x : V} (h : RT M F H d x) {n : String} (e : tyN d = some n) : TyX X.K H x (.type n) := by
  cases d with
  | non => cases e; rw [h.non]; exact .base .non
  | bl b => cases e; rw [h.bl]; exact .base (.bl b)
  | int b => cases e; rw [h.int]; exact .base (.int b)
  | str b => cases e; rw [h.str]; exact .base (.str b)
  | lst ds =>
    cases e
    obtain ⟨a, vs, rfl, h1, _⟩ := h.lstR le
    rcases h1 with h1 | ⟨o, h1⟩
    · exact .base (.lst h1)
    · exact .base (.frz h1)
  | tup ds => cases e; obtain ⟨a, vs, rfl, h1, _⟩ := h.tup le; exact .base (.tup h1)
  | dct ds =>
    cases e
    obtain ⟨a, vs, rfl, h1, _⟩ := h.dct le
    rcases h1 with h1 | ⟨o, h1⟩
    · exact .base (.dK h1)
    · exact .fDict h1
  | dcT ds => cases e
  | obj C fs => cases e
  | exn C fs => cases e
/-- isinstance(x, T), T built in -/
theorem c_isi {T : String} {p : D → Bool} (hp : ∀ d n, tyN d = some n → kitB n T = some (p d)) : CallR X (.builtin "isinstance") fun xs H Q => ∃ x, xs = [x, .ty T] ∧ rO1 M (oTy p) x H Q := by
  rintro pins s σ H xs us Q I rx ⟨x, rfl, F, d, r, le, h1, h3, h4⟩
  have hn : ∃ n, tyN d = some n ∧ r = .f (.bl (p d)) := by
    cases d <;> first | (cases h3; exact ⟨_, rfl, rfl⟩) | (cases h3)
  obtain ⟨n, e, rfl⟩ := hn
  exact call_isi pins s σ H _ us Q I rx ⟨x, _, _, _, p d, rfl, .ty T, ty_ok le h1 e, kit_ty (hp d n e), q_f h4 rfl⟩
/-- what isinstance asks of an own class -/
structure IsC (K : PySem.W.Frag) (C : Addr) : Prop where
  cl : Cls K C
  ha : PySem.W.findIn K (.ref C) "__class__" = some (some (.builtin "object.__class__"))
  hn : PySem.W.specialIn K (.builtin "object.__class__") "__get__" = some (some (.builtin "getset_descriptor.__get__"))
  htk : PySem.W.takesIn K (.builtin "object.__class__") = some true
  hm : PySem.W.mroIn K C (.type "object") = some true
  me : PySem.W.kitOne K (.ref C) (.ref C) = some true
  no : ∀ n ∈ ["NoneType", "bool", "int", "str", "list", "tuple", "dict"], PySem.W.kitOne K (.type n) (.ref C) = some false
  su : ∀ n ∈ ["NoneType", "bool", "int", "str", "list", "tuple", "dict"], PySem.W.subIn K (.type n) (.ref C) = some false
end
section
variable {M : Nm} {H0 : Hp} {W : WX} {T : Tb}
/-! ### {k: v, ..} -/
def trs (M : Nm) (H0 : Hp) (W : WX) (T : Tb) : List Key → CEs → List (TE × TE)
  | k :: ks, .cons e es => (tC (kV k), tE M H0 W T e) :: trs M H0 W T ks es
  | _, _ => []
end
end PV

set_option Elab.async false
set_option linter.all false
set_option maxRecDepth 100000
set_option maxHeartbeats 1000000
/-! PvR: the rules of the text: each a rule of the hand layer with the reading of the small language. Expressions. -/
namespace PV
open PySem L2
/-- no repr is under way; the table of the modules stands in the ground -/
structure Clr (A : Around) (base : Heap) : Prop where
  gd : A.guards = some []
  sm : ∃ o, base.get? sysModules = some o
/-- what every rule asks of a running body -/
structure Ok (X : Cx) (M : Nm) : Prop where
  hg : Clr X.A X.base
  hk : X.K = M.K
  hc : X.calm = true
  hu : X.A.units + 64 < cLine
  hN : X.N.Nodup
section
variable {X : Cx} {M : Nm} {H0 : Hp} {W : WX} {T : Tb} {a b c e : Expr} {es rest : List Expr} {ca cb cc ce : CE} {cs : CEs} {pos p : Pos} {o o' : Op}
theorem Ok.u1 (k : Ok X M) : X.A.units + 1 < cLine := Nat.lt_of_le_of_lt (Nat.add_le_add_left (by decide : 1 ≤ 64) _) k.hu
theorem tE_mono {σ : L2.St} {H : Hp} {Q Q' : VK} (h : tE M H0 W T ca σ H Q) (q : ∀ v H', Q v H' → Q' v H') : tE M H0 W T ca σ H Q' := by
  obtain ⟨F, ρ, R, p⟩ := h
  exact ⟨F, ρ, R, p.imp (fun _ _ _ _ _ z => z) q⟩
/-! ### constants, names -/
theorem k_int {i : Int} {j : Nat} : PE X (.Constant (.int i) j pos) (tE M H0 W T (.cst (.int i))) := e_cst pe_int fun _ => rfl
theorem k_bl {b : Bool} {j : Nat} : PE X (.Constant (.bool b) j pos) (tE M H0 W T (.cst (.bl b))) := e_cst pe_bl fun _ => rfl
theorem k_str {x : Str} {j : Nat} : PE X (.Constant (.str x) j pos) (tE M H0 W T (.cst (.str x))) := e_cst pe_str fun _ => rfl
/-- a constant of the module: an int, a text, a bool -/
theorem k_glb {g : Nat} {x : Str} {u : Value} {v : V} (hg : Gl X x) (hm : X.mg x = some u) (r : RelV v u) (rep : ∀ F, Rep M F (T.gl g) v) (hd : (x == ("__debug__" : Str)) = false := by decide) : PE X (.Name x pos) (tE M H0 W T (.glb g)) := e_glb (pe_glob hg hm r hd) rep
/-! ### operators -/
theorem k_bin {op : Operator} (ho : OpR X (binaryOp op) (rO2 M fun d e => opD o [d, e])) (ha : PE X a (tE M H0 W T ca)) (hb : PE X b (tE M H0 W T cb)) : PE X (.BinOp a op b pos) (tE M H0 W T (.op o (.cons ca (.cons cb .nil)))) :=
  PE.imp (pe_op ho ha hb) fun _ _ _ h => i_op2 h
theorem z_add (k : Ok X M) : OpR X (binaryOp .Add) (rO2 M fun d e => opD .add [d, e]) := r_add k.hk
theorem z_sub (k : Ok X M) : OpR X (binaryOp .Sub) (rO2 M fun d e => opD .sub [d, e]) := r_sub
theorem z_mul (k : Ok X M) : OpR X (binaryOp .Mult) (rO2 M fun d e => opD .mul [d, e]) := r_mul
theorem z_fdv (k : Ok X M) : OpR X (binaryOp .FloorDiv) (rO2 M fun d e => opD .fdv [d, e]) := r_fdv
theorem z_mod (k : Ok X M) : OpR X (binaryOp .Mod) (rO2 M fun d e => opD .mod [d, e]) := r_mod
theorem z_pow (k : Ok X M) : OpR X (binaryOp .Pow) (rO2 M fun d e => opD .pow [d, e]) := r_pow
theorem z_le (k : Ok X M) : OpR X (compareOp .LtE) (rO2 M fun d e => opD .le [d, e]) := r_le
theorem z_gt (k : Ok X M) : OpR X (compareOp .Gt) (rO2 M fun d e => opD .gt [d, e]) := r_gt
theorem z_ge (k : Ok X M) : OpR X (compareOp .GtE) (rO2 M fun d e => opD .ge [d, e]) := r_ge
theorem z_eq (k : Ok X M) : OpR X (compareOp .Eq) (rO2 M fun d e => opD .eq [d, e]) := r_eq k.hk k.hu
theorem z_ne (k : Ok X M) : OpR X (compareOp .NotEq) (rO2 M fun d e => opD .ne [d, e]) := r_ne k.hk k.hu
theorem z_in (k : Ok X M) : OpR X (compareOp .In) (rO2 M fun d e => opD .inn [d, e]) := r_inn false k.hk k.u1
theorem z_nin (k : Ok X M) : OpR X (compareOp .NotIn) (rO2 M fun d e => opD .nin [d, e]) := r_inn true k.hk k.u1
theorem k_cmp {op : CmpOp} (ho : OpR X (compareOp op) (rO2 M fun d e => opD o [d, e])) (ha : PE X a (tE M H0 W T ca)) (hb : PE X b (tE M H0 W T cb)) (hm : behindInMarks op b = false := by first | exact nobehind _ (by decide) (by decide) | rfl) :
    PE X (.Compare a [op] [b] pos) (tE M H0 W T (.op o (.cons ca (.cons cb .nil)))) := PE.imp (pe_cmpR ho ha hb hm) fun _ _ _ h => i_op2 h
theorem t_cmp {op : CmpOp} (ho : OpR X (compareOp op) (rO2 M fun d e => opD o [d, e])) (ha : PE X a (tE M H0 W T ca)) (hb : PE X b (tE M H0 W T cb)) (hm : behindInMarks op b = false := by first | exact nobehind _ (by decide) (by decide) | rfl) :
    PT X (.Compare a [op] [b] pos) (tT M H0 W T (.op o (.cons ca (.cons cb .nil)))) := PT.imp (pt_cmpR ho ha hb hm) fun _ _ _ h => i_op2 (i_test h)
theorem k_chn {op op' : CmpOp} (ho : OpR X (compareOp op) (rO2 M fun d e => opD o [d, e])) (ho' : OpR X (compareOp op') (rO2 M fun d e => opD o' [d, e])) (ha : PE X a (tE M H0 W T ca)) (hb : PE X b (tE M H0 W T cb)) (hc : PE X c (tE M H0 W T cc))
    (hm : lastMarks [op, op'] [b, c] = false := by with_unfolding_all rfl) : PE X (.Compare a [op, op'] [b, c] pos) (tE M H0 W T (.chn o o' ca cb cc)) := PE.imp (pe_chain ho ho' ha hb hc hm) fun _ _ _ h => i_chn h
theorem t_chn {op op' : CmpOp} (ho : OpR X (compareOp op) (rO2 M fun d e => opD o [d, e])) (ho' : OpR X (compareOp op') (rO2 M fun d e => opD o' [d, e])) (ha : PE X a (tE M H0 W T ca)) (hb : PE X b (tE M H0 W T cb)) (hc : PE X c (tE M H0 W T cc))
    (hm : lastMarks [op, op'] [b, c] = false := by with_unfolding_all rfl) : PT X (.Compare a [op, op'] [b, c] pos) (tT M H0 W T (.chn o o' ca cb cc)) := PT.imp (pt_chain ho ho' ha hb hc hm) fun _ _ _ h => i_chn (i_test h)
/-! ### and, or, not, if -/
theorem k_one {op : BoolOp} (h : PE X a (tE M H0 W T ca)) : PE X (.BoolOp op [a] pos) (tE M H0 W T ca) := pe_one h
theorem k_and (ha : PE X a (tE M H0 W T ca)) (hb : PE X (.BoolOp .And (b :: rest) pos) (tE M H0 W T cb)) : PE X (.BoolOp .And (a :: b :: rest) pos) (tE M H0 W T (.and_ ca cb)) := PE.imp (pe_and ha hb) fun _ _ _ h => i_and h
theorem k_not (ha : PE X a (tE M H0 W T ca)) : PE X (.UnaryOp .Not a pos) (tE M H0 W T (.not_ ca)) := PE.imp (pe_not ha) fun _ _ _ h => i_not h
theorem t_vl (h : PE X e (tE M H0 W T ce)) (he : ∀ whole, isTrue e X.env whole = (do let v ← whole; standAt e.pos; holding [v] (truthy v)) := by intro _; rfl) : PT X e (tT M H0 W T ce) := PT.imp (pt_val h he) fun _ _ _ h => i_test h
theorem w_or1 (ha : PT X a (tT M H0 W T ca)) : PW X (.BoolOp .Or [a] pos) (tT M H0 W T ca) := pw_or1 ha
theorem w_or (ha : PT X a (tT M H0 W T ca)) (hb : PW X (.BoolOp .Or (b :: rest) pos) (tT M H0 W T cb)) : PW X (.BoolOp .Or (a :: b :: rest) pos) (tT M H0 W T (.or_ ca cb)) := PW.imp (pw_or ha hb) fun _ _ _ h => j_or h
theorem t_not (ha : PT X a (tT M H0 W T ca)) : PT X (.UnaryOp .Not a pos) (tT M H0 W T (.not_ ca)) := PT.imp (pt_not ha) fun _ _ _ h => j_not h
/-! ### argument lists, displays -/
theorem k_nil : PA X [] (tA M H0 W T .nil) := PA.imp pa_nil fun _ _ _ h => i_nil h
theorem k_cons (ha : PE X e (tE M H0 W T ce)) (hr : PA X es (tA M H0 W T cs)) (hs : starEach (e :: es) X.env = (false, eval e X.env) :: starEach es X.env := by rfl) : PA X (e :: es) (tA M H0 W T (.cons ce cs)) := PA.imp (pa_cons ha hr hs) fun _ _ _ h => i_cons h
theorem k_lst (h : PA X es (tA M H0 W T cs)) : PE X (.List es pos) (tE M H0 W T (.lst cs)) := PE.imp (pe_lst h) fun _ _ _ h => i_lst h
theorem k_tup {j : Nat} (h : PA X es (tA M H0 W T cs)) : PE X (.Tuple es j pos) (tE M H0 W T (.tup cs)) := PE.imp (pe_tup h) fun _ _ _ h => i_tup h
/-! ### built-ins -/
theorem k_blt {id : String} {x : Str} (hc : CallR X (.builtin id) (rON M (opD o))) (hm : X.mg x = none) (ha : PA X (e :: es) (tA M H0 W T cs)) (hg : Gl X x := by rfl) (hv : bootBuiltins x = some (.builtin id) := by rfl) (hn : x ≠ "__name__" := by decide) (hdb : (x == ("__debug__" : Str)) = false := by decide)
    (he : starEach (e :: es) X.env = (false, eval e X.env) :: starEach es X.env := by rfl) (hpl : (backTo pos (starEach es X.env)).any (·.1) = false := by rfl) : PE X (.Call (.Name x p) (e :: es) [] pos) (tE M H0 W T (.op o cs)) :=
  PE.imp (pe_callB hc hg hm hv ha hn hdb he hpl) fun _ _ _ h => i_opN h
theorem k_typ {id : String} {x : Str} (hc : CallR X (.type id) (rON M (opD o))) (hm : X.mg x = none) (ha : PA X (e :: es) (tA M H0 W T cs)) (hg : Gl X x := by rfl) (hv : bootBuiltins x = some (.type id) := by rfl) (hn : x ≠ "__name__" := by decide) (hdb : (x == ("__debug__" : Str)) = false := by decide)
    (he : starEach (e :: es) X.env = (false, eval e X.env) :: starEach es X.env := by rfl) (hpl : (backTo pos (starEach es X.env)).any (·.1) = false := by rfl) : PE X (.Call (.Name x p) (e :: es) [] pos) (tE M H0 W T (.op o cs)) :=
  PE.imp (pe_callTy hc hg hm hv ha hn hdb he hpl) fun _ _ _ h => i_opN h
end
end PV

set_option Elab.async false
set_option linter.all false
set_option maxRecDepth 100000
set_option maxHeartbeats 1000000
/-! PvRA: [::-1] of lists and tuples. -/
namespace HT
open PySem PySem.Spec PyProof.Rows L2
section
variable {prog : Program} {w : World} {A : Around} {E : Value → Shared → Prop} {s : Shared}
theorem adjust_back (n : Nat) : Builtin.Slice.sliceAdjust none none (-1) (n : Int) = ((n : Int) - 1, -1) := rfl
theorem places_back (n : Nat) : Builtin.Slice.slicePlaces ((n : Int) - 1) (-1) (-1) = n := by
  unfold Builtin.Slice.slicePlaces
  rw [if_neg (by decide)]
  by_cases h : n = 0
  · subst h; rfl
  · rw [if_pos (by omega)]
    have e : ((n : Int) - 1 - -1 - 1) / (- -1) + 1 = n := by
      rw [show (- -1 : Int) = 1 from rfl, Int.ediv_one]
      omega
    rw [e, Int.toNat_natCast]
theorem applied_back {sl : Addr} {vl vu vs : Value} {n : Nat} {Q : Int × Int × Nat → Shared → Prop} (hs : s.heap.IsSliceOf sl vl vu vs) (pl : IsPart vl none) (pu : IsPart vu none) (ps : IsPart vs (some (-1)))
    (h : Q ((n : Int) - 1, -1, n) s) : wpAny (model prog w) A (Builtin.Slice.sliceApplied (.ref sl) (pure (n : Int))) Q E s := by
  obtain ⟨os, hos, hcs, hds⟩ := id hs
  unfold Builtin.Slice.sliceApplied Builtin.Slice.sliceFields
  refine wpAny_bind (wpAny_bind (wpAny_field hos hds (x := vl) rfl (wpAny_bind (wpAny_field hos hds (x := vu) rfl (wpAny_bind (wpAny_field hos hds (x := vs) rfl (wpAny_pure ?_)))))))
  refine wpAny_bind (slicePart_ ps ?_)
  show wpAny _ _ (if ((-1 : Int) == 0) = true then _ else _) _ _ s
  rw [if_neg (by decide)]
  refine wpAny_bind (slicePart_ pl (wpAny_bind (slicePart_ pu (wpAny_bind (wpAny_pure ?_)))))
  show wpAny _ _ (match Builtin.Slice.sliceAdjust none none (-1) (n : Int) with | (lo, hi) => pure (lo, (-1 : Int), Builtin.Slice.slicePlaces lo hi (-1))) _ _ s
  rw [adjust_back n]
  show wpAny _ _ (pure ((n : Int) - 1, (-1 : Int), Builtin.Slice.slicePlaces ((n : Int) - 1) (-1) (-1))) _ _ s
  rw [places_back]
  exact wpAny_pure h
theorem fm_congr {α β : Type} {f g : α → Option β} : ∀ {l : List α}, (∀ x ∈ l, f x = g x) → l.filterMap f = l.filterMap g
  | [], _ => rfl
  | x :: l, h => by rw [List.filterMap_cons, List.filterMap_cons, h x List.mem_cons_self, fm_congr fun y m => h y (List.mem_cons_of_mem _ m)]
theorem pick_back (xs : Array Value) : ((List.range xs.size).filterMap fun (m : Nat) => xs[((xs.size : Int) - 1 + (m : Int) * (-1)).toNat]?).toArray = xs.toList.reverse.toArray := by
  congr 1
  have e : ((List.range xs.size).filterMap fun (m : Nat) => xs[((xs.size : Int) - 1 + (m : Int) * (-1)).toNat]?) = (List.range xs.size).filterMap fun m => xs.toList.reverse[m]? := by
    refine fm_congr fun m hm => ?_
    rw [List.mem_range] at hm
    rw [List.getElem?_reverse (by rw [Array.length_toList]; exact hm), Array.length_toList, Array.getElem?_toList]
    congr 1
    omega
  rw [e]
  have l : xs.toList.reverse.length = xs.size := by rw [List.length_reverse, Array.length_toList]
  generalize xs.toList.reverse = ys at l
  rw [← l]
  clear l e
  induction ys with
  | nil => rfl
  | cons y ys ih =>
    rw [List.length_cons, List.range_succ_eq_map, List.filterMap_cons, List.filterMap_map]
    simp only [List.getElem?_cons_zero]
    congr 1
theorem getItem_tuple_back {t sl : Addr} {items : Array Value} {vl vu vs : Value} {Q : Value → Shared → Prop} (ht : IsTup s.heap t items) (hs : s.heap.IsSliceOf sl vl vu vs) (pl : IsPart vl none) (pu : IsPart vu none) (ps : IsPart vs (some (-1)))
    (h : Q (.ref s.heap.objs.size) { s with heap := s.heap.push { cls := .type "tuple", data := .seq items.toList.reverse.toArray } })
    (hsz : items.size ≤ sizeLine) : wpAny (model prog w) A (getItem (.ref t) (.ref sl)) Q E s := by
  have htake : sizeOk (.seq items.toList.reverse.toArray) := by
    show items.toList.reverse.toArray.size ≤ sizeLine
    rw [List.size_toArray, List.length_reverse, Array.length_toList]
    exact hsz
  obtain ⟨os, hos, hcs, hds⟩ := id hs
  have hTs : s.TypeIs (.ref sl) "slice" := ⟨os, hos, hcs⟩
  unfold getItem
  try with_reducible refine wpAny_holding ?_
  first | refine wpAny_bind (wpAny_pure ?_) | skip
  refine wpAny_bind (wpAny_sequenceKey ht.typeIs (by decide) ?_)
  refine wpAny_bind (wpAny_callSpecial?_slot (name := Str.ofString "__getitem__") ht.typeIs PyProof.Rows.slot_tuple_getitem
    (wpAny_call_entry PyProof.Rows.slot_tuple_getitem ht.typeIs entry_tuple_getitem ?_ (args_tuple_getitem _ _)))
  show wpAny _ _ (Builtin.Tuple.tupleItemsOf (.ref t) >>= _) _ _ s
  refine wpAny_bind (tupleItemsOf_ ht ?_)
  refine wpAny_bind (wpAny_typeOf hTs ?_)
  rw [if_pos (by decide)]
  refine wpAny_bind (applied_back hs pl pu ps ?_)
  have hno : ¬ ((((items.size : Int) - 1) == 0 && (-1 : Int) == 1 && items.size == items.size) = true) := by
    intro q
    rw [Bool.and_eq_true, Bool.and_eq_true] at q
    exact absurd q.1.2 (by decide)
  show wpAny _ _ (if (((items.size : Int) - 1) == 0 && (-1 : Int) == 1 && items.size == items.size) = true then _ else _) _ _ s
  rw [if_neg hno, pick_back]
  first
    | exact wpAny_bind (m := Builtin.Tuple.tupleExact _) (wpAny_newObj_type (wpAny_pure ⟨_, rfl, wpAny_pure h⟩) htake)
    | exact wpAny_bind (m := Builtin.Tuple.tupleExact _) (wpAny_newObj_type (wpAny_bind (wpAny_pure (wpAny_pure ⟨_, rfl, wpAny_pure h⟩))) htake)
    | exact wpAny_bind (wpAny_bind (m := Builtin.Tuple.tupleExact _) (wpAny_newObj_type (wpAny_pure (wpAny_pure ⟨_, rfl, wpAny_pure h⟩)) htake))
    | exact wpAny_bind (wpAny_bind (m := Builtin.Tuple.tupleExact _) (wpAny_newObj_type (wpAny_pure ⟨_, rfl, wpAny_pure h⟩) htake))
end
end HT
namespace PV
open PySem PySem.Spec PyProof.Rows L2
def tRevB (K : PySem.W.Frag) (te : TE) : TE := fun σ H Q => te σ H fun x H1 => ∃ a xs, x = .ref a ∧ ((SqL K H1 a xs ∧ ∀ p, H1 p = none → Q (.ref p) (upd H1 p (.lst xs.reverse))) ∨ (SqT K H1 a xs ∧ ∀ p, H1 p = none → Q (.ref p) (upd H1 p (.tup xs.reverse))))
theorem pe_revB {X : Cx} {e : Expr} {te : TE} {k : Nat} {p1 p2 p3 pos : Pos} (he : PE X e te) : PE X (.Subscript e (.Slice none none (some (.UnaryOp .USub (.Constant (.int 1) k p1) p2)) p3) pos) (tRevB X.K te) := by
  refine ⟨fun pins s σ H Q I h => ?_⟩
  refine Subscript_ (thn (he.run pins s σ H _ I h) fun v s1 ⟨x, H1, I1, r1, q1⟩ => ?_)
  obtain ⟨a, xs, ex, q⟩ := q1
  subst ex
  cases r1
  have hst : PO X (some (.UnaryOp .USub (.Constant (.int 1) k p1) p2)) (tPart (tUn (rU fun i => .int (-i)) (tC (.int 1)))) := po_some (pe_un un_neg pe_int)
  refine wpAny_Slice (thn (po_none.run pins s1 σ H1 (fun o H2 => o = none ∧ H2 = H1) I1 ⟨rfl, rfl⟩) fun vl s2 ⟨l, H2, I2, pl, el, e2⟩ => ?_)
  subst el e2
  refine thn (po_none.run pins s2 σ H2 (fun o H3 => o = none ∧ H3 = H2) I2 ⟨rfl, rfl⟩) fun vu s3 ⟨u, H3, I3, pu, eu, e3⟩ => ?_
  subst eu e3
  refine thn (hst.run pins s3 σ H3 (fun o H4 => o = some (-1) ∧ H4 = H3) I3 ⟨1, rfl, -1, rfl, rfl, rfl⟩) fun vs s4 ⟨o, H4, I4, ps, eo, e4⟩ => ?_
  subst eo e4
  have I5 : Inv X pins σ H4 { s4 with heap := s4.heap.push { cls := .type "slice", data := .fields #[vl, vu, vs] } } := I4.kept (t' := s4.toks) fun b ob q => Heap.get?_push_of_some _ q
  show wpAny (model X.prog X.w) X.A (subscriptTail e (.Slice none none (some (.UnaryOp .USub (.Constant (.int 1) k p1) p2)) p3) (.ref a) (.ref s4.heap.objs.size)) (EP X pins σ Q) X.xe { s4 with heap := s4.heap.push { cls := .type "slice", data := .fields #[vl, vu, vs] } }
  rcases q with ⟨hx, q⟩ | ⟨hx, q⟩
  · obtain ⟨its, r, ht, hz⟩ := I5.list hx
    have hlen := r.length
    refine tail_any (ops := [.ref a, .ref s4.heap.objs.size]) ht.isList.typeIs (PySem.slot_list_getitem.lookup) ?_ (by with_unfolding_all rfl)
    refine wpAny_getItem_list_slice ht.isList (Heap.IsSliceOf.new _ vl vu vs) pl pu ps (by decide) ?_ (by rw [List.size_toArray]; omega)
    rw [PySem.W.krv_pick]
    refine ⟨.ref _, _, I5.laid (t' := s4.toks) (o := .lst xs.reverse) (fun b ob q => Heap.get?_push_of_some _ q) (Nat.le_refl _) ?_, rfl, q _ (I5.hok.fresh (Nat.le_refl _))⟩
    exact ⟨by rw [List.length_reverse]; exact hz, _, 0, r.reverse, Heap.get?_push_size _ rfl⟩
  · obtain ⟨its, r, ht, hz⟩ := I5.tuple hx
    have hlen := r.length
    refine tail_any (ops := [.ref a, .ref s4.heap.objs.size]) ht.typeIs (PyProof.Rows.slot_tuple_getitem.lookup) ?_ (by with_unfolding_all rfl)
    refine HT.getItem_tuple_back ht (Heap.IsSliceOf.new _ vl vu vs) pl pu ps ?_ (by rw [List.size_toArray]; omega)
    refine ⟨.ref _, _, I5.laid (t' := s4.toks) (o := .tup xs.reverse) (fun b ob q => Heap.get?_push_of_some _ q) (Nat.le_refl _) ?_, rfl, q _ (I5.hok.fresh (Nat.le_refl _))⟩
    exact ⟨by rw [List.length_reverse]; exact hz, _, r.reverse, IsTup.new _ _⟩
end PV

set_option Elab.async false
set_option linter.all false
set_option maxRecDepth 100000
set_option maxHeartbeats 1000000
/-! PvS: the rules of the text: subscripts, slices, fields, calls, objects, blocks. -/
namespace PV
open PySem L2
section
variable {X : Cx} {M : Nm} {H0 : Hp} {W : WX} {T : Tb} {a b c e : Expr} {es rest : List Expr} {ca cb cc ce : CE} {cs : CEs} {pos p p2 p3 : Pos} {o o' : Op}
theorem k_sub (k : Ok X M) (ha : PE X a (tE M H0 W T ca)) (hb : PE X b (tE M H0 W T cb)) (hs : PlainIx b := by intro _ _; rfl) : PE X (.Subscript a b pos) (tE M H0 W T (.op .idx (.cons ca (.cons cb .nil)))) :=
  PE.imp (pe_ix (r_idx k.hk k.u1) ha hb hs) fun _ _ _ h => i_op2 h
/-! ### slices -/
/-- a bound's reading -/
structure PB (M : Nm) (H0 : Hp) (W : WX) (T : Tb) (c : CE) (t : TO) : Prop where
  go : ∀ F H σ ρ Q, Rel M H0 F H σ ρ → Post M H0 W F H σ ρ (fun _ _ _ (x : Option Int) y => x = y) (if absent c then .ok none ρ else (ev T c ρ).bind partOf) Q → t σ H Q
theorem pb_none : PB M H0 W T (.cst .non) tNoPart := ⟨fun F H σ ρ Q R p => p none F H R (Stp.refl _ _ _) (ES.refl _) rfl⟩
theorem pb_some (h : absent ce = false) : PB M H0 W T ce (tPart (tE M H0 W T ce)) := ⟨fun F H σ ρ Q R p => by
  rw [h, if_neg (by decide)] at p
  refine ⟨F, ρ, R, Post.bind p fun v ρ1 x F1 H1 R1 S1 E1 V1 p1 => ?_⟩
  cases v with
  | f d =>
    cases d with
    | int i =>
      have e : x = .int i := V1.1
      exact ⟨i, e, p1 (some i) F1 H1 R1 S1 E1 rfl⟩
    | _ => exact p1.elim
  | _ => exact p1.elim⟩
theorem i_sl {lo hi : CE} {tl th : TO} (hl : PB M H0 W T lo tl) (hh : PB M H0 W T hi th) {σ : L2.St} {H : Hp} {Q : VK} (h : tE M H0 W T (.sli ce lo hi) σ H Q) : tSl (rSl M) (tE M H0 W T ce) tl th σ H Q := by
  obtain ⟨F, ρ, R, p⟩ := h
  simp only [ev] at p
  refine ⟨F, ρ, R, Post.bind p fun v ρ1 x F1 H1 R1 S1 E1 V1 p1 => ?_⟩
  refine hl.go F1 H1 σ ρ1 _ R1 ?_
  refine Post.bind (Post.shift (VR' := VR1 M H σ) p1 S1 E1 fun _ _ _ _ _ _ _ z => z) fun l ρ2 l' F2 H2 R2 S2 E2 V2 p2 => ?_
  subst V2
  refine hh.go F2 H2 σ ρ2 _ R2 ?_
  refine Post.bind (Post.shift (VR' := VR1 M H σ) p2 S2 E2 fun _ _ _ _ _ _ _ z => z) fun u ρ3 u' F3 H3 R3 S3 E3 V3 p3 => ?_
  subst V3
  have vx := (V1.1.step S2 E2).step S3 E3
  cases q : rd ρ3 v with
  | none => rw [q] at p3; exact p3.elim
  | some d =>
    rw [q] at p3
    simp only [Option.bind] at p3
    cases g : sliD l u d with
    | none => rw [g] at p3; exact p3.elim
    | some r =>
      rw [g] at p3
      refine ⟨F3, d, r, R3.sub, VOk.rt R3 vx q, ?_, fun w F4 H4 z => ?_⟩
      · exact g
      · obtain ⟨R4, S4, v4, n4⟩ := OpPost.rel R3 z
        exact p3 w F4 H4 R4 (S3.trans S4) E3 ⟨v4, VNew.back (S1.trans (S2.trans S3)) n4⟩
theorem k_sl (k : Ok X M) {lo hi : Option Expr} {cl ch : CE} {tl th : TO} (he : PE X e (tE M H0 W T ce)) (pl : PB M H0 W T cl tl) (ph : PB M H0 W T ch th) (hl : PO X lo tl) (hh : PO X hi th) : PE X (.Subscript e (.Slice lo hi none p2) pos) (tE M H0 W T (.sli ce cl ch)) :=
  PE.imp (pe_slice (r_sl k.hk) he hl hh) fun _ _ _ h => i_sl pl ph h
theorem k_rev (k : Ok X M) {j : Nat} {q1 q2 q3 : Pos} (he : PE X e (tE M H0 W T ce)) : PE X (.Subscript e (.Slice none none (some (.UnaryOp .USub (.Constant (.int 1) j q1) q2)) q3) pos) (tE M H0 W T (.op .rev (.cons ce .nil))) := by
  refine PE.imp (pe_revB he) fun σ H Q h => ?_
  refine tE_mono (i_op1 h) fun v H' ⟨F, d, r, le, h1, h3, h4⟩ => ?_
  cases d with
  | lst xs =>
    cases h3
    obtain ⟨l, vs, rfl, g1, g2⟩ := h1.lst le
    exact ⟨l, vs, rfl, .inl ⟨k.hk ▸ g1, fun q hq => q_n h4 hq g2.reverse⟩⟩
  | tup xs =>
    cases h3
    obtain ⟨l, vs, rfl, g1, g2⟩ := h1.tup le
    exact ⟨l, vs, rfl, .inr ⟨.inl (.inl g1), fun p hp => q_t le h4 hp g2.reverse⟩⟩
  | _ => cases h3
/-- "..".join(texts) -/
theorem k_join (k : Ok X M) {z : Str} {j : Nat} {q1 apos : Pos} (he : PE X e (tE M H0 W T ce)) (hs : starEach [e] X.env = [(false, eval e X.env)] := by rfl) (hbase : attributeBase (.Constant (.str z) j q1) "join" X.env (eval (.Constant (.str z) j q1) X.env) = eval (.Constant (.str z) j q1) X.env := by rfl) (hline : (apos.endLine == pos.line) = true := by rfl) :
    PE X (.Call (.Attribute (.Constant (.str z) j q1) "join" apos) [e] [] pos) (tE M H0 W T (.op (.join z) (.cons ce .nil))) := by
  refine PE.imp (pe_join pe_str he hs hbase hline) fun σ H Q h => ?_
  refine ⟨⟨z, rfl⟩, ?_⟩
  refine tE_mono (i_op1 h) fun v H' ⟨F, d, r, le, h1, h3, h4⟩ => ?_
  have go : ∀ {xs : List D} {vs : List V} {r : Val}, Reps M F xs vs → ((strsOf xs).bind fun ys => if (ys.map (·.length)).sum + ys.length * z.length ≤ LIM then fD (.str (Str.join z ys)) else none) = some r → ∃ ys : List Str, vs = ys.map V.str ∧ (ys.map (·.length)).sum + ys.length * z.length ≤ LIM ∧ r = .f (.str (Txt.join z ys)) := by
    intro xs vs r rx e
    obtain ⟨ys, e1, e2⟩ := Option.bind_eq_some_iff.1 e
    by_cases w : (ys.map (·.length)).sum + ys.length * z.length ≤ LIM
    · rw [if_pos w] at e2
      cases e2
      exact ⟨ys, rx.strs e1, w, by rw [TL.join_eq]⟩
    · rw [if_neg w] at e2
      cases e2
  cases d with
  | lst xs =>
    obtain ⟨l, vs, rfl, g1, g2⟩ := h1.lst le
    obtain ⟨ys, rfl, w, rfl⟩ := go g2 h3
    exact ⟨z, l, ys, rfl, rfl, .inl (k.hk ▸ g1), Nat.le_trans w (by decide), q_f h4 rfl⟩
  | tup xs =>
    obtain ⟨l, vs, rfl, g1, g2⟩ := h1.tup le
    obtain ⟨ys, rfl, w, rfl⟩ := go g2 h3
    exact ⟨z, l, ys, rfl, rfl, .inr (.inl (.inl g1)), Nat.le_trans w (by decide), q_f h4 rfl⟩
  | _ => cases h3
/-! ### fields -/
theorem k_fld (k : Ok X M) (kt : Kt M T) {f : Str} {n : Nat} (he : PE X e (tE M H0 W T ce)) (hf : M.an n = f := by rfl) (hb : attributeBase e f X.env (eval e X.env) = eval e X.env := by rfl) : PE X (.Attribute e f pos) (tE M H0 W T (.fld n ce)) := by
  subst hf
  refine PE.imp (pe_fld he hb) fun σ H Q h => ?_
  rw [k.hk]; exact i_fld kt h
/-! ### isinstance -/
theorem isi_go {g : D → R1} {t2 : TE} {w : V} (ht : ∀ σ H Q, Q w H → t2 σ H Q) {Q : VK} {σ : L2.St} {H : Hp} (hg : ∀ d, opD o [d] = g d) (h : tE M H0 W T (.op o (.cons ce .nil)) σ H Q) :
    tCB (fun xs H Q => ∃ x, xs = [x, w] ∧ rO1 M g x H Q) (tCons (tE M H0 W T ce) (tCons t2 tNil)) σ H Q := by
  refine tE_mono (i_op1 h) fun v H' z => ht _ _ _ ⟨v, rfl, ?_⟩
  rwa [show (fun d => opD o [d]) = g from funext hg] at z
theorem k_isi {Tn : String} {x : Str} {pr : D → Bool} (hp : ∀ d n, tyN d = some n → kitB n Tn = some (pr d)) (ho : ∀ d, opD o [d] = oTy pr d) (hm : X.mg "isinstance" = none) (hmT : X.mg x = none) (hvT : bootBuiltins x = some (.type Tn)) (he : PE X e (tE M H0 W T ce))
    (hg : Gl X "isinstance" := by rfl) (hgT : Gl X x := by rfl) (hn : x ≠ "__name__" := by decide) (hdb : (x == ("__debug__" : Str)) = false := by decide)
    (hs1 : starEach [e, .Name x p2] X.env = (false, eval e X.env) :: starEach [.Name x p2] X.env := by rfl) (hpl : (backTo pos (starEach [.Name x p2] X.env)).any (·.1) = false := by rfl) :
    PE X (.Call (.Name "isinstance" p) [e, .Name x p2] [] pos) (tE M H0 W T (.op o (.cons ce .nil))) :=
  PE.imp (pe_callB (c_isi (M := M) hp) hg hm (by rfl) (pa_cons he (pa_cons (pe_bltn (v := .ty Tn) hgT hmT hvT rfl hn hdb) pa_nil) hs1) (by decide) (by decide) hs1 hpl) fun σ H Q h => isi_go (fun _ _ _ q => q) ho h
end
end PV

set_option Elab.async false
set_option linter.all false
set_option maxRecDepth 100000
set_option maxHeartbeats 1000000
/-! PvSG: calls of the text's defs where no repr is under way: what a def keeps, and who calls it. No exception leaves. -/
namespace PV
open PySem L2
/-- a def's promise sp, wherever no repr is under way -/
def Runs (P : Program) (w : World) (K : PySem.W.Frag) (mg : Str → Option Value) (base : Heap) (k : Nat) (f : Addr) (sp : Sp) : Prop :=
  ∀ (A : Around) (outer : List PySem.Env) (s : Shared) (H : Hp) (us : List Value) (vs : List V) (Q : VK), Room k A → Clr A base → Env0 P w K mg base A outer s H → Vals vs us → sp vs H Q L2.E0 →
    codeAny (model P w) A (.call (.ref f) ⟨us, []⟩) (CR L2.CX0 outer P w H s Q L2.E0) s
section
variable {P : Program} {w : World} {K : PySem.W.Frag} {mg : Str → Option Value} {base : Heap} {j k : Nat} {f : Addr} {sp sp' : Sp}
theorem Runs.mono (F : Runs P w K mg base j f sp) (l : j ≤ k) : Runs P w K mg base k f sp := fun A outer s H us vs Q room => F A outer s H us vs Q (room.mono l)
theorem Runs.imp (F : Runs P w K mg base k f sp) (z : ∀ vs H Q, sp' vs H Q L2.E0 → sp vs H Q L2.E0) : Runs P w K mg base k f sp' := fun A outer s H us vs Q room grd e0 r p => F A outer s H us vs Q room grd e0 r (z vs H Q p)
/-- a call that ends -/
theorem cr_ret {outer : List PySem.Env} {H : Hp} {s : Shared} {Q : VK} {r : Result} {s2 : Shared} (z : CR L2.CX0 outer P w H s Q L2.E0 r s2) : ∃ u, r = .ok (.ret u) ∧ L2.CE outer P w H s Q u s2 := by
  match r, z with
  | .ok (.ret u), z => exact ⟨u, rfl, z⟩
  | .ok .next, z => exact (show False from z).elim
  | .ok .brk, z => exact (show False from z).elim
  | .ok .cont, z => exact (show False from z).elim
  | .error e, z => exact (show False from z).elim
end
section
variable {X : Cx} {k : Nat} {f : Addr} {sp : Sp} {pins : List (Addr × Obj)} {σ : L2.St} {H : Hp} {s : Shared} {Q : VK} {us : List Value} {vs : List V}
theorem go_fn (F : Runs X.prog X.w X.K X.mg X.base k f sp) (room : Room k X.A) (grd : Clr X.A X.base) (I : Inv X pins σ H s) (r : Vals vs us) (p : sp vs H Q L2.E0) :
    wpAny (model X.prog X.w) X.A (call (.ref f) us) (EP X pins σ Q) X.xe s := by
  refine wpAny_call (codeAny_mono (F X.A X.stack s H us vs Q room grd I.env0 r p) fun res s2 z => ?_)
  obtain ⟨u, rfl, z⟩ := cr_ret z
  exact I.after z
/-- C(..) -/
theorem go_new {C : Addr} (mk : Mk X.K C f) (F : Runs X.prog X.w X.K X.mg X.base k f sp) (room : Room (k + 1) X.A) (grd : Clr X.A X.base) (I : Inv X pins σ H s) (r : Vals vs us)
    (p : ∀ x dx, H x = none → H dx = none → dx ≠ x → sp (.ref x :: vs) (upd (upd H dx (.own x)) x (.ins C dx [])) (fun v H2 => v = .non ∧ Q (.ref x) H2) L2.E0) :
    wpAny (model X.prog X.w) X.A (call (.ref C) us) (EP X pins σ Q) X.xe s := by
  obtain ⟨n, en⟩ : ∃ n, n = s.heap.objs.size := ⟨_, rfl⟩
  have J := Inv.made (C := C) I
  rw [← en] at J
  have p1 := p (n + 1) n (I.hok.fresh (a := n + 1) (by omega)) (I.hok.fresh (a := n) (by omega)) (Nat.ne_of_lt (Nat.lt_succ_self n))
  have grd2 : Clr (X.A.under (.builtin "type.__call__" ⟨.ref C :: us, []⟩)) X.base := by
    refine ⟨?_, grd.sm⟩
    have g := grd.gd
    first
      | exact g
      | (simp only [Around.under]; simpa [Code.guards, Code.isGuard, guardIds, pushGuards] using g)
  refine wpAny_call (make_map (f := f) I.kIn mk.makes mk.init (beq_iff_eq.mp mk.fn) ?_)
  rw [← en]
  refine codeAny_mono (F _ X.stack _ _ (.ref (n + 1) :: us) (.ref (n + 1) :: vs) _ (room.make C us []) grd2 (J.env0.make C us []) (.cons rfl r) p1) fun res s2 z => ?_
  obtain ⟨u, rfl, z⟩ := cr_ret z
  obtain ⟨v, H2, J2, rv, ev, q⟩ := J.after z
  subst ev
  exact ⟨rv, .ref (n + 1), H2, J2, rfl, q⟩
/-- a property read -/
theorem go_prop {C p a dx : Addr} {fs : List (Str × V)} {x : Str} {b : Bool} {E : Value → Shared → Prop} (I : Inv X pins σ H s) (ea : H a = some (.ins C dx fs)) (c : Cls X.K C) (hp : PropOf X.K C x p f)
    (F : Runs X.prog X.w X.K X.mg X.base k f sp) (room : Room (k + 1) X.A) (grd : Clr X.A X.base) (q : sp [.ref a] H Q L2.E0) : wpAny (model X.prog X.w) X.A (getAttr (.ref a) x b) (EP X pins σ Q) E s := by
  obtain ⟨mA, O, -⟩ := ins_get I.hok ea
  obtain ⟨od, J, -⟩ := O.look
  obtain ⟨rest, rc⟩ := hp.rec_
  have It := I.tok (s.toks + 1)
  have cls : (PySem.W.clsIn X.K C).isSome = true := by
    obtain ⟨cd, e, -⟩ := PySem.W.any_some c.hd
    simp [e]
  refine PySem.W.get_bind I.kIn J (PySem.W.plainGet_of (c.get x)).1 (PySem.W.findObj_data cls hp.at_ hp.get hp.tak) (PySem.W.plainGet_of (c.get x)).2 ?_
  refine wpAny_call (PySem.W.prop_get (s := { s with toks := s.toks + 1 }) I.kIn rc ?_)
  refine codeAny_mono (F X.A.in1 X.stack { s with toks := s.toks + 1 } H [.ref a] [.ref a] Q room.in1 ⟨grd.gd, grd.sm⟩ It.env0.in1 (.cons rfl .nil) q) fun res s2 z => ?_
  obtain ⟨u, rfl, z⟩ := cr_ret z
  obtain ⟨v, H2, J2, rv, q2⟩ := It.after z
  show wpAny (model X.prog X.w) X.A (handedOut u) _ _ s2
  rw [PySem.W.handedOut_of (handed_of rv)]
  exact wpAny_pure ⟨v, H2, J2, rv, q2⟩
end
section
variable {X : Cx} {k : Nat} {f C : Addr} {sp : Sp} {x m : Str} {e o : Expr} {es : List Expr} {ta : TE} {t : TA} {p pos apos : Pos}
theorem pg_call (F : Runs X.prog X.w X.K X.mg X.base k f sp) (room : Room k X.A) (grd : Clr X.A X.base) (gl : Gl X x) (here : X.mg x = some (.ref f)) (kp : PySem.W.keepIn X.K (.ref f) = true) (ha : PA X (e :: es) t) (hdb : (x == ("__debug__" : Str)) = false := by decide)
    (he : starEach (e :: es) X.env = (false, eval e X.env) :: starEach es X.env := by rfl) (hpl : (backTo pos (starEach es X.env)).any (·.1) = false := by rfl) : PE X (.Call (.Name x p) (e :: es) [] pos) (tCall sp [] L2.E0 t) := by
  constructor
  intro pins s σ H Q I q
  refine wpAny_Call_Name_kw (ld_glob I gl here ?_ hdb)
  refine PySem.W.callWith_K (h₀ := X.base) I.ok.mod.kin kp (thn (ha.run pos pins s σ H _ I q) fun us s1 z => ?_) he hpl
  obtain ⟨vs, H1, J, r, z⟩ := z
  rw [List.append_nil] at z
  exact ⟨J.kIn, go_fn F room grd J r z⟩
theorem pg_make (mk : Mk X.K C f) (F : Runs X.prog X.w X.K X.mg X.base k f sp) (room : Room (k + 1) X.A) (grd : Clr X.A X.base) (gl : Gl X x) (here : X.mg x = some (.ref C)) (ha : PA X (e :: es) t) (hdb : (x == ("__debug__" : Str)) = false := by decide)
    (he : starEach (e :: es) X.env = (false, eval e X.env) :: starEach es X.env := by rfl) (hpl : (backTo pos (starEach es X.env)).any (·.1) = false := by rfl) : PE X (.Call (.Name x p) (e :: es) [] pos) (tMake C sp [] L2.E0 t) := by
  constructor
  intro pins s σ H Q I q
  refine wpAny_Call_Name_kw (ld_glob I gl here ?_ hdb)
  refine PySem.W.callWith_K (h₀ := X.base) I.ok.mod.kin mk.kp (thn (ha.run pos pins s σ H _ I q) fun us s1 z => ?_) he hpl
  obtain ⟨vs, H1, J, r, z⟩ := z
  refine ⟨J.kIn, go_new mk F room grd J r fun y dy h1 h2 h3 => ?_⟩
  have z := z y dy h1 h2 h3
  rwa [List.append_nil] at z
theorem pg_prop {g : Addr} (he : PE X e ta) (c : Cls X.K C) (hp : PropOf X.K C x g f) (F : Runs X.prog X.w X.K X.mg X.base k f sp) (room : Room (k + 1) X.A) (grd : Clr X.A X.base)
    (hab : attributeBase e x X.env (eval e X.env) = eval e X.env) : PE X (.Attribute e x pos) (tProp C sp [] L2.E0 ta) := by
  constructor
  intro pins s σ H Q I q
  refine attr_of hab (thn (he.run pins s σ H _ I q) fun u s1 z => ?_)
  obtain ⟨y, H1, J, ry, a, dx, fs, rfl, ea, z⟩ := z
  cases ry
  exact go_prop J ea c hp F room grd z
theorem pg_meth {pl : Sem Bool} (he : PE X o ta) (c : Cls X.K C) (hm : Meth X.K C m f) (F : Runs X.prog X.w X.K X.mg X.base k f sp) (room : Room k X.A) (grd : Clr X.A X.base) (ha : PA X (e :: es) t)
    (hst : starEach (e :: es) X.env = (false, eval e X.env) :: starEach es X.env := by rfl) (hpl : (backTo pos (starEach es X.env)).any (·.1) = false := by rfl)
    (ht : eval (.Call (.Attribute o m apos) (e :: es) [] pos) X.env = (do
      let ov ← eval o X.env
      standAt apos.atName
      let (f, first) ← holding [ov] (getMethod ov m pl)
      callWith pos f first (backTo pos (starEach (e :: es) X.env)) (backToKw pos (keywordEach [] X.env))) := by rfl) :
    PE X (.Call (.Attribute o m apos) (e :: es) [] pos) (tMeth C m sp [] L2.E0 ta t) := by
  constructor
  intro pins s σ H Q I q
  refine PySem.W.methodCall_KW (pl := pl) (thn (he.run pins s σ H _ I q) fun u s1 z => ?_) ht
  obtain ⟨y, H1, J, ry, a, dx, fs, rfl, ea, l, z⟩ := z
  cases ry
  refine getmeth_ok J ea c hm l ?_
  refine PySem.W.callWith_K (first := [.ref a]) (h₀ := X.base) I.ok.mod.kin hm.kp (thn (ha.run pos pins s1 σ H1 _ J z) fun us s2 z2 => ?_) hst hpl
  obtain ⟨vs, H2, J2, r, z2⟩ := z2
  rw [List.append_nil] at z2
  exact ⟨J2.kIn, go_fn (us := .ref a :: us) (vs := .ref a :: vs) F room grd J2 (.cons rfl r) z2⟩
theorem pg_meth0 {pl : Sem Bool} (he : PE X o ta) (c : Cls X.K C) (hm : Meth X.K C m f) (F : Runs X.prog X.w X.K X.mg X.base k f sp) (room : Room k X.A) (grd : Clr X.A X.base)
    (ht : eval (.Call (.Attribute o m apos) [] [] pos) X.env = (do
      let ov ← eval o X.env
      standAt apos.atName
      let (f, first) ← holding [ov] (getMethod ov m pl)
      callWith pos f first (backTo pos (starEach [] X.env)) (backToKw pos (keywordEach [] X.env))) := by rfl) :
    PE X (.Call (.Attribute o m apos) [] [] pos) (tMeth C m sp [] L2.E0 ta tNil) := by
  constructor
  intro pins s σ H Q I q
  refine PySem.W.methodCall_KW (pl := pl) (thn (he.run pins s σ H _ I q) fun u s1 z => ?_) ht
  obtain ⟨y, H1, J, ry, a, dx, fs, rfl, ea, l, z⟩ := z
  cases ry
  refine getmeth_ok J ea c hm l ?_
  exact PySem.W.callWith_K0 (first := [.ref a]) J.kIn hm.kp (go_fn (us := [.ref a]) (vs := [.ref a]) F room grd J (.cons rfl .nil) z)
end
/-! ### a def by its body -/
section
open PySem.Spec PyProof.Rows
variable {P : Program} {w : World} {K : PySem.W.Frag} {mg : Str → Option Value} {base : Heap} {x qual : Str} {st : Stmt} {f : Addr} {fd : FuncData} {N ps : List Str} {k : Nat} {sp : Sp}
theorem runs_of (F : L2.Fun K x qual st f fd) (S : FnScope N ps (defScope st)) (hb : Binds K fd ps []) (len : ∀ vs H Q, sp vs H Q L2.E0 → vs.length = ps.length)
    (der : ∀ (cdv : Value) (A : Around) (outer : List PySem.Env) (s : Shared) (H : Hp) (vs : List V) (Q : VK), Clr A base → Room k (A.deeper (envOfC qual (defScope st) s.heap.objs.size f cdv)) → sp vs H Q L2.E0 →
      ∃ t, PSs (cxOf L2.CX0 P w K mg base N qual (defScope st) f cdv A outer s H L2.E0).nox (defBody st) t ∧ t { nx := fun _ H' => Q .non H', rt := Q } (start N vs) H) : Runs P w K mg base (k + 1) f sp := by
  obtain ⟨oc, od, kV, doc, pm, an, cdv, ct, osl, rfl, lk, code⟩ := F.ex
  intro A outer s H us vs Q room grd env0 r p
  have old : ∀ b ob, base.get? b = some ob → s.heap.get? b = some ob := fun b ob z => (env0.bs b ob z).1
  have inK : K.In s.heap := env0.mod.kin.keeps old
  have free : s.heap.NoLimit := env0.mod.nolimit.keeps old
  have vl := len vs H Q p
  have bound := hb s us inK (by rw [List.append_nil, ← r.length]; exact vl)
  rw [List.append_nil] at bound
  have kinds : ∀ y ∈ ps.zip us, (defScope st).names.lookup y.1 = some .local ∨ ((defScope st).names.lookup y.1 = some .cell ∧ ((cellsFrom (s.heap.objs.size + 1) (defScope st).names []).lookup y.1).isSome = true) := by
    rintro ⟨n, u⟩ hy
    refine (S.par n (List.of_mem_zip hy).1).imp id fun q => ?_
    exact ⟨q, PySem.W.cellsFrom_some _ _ _ (.inl q)⟩
  refine codeAny_call_function room.depth (inK _ _ lk) rfl S.co S.gen rfl (PySem.W.codeRec_of inK code) (bound _ _ _ _ ?_)
  refine wpAny_newFunctionEnv_cells S.kind kinds fun env he s1 new => ?_
  subst he
  refine ⟨free.keeps new.toInCall.keep, codeAny_func ?_⟩
  obtain ⟨t, body, q⟩ := der cdv A outer s H vs Q grd (room.deeper _) p
  have I := inv_start (CX := L2.CX0) (E := L2.E0) S room.hd env0 vl r new
  refine wpAny_mono (body.nox.run [] s1 (start N vs) H _ I q) (fun fl s2 z => ?_) fun er s2 z => z
  match fl, z with
  | .ret u, z =>
    obtain ⟨v, σ2, H2, J, rv, q2⟩ := z
    exact ⟨v, H2, J.os, J.bare, J.base, J.hok, rv, q2⟩
  | .next, z =>
    obtain ⟨σ2, H2, J, q2⟩ := z
    exact ⟨.non, H2, J.os, J.bare, J.base, J.hok, rfl, q2⟩
  | .brk, z =>
    obtain ⟨σ2, H2, J, q2⟩ := z
    exact (show False from q2).elim
  | .cont, z =>
    obtain ⟨σ2, H2, J, q2⟩ := z
    exact (show False from q2).elim
end
end PV

set_option Elab.async false
set_option linter.all false
set_option maxRecDepth 100000
set_option maxHeartbeats 1000000
/-! PvSR: repr, str. -/
namespace PV
open PySem L2
section
variable {P : Program} {w : World} {M : Nm} {F H : Hp} {h : Heap}
theorem rd_there {a : Addr} {u : HO} (r : Rd H a u) : H a ≠ none := by
  rcases r with r | ⟨o, r⟩ <;> (rw [r]; exact fun z => nomatch z)
theorem reads_key {k : Key} {u : Value} (e : keyIs k u = true) : Reads h u (PV.keyP k) [] := by
  rcases keyIs_shape e with ⟨i, t, rfl, rfl⟩ | ⟨x, t, rfl, rfl⟩
  · exact .int i t
  · exact .str x t
mutual
theorem reads_of (ok : HOk P w H h) (le : Le F H) : ∀ (d : D) (v : V) (u : Value) (p : PyData), pyD d = some p → Rep M F d v → RelV v u → ∃ as, Reads h u p as ∧ ∀ a ∈ as, H a ≠ none
  | .non, v, u, p, e, r, q => by
    cases e
    cases (show v = .non from r)
    cases (show u = Value.none from q)
    exact ⟨[], .none, fun a z => nomatch z⟩
  | .bl b, v, u, p, e, r, q => by
    cases e
    cases (show v = .bl b from r)
    cases (show u = Value.bool b from q)
    exact ⟨[], .bool b, fun a z => nomatch z⟩
  | .int i, v, u, p, e, r, q => by
    cases e
    cases (show v = .int i from r)
    obtain ⟨t, rfl⟩ := q
    exact ⟨[], .int i t, fun a z => nomatch z⟩
  | .str x, v, u, p, e, r, q => by
    cases e
    cases (show v = .str x from r)
    obtain ⟨t, rfl⟩ := q
    exact ⟨[], .str x t, fun a z => nomatch z⟩
  | .lst ds, v, u, p, e, r, q => by
    obtain ⟨ps, e1, rfl⟩ := Option.map_eq_some_iff.mp e
    obtain ⟨a, vs, rfl, g, rs⟩ := r
    cases (show u = Value.ref a from q)
    obtain ⟨-, its, n, rv, eo⟩ := (le.l a vs g).ok ok
    obtain ⟨as, ra, na⟩ := readsAll_of ok le ds vs its ps e1 rs rv
    exact ⟨a :: as, .list eo rfl rfl ra, fun b hb => (List.mem_cons.mp hb).elim (fun z => z ▸ rd_there (le.l a vs g)) (na b)⟩
  | .tup ds, v, u, p, e, r, q => by
    obtain ⟨ps, e1, rfl⟩ := Option.map_eq_some_iff.mp e
    obtain ⟨a, vs, rfl, g, rs⟩ := r
    cases (show u = Value.ref a from q)
    obtain ⟨-, its, rv, o, eo, c, n, dt⟩ := ok a _ (le.t a vs g)
    obtain ⟨as, ra, na⟩ := readsAll_of ok le ds vs its ps e1 rs rv
    exact ⟨as, .tuple eo c dt ra, na⟩
  | .dct kvs, v, u, p, e, r, q => by
    obtain ⟨ps, e1, rfl⟩ := Option.map_eq_some_iff.mp e
    obtain ⟨a, ws, rfl, g, rs⟩ := r
    cases (show u = Value.ref a from q)
    obtain ⟨-, -, us, kv, o, es, ep, eo, ex, dt, ke, pr, nd⟩ := (le.k a ws g).ok ok
    obtain ⟨as, ra, na, rk⟩ := readsKv_of ok le kvs ws us es.toList ps e1 rs kv pr
    exact ⟨a :: [] ++ as, .dict eo ex.1 dt rk ra, fun b hb => (List.mem_cons.mp hb).elim (fun z => z ▸ rd_there (le.k a ws g)) fun hb => na b (by simpa using hb)⟩
  | .dcT _, _, _, _, e, _, _ => nomatch e
  | .obj _ _, _, _, _, e, _, _ => nomatch e
theorem readsAll_of (ok : HOk P w H h) (le : Le F H) : ∀ (ds : List D) (vs : List V) (us : List Value) (ps : List PyData), pyDs ds = some ps → Reps M F ds vs → Vals vs us → ∃ as, ReadsAll h us ps as ∧ ∀ a ∈ as, H a ≠ none
  | [], vs, us, ps, e, r, q => by
    cases e
    cases (show vs = [] from r)
    cases q
    exact ⟨[], .nil, fun a z => nomatch z⟩
  | d :: ds, vs, us, ps, e, r, q => by
    obtain ⟨p, e1, e2⟩ := Option.bind_eq_some_iff.mp e
    obtain ⟨ps', e3, rfl⟩ := Option.map_eq_some_iff.mp e2
    obtain ⟨v, ws, rfl, r1, r2⟩ := r
    cases q with
    | cons q1 q2 =>
      obtain ⟨as, ra, na⟩ := reads_of ok le d v _ p e1 r1 q1
      obtain ⟨bs, rb, nb⟩ := readsAll_of ok le ds ws _ ps' e3 r2 q2
      exact ⟨as ++ bs, .cons ra rb, fun b hb => (List.mem_append.mp hb).elim (na b) (nb b)⟩
theorem readsKv_of (ok : HOk P w H h) (le : Le F H) : ∀ (ds : List (Key × D)) (vs : List (Key × V)) (us : List (Key × Value)) (es : List DictEntry) (ps : List (PyData × PyData)), pyKs ds = some ps → RepK M F ds vs → KV vs us → Pairs (mixKind P w) es us →
    ∃ as, ReadsAll h (es.map (·.val)) (ps.map (·.2)) as ∧ (∀ a ∈ as, H a ≠ none) ∧ ReadsAll h (es.map (·.key)) (ps.map (·.1)) []
  | [], vs, us, es, ps, e, r, q, z => by
    cases e
    cases (show vs = [] from r)
    cases q
    cases z
    exact ⟨[], ReadsAll.nil, (fun a z => nomatch z), ReadsAll.nil⟩
  | (k, d) :: ds, vs, us, es, ps, e, r, q, z => by
    obtain ⟨p, e1, e2⟩ := Option.bind_eq_some_iff.mp e
    obtain ⟨ps', e3, rfl⟩ := Option.map_eq_some_iff.mp e2
    obtain ⟨v, ws, rfl, r1, r2⟩ := r
    cases q with
    | @cons _ kw _ _ q1 q2 =>
      obtain ⟨k', u⟩ := kw
      obtain ⟨rfl, q1⟩ := q1
      cases z with
      | @cons en _ es' _ z1 z2 z3 =>
        obtain ⟨as, ra, na⟩ := reads_of ok le d v u p e1 r1 q1
        obtain ⟨bs, rb, nb, rk⟩ := readsKv_of ok le ds ws _ es' ps' e3 r2 q2 z3
        refine ⟨as ++ bs, ?_, fun b hb => (List.mem_append.mp hb).elim (na b) (nb b), ?_⟩
        · have ev : en.val = u := z2
          have rv : Reads h en.val p as := by rw [ev]; exact ra
          exact ReadsAll.cons rv rb
        · exact ReadsAll.cons (reads_key z1) rk
end
/-- read at its own place or frozen -/
theorem reads_rt (ok : HOk P w H h) (le : Le F H) {d : D} {v : V} {u : Value} {p : PyData} (e : pyD d = some p) (r : RT M F H d v) (q : RelV v u) : ∃ as, Reads h u p as ∧ ∀ a ∈ as, H a ≠ none := by
  rcases r with r | ⟨a, o, rfl, ea, rt⟩
  · exact reads_of ok le d v u p e r q
  · cases (show u = Value.ref a from q)
    cases d with
    | lst ds =>
      cases o with
      | lst vs =>
        obtain ⟨ps, e1, rfl⟩ := Option.map_eq_some_iff.mp e
        obtain ⟨-, its, n, rv, eo⟩ := ok a _ ea
        obtain ⟨as, ra, na⟩ := readsAll_of ok le ds vs its ps e1 rt rv
        exact ⟨a :: as, .list eo rfl rfl ra, fun b hb => (List.mem_cons.mp hb).elim (fun z => by rw [z, ea]; exact fun z => nomatch z) (na b)⟩
      | _ => exact rt.elim
    | dct kvs =>
      cases o with
      | dK ws =>
        obtain ⟨ps, e1, rfl⟩ := Option.map_eq_some_iff.mp e
        obtain ⟨-, -, us, kv, o, es, ep, eo, ex, dt, ke, pr, nd⟩ := ok a _ ea
        obtain ⟨as, ra, na, rk⟩ := readsKv_of ok le kvs ws us es.toList ps e1 rt kv pr
        exact ⟨a :: [] ++ as, .dict eo ex.1 dt rk ra, fun b hb => (List.mem_cons.mp hb).elim (fun z => by rw [z, ea]; exact fun z => nomatch z) fun hb => na b (by simpa using hb)⟩
      | _ => exact rt.elim
    | obj C fs => cases e
    | exn C fs => cases e
    | dcT kvs => cases e
    | _ => cases o <;> exact rt.elim
end
section
variable {prog : Program} {w : World} {A : Around} {E : Value → Shared → Prop} {s : Shared} {Q : Value → Shared → Prop}
theorem repr_any {u : Value} {p : PyData} {as : List Addr} (R : Reads s.heap u p as) (hs : p.showable = true) (hz : p.shown.length ≤ sizeLine) (hd : p.depth ≤ 60) (ns : sysModules ∉ as) (hg : A.guards = some []) (hu : A.units + 64 < cLine)
    (hQ : ∀ h' u tk, (∀ b o, s.heap.get? b = some o → h'.get? b = some o) → Q (.str p.shown u) { s with heap := h', toks := tk }) : wpAny (model prog w) A (call (.builtin "repr") [u]) Q E s := by
  cases R with
  | none => exact PySem.P.repr_of_none (hQ s.heap s.toks (s.toks + 1) fun _ _ e => e)
  | bool b =>
    refine PySem.P.repr_of_bool ?_
    exact hQ s.heap s.toks (s.toks + 1) fun _ _ e => e
  | int i t =>
    refine PySem.P.repr_of_int (by simpa [PyData.showable] using hs) ?_
    exact hQ s.heap s.toks (s.toks + 1) fun _ _ e => e
  | str x t =>
    refine PySem.P.repr_of_str ?_ hz
    exact hQ s.heap s.toks (s.toks + 1) fun _ _ e => e
  | list h1 h2 h3 h4 => exact repr_of_reads' (.list h1 h2 h3 h4) hs (fun _ => ns) hg (by omega) (fun _ _ e => e) hQ hz
  | tuple h1 h2 h3 h4 => exact repr_of_reads' (.tuple h1 h2 h3 h4) hs (fun _ => ns) hg (by omega) (fun _ _ e => e) hQ hz
  | dict h1 h2 h3 h4 h5 => exact repr_of_reads' (.dict h1 h2 h3 h4 h5) hs (fun _ => ns) hg (by omega) (fun _ _ e => e) hQ hz
end
section
variable {X : Cx} {M : Nm}
theorem c_repr (hu : X.A.units + 64 < cLine) (clr : Clr X.A X.base) : CallR X (.builtin "repr") (rON M (opD .repr_)) := c_1 (o1 (g := oRepr) (fun _ => rfl) rfl fun _ _ _ => rfl) fun pins s σ H x u Q F d r I rx le h1 h3 h4 => by
  obtain ⟨p, e1, e2⟩ := Option.bind_eq_some_iff.mp h3
  split at e2
  · rename_i z
    obtain ⟨z1, z2, z3⟩ := z
    cases e2
    obtain ⟨as, ra, na⟩ := reads_rt I.hok le e1 h1 rx
    obtain ⟨ob, eo⟩ := clr.sm
    refine repr_any ra z1 (lim_ok z3) z2 (fun m => na _ m (I.bs _ _ eo).2) clr.gd hu fun h' u' tk keep => ?_
    exact ⟨.str p.shown, H, I.kept keep, ⟨u', rfl⟩, q_f h4 rfl⟩
  · cases e2
end
end PV

set_option Elab.async false
set_option linter.all false
set_option maxRecDepth 100000
set_option maxHeartbeats 1000000
/-! PvT: the rules of the text: calls, objects, comprehensions. No exception leaves (CX0, WN). -/
namespace PV
open PySem L2
/-- the promise without exceptions -/
def sp0 (M : Nm) (φ : List Slot → FOut) : Sp := fun vs H Q _ => spOf M φ vs H Q L2.E0
/-- a def (or method) keeps the promise φ -/
structure Keeps (P : Program) (w : World) (K : PySem.W.Frag) (mg : Str → Option Value) (base : Heap) (M : Nm) (φ : List Slot → FOut) (k : Nat) (f : Addr) : Prop where
  rs : Runs P w K mg base k f (sp0 M φ)
  kp : PySem.W.keepIn K (.ref f) = true
section
variable {X : Cx} {M : Nm} {H0 : Hp} {T : Tb} {a b c e elt tg iter : Expr} {es rest : List Expr} {ca cb cc ce : CE} {cs : CEs} {pos p p2 p3 spos py : Pos} {o o' : Op}
abbrev KX (X : Cx) (M : Nm) (φ : List Slot → FOut) (k : Nat) (f : Addr) : Prop := Keeps X.prog X.w X.K X.mg X.base M φ k f
theorem wn_e0 : ∀ (c : Value) (d : Option Addr) (σ : L2.St) (H : Hp), WN c d σ H → L2.E0 c d H := fun _ _ _ _ h => h
/-- what a walk locked may be unlocked -/
abbrev UnlW (X : Cx) (W : WX) : Prop := ∀ (cls : Value) (d : Option Addr) (σ : L2.St) (H H' : Hp), Unl X.H_0 H H' → W cls d σ H' → W cls d σ H
theorem wn_unl {HX : Hp} : ∀ (cls : Value) (d : Option Addr) (σ : L2.St) (H H' : Hp), Unl HX H H' → WN cls d σ H' → WN cls d σ H := fun _ _ _ _ _ _ h => h
theorem k_call {x : Str} {f : Addr} {fc k : Nat} {keep : List Bool} (F : KX X M (T.fn fc) k f) (hm : X.mg x = some (.ref f)) (hr : Room k X.A) (ck : Ok X M) (ha : PA X (e :: es) (tA M H0 WN T cs)) (hg : Gl X x := by rfl)
    (hdb : (x == ("__debug__" : Str)) = false := by decide) (he : starEach (e :: es) X.env = (false, eval e X.env) :: starEach es X.env := by rfl) (hpl : (backTo pos (starEach es X.env)).any (·.1) = false := by rfl) :
    PE X (.Call (.Name x p) (e :: es) [] pos) (tE M H0 WN T (.call fc keep cs)) := by
  exact PE.imp (pg_call F.rs hr ck.hg hg hm F.kp ha hdb he hpl) fun _ _ _ h => i_call wn_e0 h
theorem k_new {x : Str} {f : Addr} {C fc k : Nat} {keep : List Bool} (mk : Mk X.K (M.cl C) f) (F : KX X M (T.fn fc) k f) (hf : T.mt C mInit = some fc) (hm : X.mg x = some (.ref (M.cl C))) (hr : Room (k + 1) X.A) (ck : Ok X M) (ha : PA X (e :: es) (tA M H0 WN T cs)) (hg : Gl X x := by rfl)
    (hdb : (x == ("__debug__" : Str)) = false := by decide) (he : starEach (e :: es) X.env = (false, eval e X.env) :: starEach es X.env := by rfl) (hpl : (backTo pos (starEach es X.env)).any (·.1) = false := by rfl) :
    PE X (.Call (.Name x p) (e :: es) [] pos) (tE M H0 WN T (.new C keep cs)) := by
  exact PE.imp (pg_make mk F.rs hr ck.hg hg hm ha hdb he hpl) fun _ _ _ h => i_new wn_e0 hf h
/-- e.x, a property of the one class that has the name -/
theorem k_prop {x : Str} {pa g : Addr} {Cn m fc k : Nat} (cl : Cls X.K (M.cl Cn)) (hp : PropOf X.K (M.cl Cn) x pa g) (F : KX X M (T.fn fc) k g) (only : ∀ B f, T.mt B m = some f → B = Cn ∧ f = fc) (hr : Room (k + 1) X.A) (ck : Ok X M) (he : PE X e (tE M H0 WN T ce))
    (hab : attributeBase e x X.env (eval e X.env) = eval e X.env := by rfl) : PE X (.Attribute e x pos) (tE M H0 WN T (.prp m ce)) := by
  refine PE.imp (pg_prop he cl hp F.rs hr ck.hg hab) fun σ H Q h => ?_
  refine tE_mono (i_prp h) fun v H' ⟨B, f, a, dx, fs, g1, g2, g3, g4⟩ => ?_
  obtain ⟨rfl, rfl⟩ := only B f g1
  exact ⟨a, dx, fs, g2, g3, g4⟩
/-! ### comprehensions -/
theorem Ok.blk (k : Ok X M) {s : Shared} {H : Hp} {scope : Scope} {env : PySem.Env} {fp : List Addr} : Ok (X.blk s H scope env fp) M := ⟨⟨k.hg.gd, k.hg.sm⟩, k.hk, k.hc, k.hu, k.hN⟩
theorem kt_nil : PTs X [] (tT M H0 WN T (.cst (.bl true))) := ⟨fun pins s σ H Q I h => (pts_nil (X := X)).run pins s σ H Q I (by
  obtain ⟨F, ρ, R, p⟩ := h
  exact p true F H R (Stp.refl _ _ _) (ES.refl _) rfl)⟩
theorem kt_one (h : PT X c (tT M H0 WN T cc)) : PTs X [c] (tT M H0 WN T cc) := pts_one h
theorem k_lc {W : WX} (k : Ok X M) {ifs : List Expr} {scope : Scope} {own : List (Str × Nat)} {t : CT} {it : CI} (hi : PI X tg iter (tI M H0 W T X.H_0 it)) (ok : BlkOk X.N X.env.scope scope own) (hj : ∀ j ∈ t.slots, j ∈ own.map (·.2))
    (hg : ∀ (s : Shared) (H : Hp) (C : Addr) (cl : List (Str × Addr)) (fp : List Addr), PG (X.blk s H scope (compEnvC scope cl C X.env) fp) tg (tG M H0 t)) (ht : ∀ (s : Shared) (H : Hp) (C : Addr) (cl : List (Str × Addr)) (fp : List Addr), PTs (X.blk s H scope (compEnvC scope cl C X.env) fp) ifs (tT M H0 WN T cc))
    (he : ∀ (s : Shared) (H : Hp) (C : Addr) (cl : List (Str × Addr)) (fp : List Addr), PE (X.blk s H scope (compEnvC scope cl C X.env) fp) elt (tE M H0 WN T ce)) (hs : ∀ x, foldedSetIterable iter X.env x = pure x := by intro _; rfl) (hU : UnlW X W := by first | exact wn_unl | assumption) :
    PE X (.ListComp elt [⟨tg, iter, ifs, 0⟩] scope pos) (tE M H0 W T (.lc ce t it cc (own.map (·.2)))) :=
  PE.imp (pe_unl (pe_lc k.hc k.hN hi ok hg ht he hs)) fun _ _ _ h => i_lc hj hU h
/-! ### targets -/
theorem g_nm (k : Ok X M) {i : Nat} {x : Str} (hi : X.N[i]? = some x) (hx : Loc X.env.scope x) (hf : X.fn x = true ∨ X.env.scope.names.lookup x = some .local) : PG X (.Name x pos) (tG M H0 (.nm i)) :=
  ⟨fun pins s σ H v u Q I r h => (pg_name k.hN hi hx hf).run pins s σ H v u Q I r (i_nm h)⟩
end
end PV

set_option Elab.async false
set_option linter.all false
set_option maxRecDepth 100000
set_option maxHeartbeats 1000000
/-! PvU: the rules of the text: statements. -/
namespace PV
open PySem L2
section
variable {X : Cx} {M : Nm} {H0 : Hp} {T : Tb} {a b c e elt tg iter : Expr} {es rest : List Expr} {ca cb cc ce : CE} {cs : CEs} {pos p p2 p3 spos py : Pos} {o o' : Op}
theorem gn_nil : PGs X [] (gNames []) := pgs_nil
theorem gn_cons (k : Ok X M) {i : Nat} {x : Str} {is : List Nat} (hi : X.N[i]? = some x) (hx : Loc X.env.scope x) (hf : X.fn x = true ∨ X.env.scope.names.lookup x = some .local) (h : PGs X es (gNames is))
    (hs : (assignEach (.Name x p :: es) X.env).map (·.2) = assign (.Name x p) X.env :: (assignEach es X.env).map (·.2) := by rfl) : PGs X (.Name x p :: es) (gNames (i :: is)) := pgs_cons (pg_name k.hN hi hx hf) h hs
theorem g_tp (k : Ok X M) {j : Nat} {is : List Nat} (h : PGs X es (gNames is)) (hn : (assignEach es X.env).length = is.length := by rfl) (hst : (assignEach es X.env).findIdx? (·.1) = none := by rfl) : PG X (.Tuple es j pos) (tG M H0 (.tp is)) :=
  ⟨fun pins s σ H v u Q I r q => (pg_seq k.hc h hn hst).run pins s σ H v u Q I r (by rw [k.hk]; exact i_tp q)⟩
theorem ss_nil {W : WX} : PSs X [] (tSs M H0 W T .nil) := PSs.imp pss_nil fun _ _ _ h => i_snil h
theorem ss_cons {W : WX} {st : Stmt} {sts : List Stmt} {c1 : CS} {c2 : CSs} (h1 : PS X st (tS M H0 W T c1)) (h2 : PSs X sts (tSs M H0 W T c2)) : PSs X (st :: sts) (tSs M H0 W T (.cons c1 c2)) := PSs.imp (pss_cons h1 h2) fun _ _ _ h => i_seq h
theorem s_asg {W : WX} (k : Ok X M) {i : Nat} {x : Str} {own : Bool} (hi : X.N[i]? = some x) (hx : Loc X.env.scope x) (he : PE X e (tE M H0 W T ce)) (hf : X.fn x = true ∨ X.env.scope.names.lookup x = some .local) (hs : swapsWith e (some (.Name x p)) pos.line X.env = pure false := by rfl) :
    PS X (.Assign [.Name x p] e pos) (tS M H0 W T (.asg (.nm i) own ce)) := PS.imp (ps_set k.hN hi hx he hs hf) fun _ _ _ h => i_asg h
theorem s_asgT {W : WX} (k : Ok X M) {t : CT} {own : Bool} (ht : ∀ i, t ≠ .nm i) (he : PE X e (tE M H0 W T ce)) (hg : PG X tg (tG M H0 t)) (hs : swapsWithSole [tg] e pos.line X.env = pure false := by rfl) (hw : swappedStores [tg] e X.env = pure none := by rfl)
    (h1 : (assignEach [tg] X.env).map (·.2) = [assign tg X.env] := by rfl) : PS X (.Assign [tg] e pos) (tS M H0 W T (.asg t own ce)) := PS.imp (ps_asg he hg hs hw h1) fun _ _ _ h => i_asgT ht h
theorem s_ret {W : WX} (he : PE X e (tE M H0 W T ce)) : PS X (.Return (some e) pos) (tS M H0 W T (.ret ce)) := PS.imp (ps_ret he) fun _ _ _ h => i_ret h
theorem s_exp {W : WX} (he : PE X e (tE M H0 W T ce)) (hs : swapsWith e none pos.line X.env = pure false := by rfl) : PS X (.Expr e pos) (tS M H0 W T (.exp ce)) := PS.imp (ps_expr he hs) fun _ _ _ h => i_exp h
theorem s_wall {W : WX} {st : Stmt} : PS X st (tS M H0 W T .wall) := PS.imp ps_never fun D σ H h => by
  obtain ⟨F, ρ, R, q⟩ := h
  exact q
theorem s_if {W : WX} {p q : List Stmt} {c1 c2 : CSs} (hc : PT X c (tT M H0 W T cc)) (ha : PSs X p (tSs M H0 W T c1)) (hb : PSs X q (tSs M H0 W T c2)) : PS X (.If c p q pos) (tS M H0 W T (.ifs cc c1 c2)) := PS.imp (ps_if hc ha hb) fun _ _ _ h => i_ifs h
theorem s_for {W : WX} (k : Ok X M) {body : List Stmt} {t : CT} {it : CI} {c1 : CSs} (hp : PassesOwn (model X.prog X.w) X.A X.env X.xe) (hi : PI X tg iter (tI M H0 W T X.H_0 it)) (hg : PG X tg (tG M H0 t)) (hb : PSs X body (tSs M H0 W T c1))
    (hs : ∀ x, foldedSetIterable iter X.env x = pure x := by intro _; rfl) (hU : UnlW X W := by first | exact wn_unl | assumption) : PS X (.For tg iter body [] pos) (tS M H0 W T (.fors t it c1)) := PS.imp (ps_unl (ps_for hp k.hc hi hg hb hs)) fun _ _ _ h => i_fors hU h
theorem s_whl {W : WX} {body : List Stmt} {c1 : CSs} (hp : PassesOwn (model X.prog X.w) X.A X.env X.xe) (hc : PT X c (tT M H0 W T cc)) (hb : PSs X body (tSs M H0 W T c1)) : PS X (.While c body [] pos) (tS M H0 W T (.whl cc c1)) := PS.imp (ps_while hp hc hb) fun _ _ _ h => i_whl h
/-! ### stores into objects -/
theorem s_sub {W : WX} (k : Ok X M) {i : Nat} {d ix : Expr} {ck : CE} (hd : PE X d (tVar i)) (hk : PE X ix (tE M H0 W T ck)) (he : PE X e (tE M H0 W T ce))
    (ha : ∀ v, assign (.Subscript d ix p) X.env v = (do
      let ov ← holding [v] (eval d X.env)
      let iv ← holding [v, ov] (eval ix X.env)
      standAt p
      holding [v, ov, iv] (setItem ov iv v)
      release [v, ov, iv] []) := by intro _; rfl)
    (hs : swapsWithSole [.Subscript d ix p] e pos.line X.env = pure false := by rfl) (hw : swappedStores [.Subscript d ix p] e X.env = pure none := by rfl) (h1 : (assignEach [.Subscript d ix p] X.env).map (·.2) = [assign (.Subscript d ix p) X.env] := by rfl) :
    PS X (.Assign [.Subscript d ix p] e pos) (tS M H0 W T (.sset i ck ce)) := PS.imp (ps_asg he (pg_sub hd hk (r_set k.u1) ha) hs hw h1) fun _ _ _ h => i_sset h
theorem s_fld {W : WX} (k : Ok X M) (kt : Kt M T) {i n : Nat} {d : Expr} {f : Str} (hd : PE X d (tVar i)) (he : PE X e (tE M H0 W T ce)) (hf : M.an n = f := by rfl) (hs : swapsWith e (some (.Attribute d f p)) pos.line X.env = pure false := by rfl) :
    PS X (.Assign [.Attribute d f p] e pos) (tS M H0 W T (.fset i n ce)) := by
  subst hf
  refine PS.imp (ps_fld hd he hs) fun D σ H h => ?_
  rw [k.hk]; exact i_fset kt h
/-- l.append(x), l.pop(i).. of a list in a slot -/
theorem k_mut {W : WX} (k : Ok X M) {i : Nat} {d : Expr} {m : Str} {id : String} {mo : MOp} (slot : PySem.Slot "list" m id) (hty : typeOf (.builtin id) = pure (.type "method_descriptor")) (hm : MtM X id (rMut M mo)) (hd : PE X d (tVar i)) (ha : PA X (e :: es) (tA M H0 W T cs))
    (hbase : attributeBase d m X.env (eval d X.env) = eval d X.env := by rfl)
    (hfew : ((backTo pos (starEach (e :: es) X.env)).all (fun x => !x.1) && (backToKw pos (keywordEach [] X.env)).all (fun x => x.1.isSome)
      && decide ((e :: es).length + ([] : List Keyword).length + (if ([] : List Keyword).isEmpty then 0 else 1) < 30)) = true := by rfl)
    (hline : (p.endLine == pos.line) = true := by rfl) (hs : starEach (e :: es) X.env = (false, eval e X.env) :: starEach es X.env := by rfl) (hplain : (backTo pos (starEach es X.env)).any (·.1) = false := by rfl) :
    PE X (.Call (.Attribute d m p) (e :: es) [] pos) (tE M H0 W T (.mut mo i cs)) := PE.imp (pe_bm PySem.F.plainAttrs_list slot hty hm hd ha hbase hfew hline hs hplain) fun _ _ _ h => by rw [k.hk]; exact i_mut h
/-! ### x op= e -/
theorem q_aug {op : Operator} {g : Int → Int → Int} (k : OpR X (inplaceOp op) (rI0 fun i j => .int (g i j))) (hg : ∀ i j, opD o [.int i, .int j] = fD (.int (g i j))) : PIp X op (rO2 M (opAug o)) := by
  rintro pins s σ H x y v u Q I rx ry ⟨F, d, e, r, le, h1, h2, h3, h4⟩
  unfold opAug at h3
  split at h3
  · rw [hg] at h3
    cases h3
    cases h1.int; cases h2.int
    exact k pins s σ H _ _ v u Q I rx ry ⟨_, _, rfl, rfl, q_f h4 rfl⟩
  · cases h3
theorem q_add : PIp X .Add (rO2 M (opAug .add)) := q_aug iop_add fun _ _ => rfl
theorem q_sub : PIp X .Sub (rO2 M (opAug .sub)) := q_aug iop_sub fun _ _ => rfl
theorem s_aug {W : WX} (k : Ok X M) {i : Nat} {x : Str} {op : Operator} (hi : X.N[i]? = some x) (hx : Loc X.env.scope x) (he : PE X e (tE M H0 W T ce)) (ho : PIp X op (rO2 M (opAug o))) (hf : X.fn x = true ∨ X.env.scope.names.lookup x = some .local) :
    PS X (.AugAssign (.Name x p) op e pos) (tS M H0 W T (.aug i o ce)) := PS.imp (ps_aug k.hN hi hx he ho hf) fun _ _ _ h => i_aug h
/-! ### a, b = x, y -/
theorem s_par2 {W : WX} (k : Ok X M) {i j : Nat} {x y : Str} {px py pt : Pos} {kt k2 : Nat} {pt2 : Pos} {owns : List Bool} (hi : X.N[i]? = some x) (hj : X.N[j]? = some y) (hij : i ≠ j) (hx : X.env.scope.names.lookup x = some .local) (hy : X.env.scope.names.lookup y = some .local) (ha : PA X [a, b] (tA M H0 W T cs))
    (hw : swappedStores [.Tuple [.Name x px, .Name y py] kt pt] (.Tuple [a, b] k2 pt2) X.env = pure (some [x, y]) := by rfl) (hs : swapsWithSole [.Tuple [.Name x px, .Name y py] kt pt] (.Tuple [a, b] k2 pt2) pos.line X.env = pure false := by rfl) :
    PS X (.Assign [.Tuple [.Name x px, .Name y py] kt pt] (.Tuple [a, b] k2 pt2) pos) (tS M H0 W T (.par [i, j] owns cs)) := PS.imp (ps_par k.hc k.hN hi hj hij hx hy ha hw hs) fun _ _ _ h => i_par2 h
end
end PV

set_option Elab.async false
set_option linter.all false
set_option maxRecDepth 100000
set_option maxHeartbeats 1000000
/-! PvV: a def's body keeps its promise. -/
namespace PV
open PySem L2
section
variable {M : Nm} {F H : Hp} {vs : List V} {as : List Slot}
theorem inS_at {as : List Slot} {n i : Nat} : slotAt (as.map inS ++ List.replicate n .no) i = if i < as.length then inS (as.getD i .no) else .no := by
  unfold slotAt
  rw [List.getD_eq_getElem?_getD, List.getElem?_append]
  by_cases h : i < as.length
  · simp [h, List.getD_eq_getElem?_getD]
  · rw [if_neg h]
    simp only [List.length_map, h, if_false]
    rw [List.getElem?_replicate]
    split <;> rfl
theorem start_at {N : List Str} {i : Nat} : (L2.start N vs)[i]? = if i < vs.length then (vs[i]?).map some else if i < N.length then some none else none := by
  unfold L2.start
  rw [List.getElem?_append]
  by_cases h : i < vs.length
  · simp [h]
  · simp only [List.length_map, h, if_false]
    rw [List.getElem?_replicate]
    by_cases g : i < N.length
    · rw [if_pos (by omega), if_pos g]
    · rw [if_neg (by omega), if_neg g]
theorem in_slot {n i : Nat} {s : Slot} (h : slotAt (as.map inS ++ List.replicate n .no) i = s) (ns : s ≠ .no) : ∃ a, as[i]? = some a ∧ inS a = s := by
  rw [inS_at] at h
  by_cases q : i < as.length
  · rw [if_pos q] at h
    refine ⟨as[i], List.getElem?_eq_getElem q, ?_⟩
    rw [← h, List.getD_eq_getElem?_getD, List.getElem?_eq_getElem q]; rfl
  · rw [if_neg q] at h; exact absurd h.symm ns
theorem in_fz {a : Slot} {d : D} (h : inS a = .fz d) : a = .fz d := by cases a <;> cases h; rfl
theorem in_pw {a : Slot} {d : D} (h : inS a = .pw d) : a = .ow d ∨ a = .pw d := by cases a <;> cases h; exact .inl rfl; exact .inr rfl
theorem in_ow {a : Slot} {d : D} (h : inS a = .ow d) : False := by cases a <;> cases h
theorem in_od {a : Slot} {ks : Od} (h : inS a = .od ks) : a = .od ks := by cases a <;> cases h; rfl
theorem st_some {N : List Str} (hl : vs.length = as.length) {i : Nat} {a : Slot} (h : as[i]? = some a) : ∃ v, vs[i]? = some v ∧ (L2.start N vs)[i]? = some (some v) := by
  have q : i < as.length := (List.getElem?_eq_some_iff.1 h).1
  have q' : i < vs.length := hl ▸ q
  refine ⟨vs[i], List.getElem?_eq_getElem q', ?_⟩
  rw [start_at, if_pos q', List.getElem?_eq_getElem q']; rfl
theorem own_in {n i : Nat} (h : IsOwn (slotAt (as.map inS ++ List.replicate n .no) i)) : ∃ d, slotAt (as.map inS ++ List.replicate n .no) i = .pw d ∧ (as[i]? = some (.ow d) ∨ as[i]? = some (.pw d)) := by
  cases q : slotAt (as.map inS ++ List.replicate n .no) i with
  | no => rw [q] at h; exact h.elim
  | fz d => rw [q] at h; exact h.elim
  | ow d => obtain ⟨a, _, e⟩ := in_slot q (by intro z; cases z); exact (in_ow e).elim
  | od d => rw [q] at h; exact h.elim
  | pw d =>
    obtain ⟨a, e1, e2⟩ := in_slot q (by intro z; cases z)
    rcases in_pw e2 with rfl | rfl
    · exact ⟨d, rfl, .inl e1⟩
    · exact ⟨d, rfl, .inr e1⟩
/-- the frame at the entry -/
theorem entry {N : List Str} (le : Le F H) (hl : vs.length = as.length) (hn : as.length ≤ N.length) (ha : ∀ (i : Nat) (v : V) (s : Slot), vs[i]? = some v → as[i]? = some s → ArgOk M F H v s) (hd : Dist vs as) :
    Rel M H F H (L2.start N vs) (as.map inS ++ List.replicate (N.length - as.length) .no) ∧ ∀ a, OA (as.map inS ++ List.replicate (N.length - as.length) .no) (L2.start N vs) a ↔ AO vs as a := by
  have ow : ∀ {i : Nat}, IsOwn (slotAt (as.map inS ++ List.replicate (N.length - as.length) .no) i) → ∃ d a o, as[i]? = some (.ow d) ∧ slotAt (as.map inS ++ List.replicate (N.length - as.length) .no) i = .pw d ∧ vs[i]? = some (.ref a) ∧ (L2.start N vs)[i]? = some (some (.ref a)) ∧ F a = none ∧ H a = some o ∧ RepTop M F d o := fun {i} h => by
    obtain ⟨d, e, e1 | e1⟩ := own_in h
    · obtain ⟨v, e2, e3⟩ := st_some (N := N) hl e1
      obtain ⟨a, o, rfl, h1, h2, h3⟩ := ha i v _ e2 e1
      exact ⟨d, a, o, e1, e, e2, e3, h1, h2, h3⟩
    · obtain ⟨v, e2, e3⟩ := st_some (N := N) hl e1
      exact (ha i v _ e2 e1).elim
  have nod : ∀ i ks, slotAt (as.map inS ++ List.replicate (N.length - as.length) .no) i ≠ .od ks := fun i ks z => by
    obtain ⟨s, e1, e2⟩ := in_slot z (by intro z; cases z)
    cases in_od e2
    obtain ⟨v, e2, e3⟩ := st_some (N := N) hl e1
    exact ha i v _ e2 e1
  refine ⟨⟨le, ?_, fun i d z => ?_, fun i d z => ?_, fun i j a z w y y' => ?_, fun i d a z y => ?_, fun a z => z, ⟨fun i ks z => (nod i ks z).elim, fun i j ks ls a z _ _ _ => (nod i ks z).elim⟩⟩, fun a => ⟨?_, ?_⟩⟩
  · unfold L2.start
    simp only [List.length_append, List.length_map, List.length_replicate]
    omega
  · obtain ⟨s, e1, e2⟩ := in_slot z (by intro z; cases z)
    cases in_fz e2
    obtain ⟨v, e2, e3⟩ := st_some (N := N) hl e1
    exact ⟨v, e3, ha i v _ e2 e1⟩
  · obtain ⟨d', a, o, h1, h2, h3, h4, h5, h6, h7⟩ := ow (i := i) (by rcases z with z | z <;> (rw [z]; exact True.intro))
    have : d' = d := by rcases z with z | z <;> (rw [h2] at z; cases z); rfl
    subst this
    exact ⟨a, o, h4, h5, h6, h7⟩
  · obtain ⟨d1, a1, _, g1, _, g3, g4, _⟩ := ow z
    obtain ⟨d2, a2, _, k1, _, k3, k4, _⟩ := ow w
    rw [g4] at y; cases y
    rw [k4] at y'; cases y'
    exact hd i j d1 d2 _ g1 k1 g3 k3
  · obtain ⟨s, _, e2⟩ := in_slot z (by intro z; cases z)
    exact (in_ow e2).elim
  · rintro ⟨i, h, e⟩
    obtain ⟨d, a', _, h1, _, h3, h4, _⟩ := ow h
    rw [h4] at e; cases e
    exact ⟨i, d, h1, h3⟩
  · rintro ⟨i, d, h1, h2⟩
    obtain ⟨v, e2, e3⟩ := st_some (N := N) hl h1
    rw [h2] at e2; cases e2
    refine ⟨i, ?_, e3⟩
    have q : i < as.length := (List.getElem?_eq_some_iff.1 h1).1
    rw [inS_at, if_pos q, List.getD_eq_getElem?_getD, h1]
    exact True.intro
theorem take_at {ρ : Env} {n i : Nat} {s : Slot} (hi : i < n) (h : slotAt ρ i = s) (ns : s ≠ .no) : ((ρ.take n).map outS)[i]? = some (outS s) := by
  have q : i < ρ.length := slotAt_lt (by rw [h]; exact ns)
  rw [List.getElem?_map, List.getElem?_take, if_pos hi, List.getElem?_eq_getElem q]
  unfold slotAt at h
  rw [List.getD_eq_getElem?_getD, List.getElem?_eq_getElem q] at h
  show some (outS ρ[i]) = _
  rw [show ρ[i] = s from h]
/-- the frame at the end -/
theorem leave {N : List Str} {F' H' : Hp} {σ' : L2.St} {ρ' : Env} (le : Le F H) (hl : vs.length = as.length) (oa : ∀ a, OA (as.map inS ++ List.replicate (N.length - as.length) .no) (L2.start N vs) a ↔ AO vs as a)
    (R : RelS M H F H (L2.start N vs) (as.map inS ++ List.replicate (N.length - as.length) .no) F' H' σ' ρ') : Le F' H' ∧ Stp F H (AO vs as) F' H' (AO vs as) ∧ OutOk M F' H' vs as ((ρ'.take as.length).map outS) := by
  obtain ⟨R, SW, P⟩ := R
  have S := SW.s le fun _ z => z
  refine ⟨R.sub, ⟨S.le, fun b o h n => S.fr b o h fun z => n ((oa b).1 z), S.dm, fun b h h' => (S.nw b h h').imp id (oa b).1, fun b h => .inl h, S.mm⟩, fun i d h => ?_⟩
  have q : i < as.length := (List.getElem?_eq_some_iff.1 h).1
  have e0 : slotAt (as.map inS ++ List.replicate (N.length - as.length) .no) i = .pw d := by
    rw [inS_at, if_pos q, List.getD_eq_getElem?_getD, h]; rfl
  obtain ⟨⟨d', e1⟩, e2⟩ := P i d e0
  obtain ⟨v, e3, e4⟩ := st_some (N := N) hl h
  obtain ⟨a, o, g1, g2, g3, g4⟩ := R.ow i d' (.inr e1)
  rw [e2, e4] at g1
  cases g1
  exact ⟨d', a, o, take_at q e1 (by intro z; cases z), e3, g2, g3, g4⟩
theorem body_ok {T : Tb} {N : List Str} {b : CSs} {Q : VK} {np : Nat} (hn : np ≤ N.length) (hv : vs.length = np) (h : spOf M (run T N.length b) vs H Q L2.E0) : tSs M H WN T b { nx := fun _ H' => Q .non H', rt := Q } (L2.start N vs) H := by
  obtain ⟨F, as, le, hl, ha, hd, h⟩ := h
  obtain ⟨R, oa⟩ := entry (N := N) le hl (by omega) ha hd
  refine ⟨F, _, R, ?_⟩
  unfold run at h
  cases q : exs T b (as.map inS ++ List.replicate (N.length - as.length) .no) with
  | nx ρ' =>
    rw [q] at h
    intro σ' F' H' S
    obtain ⟨l1, s1, o1⟩ := leave le hl oa S
    exact h .non F' H' l1 s1 o1 rfl
  | rt x ρ' =>
    rw [q] at h
    cases x with
    | f d =>
      intro σ' v F' H' S V N'
      obtain ⟨l1, s1, o1⟩ := leave le hl oa S
      exact h v F' H' l1 s1 o1 V
    | n d =>
      intro σ' v F' H' S V N'
      obtain ⟨l1, s1, o1⟩ := leave le hl oa S
      obtain ⟨a, o, rfl, g1, g2, g3, _⟩ := V
      exact h _ F' H' l1 s1 o1 ⟨a, o, rfl, N' d a rfl rfl, g1, g2, g3⟩
    | v i => exact h.elim
    | t xs =>
      intro σ' v F' H' S V N'
      obtain ⟨l1, s1, o1⟩ := leave le hl oa S
      obtain ⟨a, us, rfl, g1, g2, V, N⟩ := V
      refine h _ F' H' l1 s1 o1 ⟨a, us, rfl, g2, V.lift fun w y hy g => ?_, N⟩
      cases y with
      | f d => exact g
      | n d =>
        obtain ⟨a, o, e1, e2, e3, e4, e5⟩ := g
        exact ⟨a, o, e1, e2, e3, e4, fun ⟨i, z, _⟩ => by simp [slotAt, IsOwn] at z⟩
      | v i => exact absurd rfl (hy i)
      | t _ => exact g.elim
  | exc e ρ' =>
    rw [q] at h
    intro cls d σ' F' H' S x
    obtain ⟨l1, s1, o1⟩ := leave le hl oa S
    exact h cls d F' H' l1 s1 o1 x
  | br ρ' => rw [q] at h; exact h.elim
  | ct ρ' => rw [q] at h; exact h.elim
  | bad => rw [q] at h; exact h.elim
theorem sp0_runF {P : Pg} {n fc np : Nat} {b : CSs} {N : List Str} {Q : VK} {E : XK} (hf : P.fd fc = some (.body np N.length b)) (h : sp0 M (runF P (n + 1) fc) vs H Q E) : vs.length = np ∧ spOf M (run ⟨runF P n, P.gl, P.mt, P.fl⟩ N.length b) vs H Q L2.E0 := by
  obtain ⟨F, as, le, hl, ha, hd, h⟩ := h
  simp only [runF, hf] at h
  by_cases z : as.length = np
  · rw [if_pos z] at h
    exact ⟨hl.trans z, F, as, le, hl, ha, hd, h⟩
  · rw [if_neg z] at h; exact h.elim
end
end PV

set_option Elab.async false
set_option linter.all false
set_option maxRecDepth 100000
set_option maxHeartbeats 1000000
/-! PvW: defs. -/
namespace PV
open PySem L2
section
variable {P : Program} {w : World} {K : PySem.W.Frag} {mg : Str → Option Value} {base : Heap} {M : Nm} {Pr : Pg} {x qual : Str} {st : Stmt} {f : Addr} {fd : FuncData} {N ps : List Str} {k fc np : Nat} {b : CSs}
/-- the context of a def's body -/
abbrev BX (P : Program) (w : World) (K : PySem.W.Frag) (mg : Str → Option Value) (base : Heap) (N : List Str) (qual : Str) (st : Stmt) (f : Addr) (cdv : Value) (A : Around) (outer : List PySem.Env) (s : Shared) (H : Hp) (E : XK) : Cx :=
  (cxOf L2.CX0 P w K mg base N qual (defScope st) f cdv A outer s H E).nox
abbrev tbl (Pr : Pg) (n : Nat) : Tb := ⟨runF Pr n, Pr.gl, Pr.mt, Pr.fl⟩
theorem keeps_zero (F : L2.Fun K x qual st f fd) : Keeps P w K mg base M (runF Pr 0 fc) k f :=
  ⟨fun A outer s H us vs Q _ _ _ _ h => by obtain ⟨_, _, _, _, _, _, h⟩ := h; exact h.elim, F.kp⟩
theorem keeps_of {n : Nat} (F : L2.Fun K x qual st f fd) (S : FnScope N ps (defScope st)) (hb : Binds K fd ps []) (hK : M.K = K) (hf : Pr.fd fc = some (.body np N.length b)) (hps : ps.length = np) (hn : np ≤ N.length)
    (der : ∀ (cdv : Value) (A : Around) (outer : List PySem.Env) (s : Shared) (H : Hp) (E : XK), Ok (BX P w K mg base N qual st f cdv A outer s H E) M → Room k (BX P w K mg base N qual st f cdv A outer s H E).A →
      PSs (BX P w K mg base N qual st f cdv A outer s H E) (defBody st) (tSs M H WN (tbl Pr n) b)) : Keeps P w K mg base M (runF Pr (n + 1) fc) (k + 1) f := by
  refine ⟨runs_of F S hb (fun vs H Q h => (sp0_runF hf h).1.trans hps.symm) (fun cdv A outer s H vs Q clr hr h => ?_), F.kp⟩
  have ok : Ok (BX P w K mg base N qual st f cdv A outer s H L2.E0) M := ⟨⟨clr.gd, clr.sm⟩, hK.symm, rfl, hr.units, S.nd⟩
  obtain ⟨h1, h2⟩ := sp0_runF hf h
  exact ⟨_, der cdv A outer s H L2.E0 ok hr, body_ok hn h1 h2⟩
/-- more room -/
theorem Keeps.mono {φ : List Slot → FOut} {j : Nat} (h : Keeps P w K mg base M φ j f) (l : j ≤ k) : Keeps P w K mg base M φ k f := by
  exact ⟨h.rs.mono l, h.kp⟩
end
end PV

set_option Elab.async false
set_option linter.all false
set_option maxRecDepth 100000
set_option maxHeartbeats 1000000
/-! PvX: a == b by an own __eq__. -/
namespace PV
open PySem L2
section
variable {M : Nm} {H0 : Hp} {T : Tb}
/-- what may stand on the right: an object of the class, or data that are no object -/
def Fit (M : Nm) (H : Hp) (C : Nat) (y : V) : Prop := (∃ b dy gs, y = .ref b ∧ H b = some (.ins (M.cl C) dy gs)) ∨ ∃ F d n, Le F H ∧ RT M F H d y ∧ tyN d = some n
/-- == (neg: !=) of an object of the class -/
def rEqo (M : Nm) (T : Tb) (neg : Bool) : R2 := fun x y H Q => ∃ C f a dx fs, T.mt C mEq = some f ∧ x = .ref a ∧ H a = some (.ins (M.cl C) dx fs) ∧ Fit M H C y ∧ sp0 M (T.fn f) [.ref a, y] H (fun v H' => ∃ k, v = .bl k ∧ Q (.bl (neg ^^ k)) H') L2.E0
end
end PV

set_option Elab.async false
set_option linter.all false
set_option maxRecDepth 100000
set_option maxHeartbeats 1000000
/-! PvXN: a != b by an own __eq__, through object's __ne__. -/
namespace PV
open PySem PySem.W
section
variable {prog : Program} {w : World} {A : Around} {E : Value → Shared → Prop} {s : Shared} {K : Frag} {h₀ : Heap} {L x C f : Addr} {m : Str → Option Value} {ox : Obj} {od : Option Obj} {b tb : Value} {Q : Value → Shared → Prop}
end
end PV
namespace PV
open PySem L2
section
variable {X : Cx} {M : Nm} {T : Tb}
/-- what an own == asks -/
structure EqC (X : Cx) (M : Nm) (T : Tb) (C f : Nat) (fa : Addr) (k : Nat) : Prop where
  kp : Keeps X.prog X.w X.K X.mg X.base M (T.fn f) k fa
  hs : PySem.W.findIn X.K (.ref (M.cl C)) "__eq__" = some (some (.ref fa))
  hf : PySem.W.isFn X.K (.ref fa) = true
  ic : IsC X.K (M.cl C)
  ne : PySem.W.findIn X.K (.ref (M.cl C)) "__ne__" = some (some (.builtin "object.__ne__"))
end
end PV

set_option Elab.async false
set_option linter.all false
set_option maxRecDepth 100000
set_option maxHeartbeats 1000000
/-! PvY: more rules of the text: own ==, comprehensions stored on one line, range, triples. -/
namespace PV
open PySem L2
section
variable {X : Cx} {M : Nm} {H0 : Hp} {T : Tb} {a b c e elt tg iter : Expr} {es rest : List Expr} {ca cb cc ce : CE} {cs : CEs} {pos p p2 p3 spos py : Pos}
/-! ### range -/
theorem p_rng {W : WX} {ca : CE} (hm : X.mg "range" = none) (ha : PE X a (tE M H0 W T ca)) (hg : Gl X "range" := by rfl) (hs : starEach [a] X.env = [(false, eval a X.env)] := by rfl) : PI X tg (.Call (.Name "range" p) [a] [] pos) (tI M H0 W T X.H_0 (.rng ca)) :=
  PI.imp (pi_range1 hg hm (pa_cons ha pa_nil hs) hs) fun _ _ _ h => i_rng h
/-! ### name = [..] on one line -/
theorem s_setLc {W : WX} (k : Ok X M) {i : Nat} {y : Str} {w : Bool} {ifs : List Expr} {scope : Scope} {own : List (Str × Nat)} {t : CT} {it : CI} (hy : X.N[i]? = some y) (hyl : X.env.scope.names.lookup y = some .local)
    (hsw : swapsWith (.ListComp elt [⟨tg, iter, ifs, 0⟩] scope pos) (some (.Name y py)) spos.line X.env = pure true) (hi : PI X tg iter (tI M H0 W T X.H_0 it)) (ok : BlkOk X.N X.env.scope scope own) (hj : ∀ j ∈ t.slots, j ∈ own.map (·.2))
    (hg : ∀ (s : Shared) (H : Hp) (C : Addr) (cl : List (Str × Addr)) (fp : List Addr), PG (X.blk s H scope (compEnvC scope cl C X.env) fp) tg (tG M H0 t)) (ht : ∀ (s : Shared) (H : Hp) (C : Addr) (cl : List (Str × Addr)) (fp : List Addr), PTs (X.blk s H scope (compEnvC scope cl C X.env) fp) ifs (tT M H0 WN T cc))
    (he : ∀ (s : Shared) (H : Hp) (C : Addr) (cl : List (Str × Addr)) (fp : List Addr), PE (X.blk s H scope (compEnvC scope cl C X.env) fp) elt (tE M H0 WN T ce)) (hs : ∀ x, foldedSetIterable iter X.env x = pure x := by intro _; rfl) (hU : UnlW X W := by first | exact wn_unl | assumption) :
    PS X (.Assign [.Name y py] (.ListComp elt [⟨tg, iter, ifs, 0⟩] scope pos) spos) (tS M H0 W T (.asg (.nm i) w (.lc ce t it cc (own.map (·.2))))) := by
  refine PS.imp (ps_unl (ps_setLc k.hc k.hN hy hyl hsw hi ok hg ht he hs)) fun D σ H h => ?_
  exact i_lc (HX := X.H_0) hj hU (i_asg h)
end
end PV

set_option Elab.async false
set_option linter.all false
set_option maxRecDepth 100000
set_option maxHeartbeats 1000000
/-! PvZ: name = {..} of a block on one line. -/
namespace L2
open PySem PySem.Spec PyProof.Rows
section
variable {X : Cx}
end
end L2
namespace PV
open PySem L2
section
variable {X : Cx} {M : Nm} {H0 : Hp} {T : Tb} {elt tg iter : Expr} {cc ce : CE} {pos spos py : Pos}
end
end PV

set_option Elab.async false
set_option linter.all false
set_option maxRecDepth 100000
set_option maxHeartbeats 1000000
/-! PvZA: lists of objects compared. -/
namespace PV
open PySem L2
section
variable {M : Nm} {H0 : Hp} {T : Tb}
/-- the own == says True -/
def SayT (M : Nm) (T : Tb) (f : Nat) (a b : Addr) (H : Hp) : Prop := ∃ F d e os, Le F H ∧ Rep M F d (.ref a) ∧ Rep M F e (.ref b) ∧ T.fn f [.fz d, .fz e] = .ok (.f (.bl true)) os
theorem Le.ext {F H H' : Hp} (l : Le F H) (e : Ext H H') : Le F H' := by
  have rd : ∀ {a u}, Rd H a u → Rd H' a u := fun r => r.imp (e _ _) fun ⟨o, r⟩ => ⟨o, e _ _ r⟩
  refine ⟨fun a xs r => rd (l.l a xs r), fun a xs r => e _ _ (l.t a xs r), fun a xs r => rd (l.tr a xs r), fun a xs r => rd (l.k a xs r), fun a xs r => rd (l.kt a xs r), fun a C dx fs r => e _ _ (l.i a C dx fs r), fun a φ io r => e _ _ (l.x a φ io r), fun a h => l.d a ?_, fun a x h => ?_⟩
  · cases q : H a with
    | none => rfl
    | some o => rw [e a o q] at h; cases h
  · cases q : H a with
    | none => exact .inl (l.d a q)
    | some o => rw [e a o q] at h; cases h; exact l.o a x q
theorem ext_none {H H' : Hp} (e : Ext H H') {a : Addr} (h : H' a = none) : H a = none := by
  cases q : H a with
  | none => rfl
  | some o => rw [e a o q] at h; cases h
theorem SayT.ext {f : Nat} {a b : Addr} {H H' : Hp} (e : Ext H H') (s : SayT M T f a b H) : SayT M T f a b H' := by
  obtain ⟨F, d, e', os, l, h⟩ := s
  exact ⟨F, d, e', os, l.ext e, h⟩
theorem Rel.ext {F H H' : Hp} {σ : L2.St} {ρ : Env} (R : Rel M H0 F H σ ρ) (e : Ext H H') : Rel M H0 F H' σ ρ :=
  ⟨R.sub.ext e, R.len, R.fz, fun i d h => let ⟨a, o, h1, h2, h3, h4⟩ := R.ow i d h; ⟨a, o, h1, h2, e _ _ h3, h4⟩, R.dist, R.new, fun a h => R.dom a (ext_none e h), R.odr.step (Le.refl F) (MkS.refl F) (fun b x o _ h => e b o h) fun i ks z => ⟨z, rfl⟩⟩
theorem Stp.ext {F H H' : Hp} {A : Addr → Prop} (e : Ext H H') : Stp F H A F H' A := ⟨Le.refl F, fun b o h _ => e b o h, fun b h => ext_none e h, fun b h h' => absurd h h', fun b h => .inl h, MkS.refl F⟩
/-- two objects of one class whose own == says True -/
def DOb (M : Nm) (T : Tb) : Eqv := fun x y H => ∃ C f, T.mt C mEq = some f ∧ DIns (M.cl C) (SayT M T f) x y H
end
end PV

set_option Elab.async false
set_option linter.all false
set_option maxRecDepth 100000
set_option maxHeartbeats 1000000
/-! PvZB: names, tables, the law's end. -/
namespace PV
open PySem L2
/-! ### tables -/
def anOf (names : List Str) (a : Nat) : Str := match names[a]? with
  | some x => x
  | none => ⟨#[a]⟩
theorem anOf_inj {names : List Str} (nd : names.Nodup) (hl : ∀ x ∈ names, x.cps.size ≠ 1) : ∀ a b, anOf names a = anOf names b → a = b := by
  intro a b h
  unfold anOf at h
  cases ha : names[a]? with
  | some x =>
    cases hb : names[b]? with
    | some y =>
      rw [ha, hb] at h
      simp only at h
      subst h
      exact (List.getElem?_inj (List.getElem?_eq_some_iff.1 ha).1 nd).1 (ha.trans hb.symm)
    | none =>
      rw [ha, hb] at h
      simp only at h
      exact absurd (by rw [h]; rfl) (hl x (List.mem_of_getElem? ha))
  | none =>
    cases hb : names[b]? with
    | some y =>
      rw [ha, hb] at h
      simp only at h
      exact absurd (by rw [← h]; rfl) (hl y (List.mem_of_getElem? hb))
    | none =>
      rw [ha, hb] at h
      injection h with h
      injection h with h
      injection h
def mtOf (tab : List (Nat × Nat × Nat)) (C m : Nat) : Option Nat := (tab.find? fun p => p.1 == C && p.2.1 == m).map (·.2.2)
theorem mtOf_mem {tab : List (Nat × Nat × Nat)} {C m f : Nat} (h : mtOf tab C m = some f) : (C, m, f) ∈ tab := by
  unfold mtOf at h
  cases q : tab.find? fun p => p.1 == C && p.2.1 == m with
  | none => rw [q] at h; cases h
  | some p =>
    rw [q] at h
    cases h
    have h1 := List.find?_some q
    have h2 := List.mem_of_find?_eq_some q
    simp only [Bool.and_eq_true, beq_iff_eq] at h1
    obtain ⟨rfl, rfl⟩ := h1
    exact h2
theorem mtOf_only {tab : List (Nat × Nat × Nat)} {m Cn fc : Nat} (h : (tab.all fun p => p.2.1 != m || (p.1 == Cn && p.2.2 == fc)) = true) : ∀ B f, mtOf tab B m = some f → B = Cn ∧ f = fc := by
  intro B f e
  have := List.all_eq_true.1 h _ (mtOf_mem e)
  simpa using this
def flOf (tab : List (Nat × Nat)) (C a : Nat) : Bool := tab.contains (C, a)
theorem flOf_mem {tab : List (Nat × Nat)} {C a : Nat} (h : flOf tab C a = true) : (C, a) ∈ tab := by simpa [flOf] using h
/-! ### isinstance with a built-in type -/
theorem ty_int : ∀ d n, tyN d = some n → kitB n "int" = some (dInt d) := fun d n h => by cases d <;> cases h <;> rfl
theorem ty_bool : ∀ d n, tyN d = some n → kitB n "bool" = some (dBool d) := fun d n h => by cases d <;> cases h <;> rfl
theorem ty_str : ∀ d n, tyN d = some n → kitB n "str" = some (dStr d) := fun d n h => by cases d <;> cases h <;> rfl
theorem ty_list : ∀ d n, tyN d = some n → kitB n "list" = some (dList d) := fun d n h => by cases d <;> cases h <;> rfl
theorem ty_tuple : ∀ d n, tyN d = some n → kitB n "tuple" = some (dTuple d) := fun d n h => by cases d <;> cases h <;> rfl
/-! ### {..} of a block on one line -/
/-! ### the law -/
section
variable {P : Program} {w : World} {K : PySem.W.Frag} {mg : Str → Option Value} {base : Heap} {M : Nm} {Pr : Pg} {x qual : Str} {st : Stmt} {f : Addr} {fd : FuncData} {N ps : List Str} {k fc np : Nat} {b : CSs}
/-- no list stands in the written part -/
def NoList (K : PySem.W.Frag) : Bool := K.all fun p => match p.2.cls with
  | .type t => t != "list"
  | _ => true
theorem SqL.rd {H : Hp} {a : Addr} {xs : List V} (n : NoList K = true) (h : SqL K H a xs) : Rd H a (.lst xs) := by
  rcases h with h | ⟨o, its, m, h, c, _⟩
  · exact h
  · have mem : (a, o) ∈ K := by
      clear n
      induction K with
      | nil => cases h
      | cons p r ih =>
        obtain ⟨q, u⟩ := p
        rw [List.lookup_cons] at h
        split at h
        · rename_i e
          cases h
          have : a = q := by simpa using e
          subst this
          exact List.mem_cons_self
        · exact List.mem_cons_of_mem _ (ih h)
    have := List.all_eq_true.1 n _ mem
    simp only [c] at this
    simp at this
/-- what the law promises -/
def spLaw (K : PySem.W.Frag) : Sp := fun vs H Q _ => NoList K = true ∧ ∃ (a : Addr) (ns : List Int), vs = [.ref a] ∧ SqL K H a (ns.map V.int) ∧ ns.length ≤ 63 ∧ (∀ z ∈ ns, Builtin.Int.intBits z ≤ 1048576) ∧ ∀ H', Q (.bl true) H'
theorem reps_ints {F : Hp} : ∀ ns : List Int, Reps M F (ns.map D.int) (ns.map V.int)
  | [] => rfl
  | n :: r => ⟨_, _, rfl, rfl, reps_ints r⟩
/-- only the script -/
def only1 (a : Addr) (u : HO) : Hp := fun b => if b = a then some u else none
theorem rd_only {a b : Addr} {u t : HO} (h : Rd (only1 a u) b t) : b = a ∧ (u = t ∨ ∃ o, u = .frz o t) := by
  unfold Rd only1 at h
  by_cases q : b = a
  · simp only [q, if_true] at h
    refine ⟨q, h.imp (fun h => by cases h; rfl) fun ⟨o, h⟩ => ⟨o, by cases h; rfl⟩⟩
  · simp only [q, if_false] at h
    rcases h with h | ⟨o, h⟩ <;> cases h
theorem law_sp {φ : List PV.Slot → FOut} (hK : M.K = K) (h : ∀ ns : List Int, ns.length ≤ 63 → (∀ z ∈ ns, Builtin.Int.intBits z ≤ 1048576) → ∃ os, φ [.fz (.lst (ns.map D.int))] = .ok (.f (.bl true)) os) : ∀ vs H Q E, spLaw K vs H Q E → sp0 M φ vs H Q E := by
  rintro vs H Q E ⟨nl, a, ns, rfl, hS, hl, hb, q⟩
  obtain ⟨os, ho⟩ := h ns hl hb
  have rd := SqL.rd nl hS
  obtain ⟨u, hu, hu2⟩ : ∃ u, H a = some u ∧ (u = .lst (ns.map V.int) ∨ ∃ o, u = .frz o (.lst (ns.map V.int))) := by
    rcases rd with h | ⟨o, h⟩
    · exact ⟨_, h, .inl rfl⟩
    · exact ⟨_, h, .inr ⟨o, rfl⟩⟩
  have eu : ∀ t : HO, (u = t ∨ ∃ o, u = .frz o t) → Rd H a t := fun t ht => by
    rcases ht with rfl | ⟨o, rfl⟩
    · exact .inl hu
    · exact .inr ⟨o, hu⟩
  have one : ∀ b t, only1 a u b = some t → H b = some t := fun b t h => by
    unfold only1 at h
    by_cases q : b = a
    · subst q; simp only [if_true] at h; cases h; exact hu
    · simp only [q, if_false] at h; cases h
  refine ⟨only1 a u, [.fz (.lst (ns.map D.int))], ⟨fun b xs r => ?_, fun b xs r => one b _ r, fun b xs r => ?_, fun b xs r => ?_, fun b xs r => ?_, fun b C dx fs r => one b _ r, fun b f _ r => one b _ r, fun b h => ?_, fun b x h => ?_⟩, rfl, fun i v s h1 h2 => ?_, fun i j d1 d2 a h1 h2 => ?_, ?_⟩
  · obtain ⟨e1, r2⟩ := rd_only r; subst e1; exact eu _ r2
  · obtain ⟨e1, r2⟩ := rd_only r; subst e1; exact eu _ r2
  · obtain ⟨e1, r2⟩ := rd_only r; subst e1; exact eu _ r2
  · obtain ⟨e1, r2⟩ := rd_only r; subst e1; exact eu _ r2
  · unfold only1
    by_cases q : b = a
    · subst q; rw [hu] at h; cases h
    · simp only [q, if_false]
  · by_cases q : b = a
    · subst q; rw [hu] at h; cases h
      rcases hu2 with z | ⟨o, z⟩ <;> cases z
    · exact .inl (by simp only [only1, q, if_false])
  · match i with
    | 0 =>
      cases h1; cases h2
      refine ⟨a, ns.map V.int, rfl, ?_, reps_ints ns⟩
      rcases hu2 with rfl | ⟨o, rfl⟩
      · exact .inl (by simp [only1])
      · exact .inr ⟨o, by simp [only1]⟩
    | i + 1 => cases h1
  · match i with
    | 0 => cases h1
    | i + 1 => cases h1
  · rw [ho]
    intro v F' H' le S O V
    cases (show v = .bl true from V)
    exact q H'
end
end PV

set_option Elab.async false
set_option linter.all false
set_option maxRecDepth 100000
set_option maxHeartbeats 1000000
/-! PvZC: further rules of the text. -/
namespace PV
open PySem L2
section
variable {X : Cx} {M : Nm} {H0 : Hp} {T : Tb} {a b c e elt tg iter : Expr} {es rest : List Expr} {ca cb cc ce : CE} {cs : CEs} {pos p p2 p3 spos py : Pos}
/-! ### constants of the module -/
theorem k_glbI {W : WX} {g : Nat} {x : Str} {i : Int} (hm : ∃ t, X.mg x = some (.int i t)) (hgl : T.gl g = .int i := by rfl) (hg : Gl X x := by rfl) (hd : (x == ("__debug__" : Str)) = false := by decide) : PE X (.Name x pos) (tE M H0 W T (.glb g)) := by
  obtain ⟨t, hm⟩ := hm
  exact k_glb hg hm (v := .int i) ⟨t, rfl⟩ (fun F => by rw [hgl]; rfl) hd
end
end PV
namespace PV
open PySem L2
theorem isC_of {K : PySem.W.Frag} {C : Addr} (cl : Cls K C) (ha : PySem.W.findIn K (.ref C) "__class__" = some (some (.builtin "object.__class__"))) (hn : PySem.W.specialIn K (.builtin "object.__class__") "__get__" = some (some (.builtin "getset_descriptor.__get__")))
    (htk : PySem.W.takesIn K (.builtin "object.__class__") = some true) (hm : PySem.W.mroIn K C (.type "object") = some true) (ic : PySem.W.isClsIn K C = true) (ty : PySem.W.typeIn K (.ref C) = some (.type "type"))
    (s : ∀ n ∈ ["NoneType", "bool", "int", "str", "list", "tuple", "dict"], PySem.W.subIn K (.type n) (.ref C) = some false) : IsC K C := by
  have kc : ((PySem.W.clsIn K C).isSome && PySem.W.typeIn K (.ref C) == some (.type "type")) = true := by
    rw [ty, show (PySem.W.clsIn K C).isSome = true from by
      unfold PySem.W.isClsIn at ic
      first | exact ic | (split at ic <;> simp_all [PySem.W.clsIn])]
    rfl
  refine ⟨cl, ha, hn, htk, hm, ?_, fun n hn => ?_, s⟩
  · unfold PySem.W.kitOne
    rw [if_pos (beq_self_eq_true _)]
  · unfold PySem.W.kitOne
    rw [if_neg (by intro z; cases z)]
    unfold PySem.W.kitCls
    simp only [kc, if_true]
    exact s n hn
end PV

set_option Elab.async false
set_option linter.all false
set_option maxRecDepth 100000
set_option maxHeartbeats 1000000
/-! PvZD: enumerate, zip. -/
namespace PV
open PySem L2
section
variable {M : Nm} {H0 : Hp} {W : WX} {T : Tb} {F H : Hp}
def kEnm : D → Option (List D)
  | .lst xs => some (xs.zipIdx.map fun p => .tup [.int (p.2 : Nat), p.1])
  | .tup xs => some (xs.zipIdx.map fun p => .tup [.int (p.2 : Nat), p.1])
  | _ => none
theorem i_enm {HX : Hp} {e : CE} {σ : L2.St} {H : Hp} {R : It → Hp → Prop} (h : tI M H0 W T HX (.enm e) σ H R) : tE M H0 W T e σ H fun x H1 => iD M HX kEnm x H1 R := by
  obtain ⟨F, ρ, R0, p⟩ := h
  simp only [evI] at p
  refine it_of R0 ?_
  cases h : ev T e ρ with
  | bad => rw [h] at p; exact p
  | exc e ρ1 => rw [h] at p; exact p
  | ok v ρ1 =>
    rw [h] at p
    simp only [Out.bind] at p ⊢
    cases h2 : okD v ρ1 with
    | bad => rw [h2] at p; exact p
    | exc e ρ1 => rw [h2] at p; exact p
    | ok d ρ2 => rw [h2] at p; cases d <;> exact p
theorem it_enm {K : PySem.W.Frag} {a : Addr} {vs : List V} {ds : List D} (le : Le F H) (r : Rd F a (.lst vs)) (h : Reps M F ds vs) : IterOk M F H (Ite K a) (ds.zipIdx.map fun p => .tup [.int (p.2 : Nat), p.1]) := by
  have rd : ∀ H', Keep F H H' → SqL K H' a vs := fun H' k => .inl (k.rd (rd_fz r fun x z => by cases z) (le.l _ _ r))
  have hl : (ds.zipIdx.map fun p => D.tup [.int (p.2 : Nat), p.1]).length = vs.length := by simp [h.length]
  refine ⟨fun i H' hi k => ?_, fun H' k => ⟨vs, rd H' k, by rw [hl]; exact Nat.le_refl _⟩, fun i H' x H2 hi k y => ?_⟩
  · rw [hl] at hi
    exact ⟨vs, _, rd H' k, List.getElem?_eq_getElem hi⟩
  · obtain ⟨Tt, x, rfl, hT, rfl, y⟩ := y
    obtain ⟨d, hd, rp⟩ := h.get (y vs (rd _ k))
    exact ⟨.tup [.int (i : Nat), d], by simp [hd], .inr ⟨Tt, [.int (i : Nat), x], [.int (i : Nat), d], rfl, hT, rfl, rfl, .int (i : Nat), [x], rfl, rfl, x, [], rfl, rp, rfl⟩⟩
def kZip : D → D → Option (List D)
  | .lst xs, .lst ys => some ((xs.zip ys).map fun p => .tup [p.1, p.2])
  | _, _ => none
def iD2 (M : Nm) (HX : Hp) (K : D → D → Option (List D)) : V → V → Hp → (It → Hp → Prop) → Prop := fun x y H R => ∃ F d e ds, Le F H ∧ Rep M F d x ∧ Rep M F e y ∧ K d e = some ds ∧ ∀ J F1 H1, Lk HX F H F1 H1 → IterOk M F1 H1 J ds → R J H1
end
section
variable {X : Cx} {M : Nm} {H0 : Hp} {T : Tb} {a b : Expr} {ca cb : CE} {p pos tpos : Pos} {elts : List Expr} {kk : Nat}
end
end PV

set_option Elab.async false
set_option linter.all false
set_option maxRecDepth 100000
set_option maxHeartbeats 1000000
/-! PvZE: zip whose target is a name: the tuple given out last may live or be gone. -/
namespace PV
open PySem L2
/-- a zip with what its first two fields hold -/
abbrev Zp (h : Heap) (z TI TO : Addr) (f g : Value) : Prop :=
  h.get? z = some { cls := .type "zip", dict := none, data := .fields #[f, g, .bool false, .ref TI, .ref TO], slots := #[] }
/-- no tuple of its own is out -/
def Gone (h : Heap) (f : Value) : Prop := f = .none ∨ ∃ T : Addr, f = rawInt T ∧ h.get? T = none
section
variable {prog : Program} {w : World} {A : Around} {E : Value → Shared → Prop} {s : Shared}
/-- what stays put when a zip turns -/
abbrev Rest (z TO i1 i2 : Addr) (h h' : Heap) : Prop := ∀ c o, c ≠ z → c ≠ TO → c ≠ i1 → c ≠ i2 → h.get? c = some o → h'.get? c = some o
/-- how a zip may stand between two turns -/
def Zs (h : Heap) (z TI TO : Addr) : Prop := ∃ f g, Zp h z TI TO f g ∧ (f = .none ∨ ∃ T : Addr, f = rawInt T) ∧ ∃ b, g = .bool b
theorem Zs.cases {h : Heap} {z TI TO : Addr} (e : Zs h z TI TO) : (∃ f g, Zp h z TI TO f g ∧ Gone h f ∧ ∃ b, g = .bool b) ∨ ∃ T b o, IsZipHeld h z TI TO T b ∧ h.get? T = some o := by
  obtain ⟨f, g, ez, ef, b, rfl⟩ := e
  rcases ef with rfl | ⟨T, rfl⟩
  · exact .inl ⟨_, _, ez, .inl rfl, b, rfl⟩
  · cases eT : h.get? T with
    | none => exact .inl ⟨_, _, ez, .inr ⟨T, rfl, eT⟩, b, rfl⟩
    | some o => exact .inr ⟨T, b, o, ez, eT⟩
theorem Zs.ty {z TI TO : Addr} (e : Zs s.heap z TI TO) : s.TypeIs (.ref z) "zip" := by
  obtain ⟨f, g, ez, -⟩ := e
  exact ⟨_, ez, rfl⟩
end
/-- what a zip over two lists keeps between its turns -/
def Zt (a b z TI TO i1 i2 : Addr) (i : Nat) (h : Heap) : Prop :=
  Zs h z TI TO ∧ IsPair h TI (.ref i1) (.ref i2) ∧ (∃ x y, IsPair h TO x y) ∧ h.IsListIter i1 a i ∧ h.IsListIter i2 b i
theorem Zt.keep {a b z TI TO i1 i2 : Addr} {i : Nat} {h h' : Heap} (e : Zt a b z TI TO i1 i2 i h) (k : ∀ c ∈ [z, TI, TO, i1, i2], ∀ o, h.get? c = some o → h'.get? c = some o) : Zt a b z TI TO i1 i2 i h' := by
  obtain ⟨⟨f, g, ez, r⟩, eI, ⟨x, y, eO⟩, t1, t2⟩ := e
  exact ⟨⟨f, g, k _ (by simp) _ ez, r⟩, k _ (by simp) _ eI, ⟨x, y, k _ (by simp) _ eO⟩, t1.at fun o w => k _ (by simp) o w, t2.at fun o w => k _ (by simp) o w⟩
theorem Zt.obj {a b z TI TO i1 i2 : Addr} {i : Nat} {h : Heap} (e : Zt a b z TI TO i1 i2 i h) (c : Addr) (m : c ∈ [z, TI, TO, i1, i2]) : ∃ o, h.get? c = some o ∧ ∀ v, o.data ≠ .cell v := by
  obtain ⟨⟨f, g, ez, r⟩, eI, ⟨x, y, eO⟩, ⟨o1, e1, -, d1⟩, ⟨o2, e2, -, d2⟩⟩ := e
  simp only [List.mem_cons, List.not_mem_nil, or_false] at m
  rcases m with rfl | rfl | rfl | rfl | rfl
  · exact ⟨_, ez, fun _ w => nomatch w⟩
  · exact ⟨_, eI, fun _ w => nomatch w⟩
  · exact ⟨_, eO, fun _ w => nomatch w⟩
  · exact ⟨o1, e1, fun _ w => by rw [d1] at w; cases w⟩
  · exact ⟨o2, e2, fun _ w => by rw [d2] at w; cases w⟩
theorem Rest.out {z TI TO i1 i2 : Addr} {h h' : Heap} (r : Rest z TO i1 i2 h h') (c : Addr) (o : Obj) (m : c ∉ [z, TI, TO, i1, i2]) (e : h.get? c = some o) : h'.get? c = some o := by
  simp only [List.mem_cons, List.not_mem_nil, or_false, not_or] at m
  exact r c o m.1 m.2.2.1 m.2.2.2.1 m.2.2.2.2 e
section
variable {X : Cx} {M : Nm} {H0 : Hp} {T : Tb} {a b : Expr} {ca cb : CE} {p pos tpos : Pos} {nm : Str}
end
end PV

set_option Elab.async false
set_option linter.all false
set_option maxRecDepth 100000
set_option maxHeartbeats 1000000
/-! PvZF: methods of objects. -/
namespace PV
open PySem L2
theorem anOf_ne {names : List Str} {x : Str} (h : ∀ y ∈ names, y ≠ x) (h1 : x.cps.size ≠ 1) : ∀ a, anOf names a ≠ x := by
  intro a
  unfold anOf
  cases e : names[a]? with
  | some y => exact h y (List.mem_of_getElem? e)
  | none =>
    rintro rfl
    exact h1 rfl
theorem RepA.none {M : Nm} {F : Hp} {x : Str} (h : ∀ a, M.an a ≠ x) : ∀ {ds : List (Nat × D)} {vs : List (Str × V)}, RepA M F ds vs → vs.lookup x = Option.none
  | [], vs, e => by
    unfold RepA at e
    subst e
    rfl
  | (a, d) :: ds, vs, e => by
    unfold RepA at e
    obtain ⟨v, ws, rfl, -, e⟩ := e
    rw [List.lookup_cons]
    rw [show (x == M.an a) = false from by simpa using fun z => h a z.symm]
    exact RepA.none h e
section
variable {X : Cx} {M : Nm} {H0 : Hp} {T : Tb} {e a : Expr} {es : List Expr} {ce : CE} {cs : CEs} {pos apos : Pos}
/-- e.x(a, ..), a method of the one class that has the name -/
theorem k_meth {x : Str} {g : Addr} {Cn m fc k : Nat} {keep : List Bool} {pl : Sem Bool} (cl : Cls X.K (M.cl Cn)) (hp : Meth X.K (M.cl Cn) x g) (F : KX X M (T.fn fc) k g) (only : ∀ B f, T.mt B m = some f → B = Cn ∧ f = fc) (free : ∀ i, M.an i ≠ x) (hr : Room k X.A) (ck : Ok X M) (he : PE X e (tE M H0 WN T ce)) (ha : PA X (a :: es) (tA M H0 WN T cs))
    (hst : starEach (a :: es) X.env = (false, eval a X.env) :: starEach es X.env := by rfl) (hpl : (backTo pos (starEach es X.env)).any (·.1) = false := by rfl)
    (ht : eval (.Call (.Attribute e x apos) (a :: es) [] pos) X.env = (do
      let ov ← eval e X.env
      standAt apos.atName
      let (f, first) ← holding [ov] (getMethod ov x pl)
      callWith pos f first (backTo pos (starEach (a :: es) X.env)) (backToKw pos (keywordEach [] X.env))) := by rfl) :
    PE X (.Call (.Attribute e x apos) (a :: es) [] pos) (tE M H0 WN T (.mth m ce keep cs)) := by
  refine PE.imp (pg_meth he cl hp F.rs hr ck.hg ha hst hpl ht) fun σ H Q h => ?_
  refine tE_mono (i_mth wn_e0 h) fun v H' ⟨B, f, a, dx, fs, fs', g1, g2, g3, ⟨F', g4⟩, g5⟩ => ?_
  obtain ⟨rfl, rfl⟩ := only B f g1
  exact ⟨a, dx, fs, g2, g3, g4.none free, g5⟩
theorem k_meth0 {x : Str} {g : Addr} {Cn m fc k : Nat} {keep : List Bool} {pl : Sem Bool} (cl : Cls X.K (M.cl Cn)) (hp : Meth X.K (M.cl Cn) x g) (F : KX X M (T.fn fc) k g) (only : ∀ B f, T.mt B m = some f → B = Cn ∧ f = fc) (free : ∀ i, M.an i ≠ x) (hr : Room k X.A) (ck : Ok X M) (he : PE X e (tE M H0 WN T ce))
    (ht : eval (.Call (.Attribute e x apos) [] [] pos) X.env = (do
      let ov ← eval e X.env
      standAt apos.atName
      let (f, first) ← holding [ov] (getMethod ov x pl)
      callWith pos f first (backTo pos (starEach [] X.env)) (backToKw pos (keywordEach [] X.env))) := by rfl) :
    PE X (.Call (.Attribute e x apos) [] [] pos) (tE M H0 WN T (.mth m ce keep .nil)) := by
  refine PE.imp (pg_meth0 he cl hp F.rs hr ck.hg ht) fun σ H Q h => ?_
  refine tE_mono (i_mth wn_e0 h) fun v H' ⟨B, f, a, dx, fs, fs', g1, g2, g3, ⟨F', g4⟩, g5⟩ => ?_
  obtain ⟨rfl, rfl⟩ := only B f g1
  exact ⟨a, dx, fs, g2, g3, g4.none free, i_nil g5⟩
end
end PV

set_option Elab.async false
set_option linter.all false
set_option maxRecDepth 100000
set_option maxHeartbeats 1000000
/-! PvZG: dict(zip(keys, values)) with keys that are tuples. -/
namespace PV
open PySem L2
def mergeT (acc more : List (List Key × V)) : List (List Key × V) := more.foldl (fun acc kv => putK acc kv.1 kv.2) acc
def tDz (K : PySem.W.Frag) (ta : TA) : TE := fun σ H Q => ta σ H fun vs H1 => ∃ a b ps kvs, vs = [.ref a, .ref b] ∧ SqL K H1 a (ps.map V.ref) ∧ SqL K H1 b (kvs.map (·.2)) ∧ Paired (fun p (kv : List Key × V) => H1 p = some (.tup (kv.1.map kV))) ps kvs ∧
  ∀ q, H1 q = none → Q (.ref q) (upd H1 q (.dT (mergeT [] kvs)))
section
variable {M : Nm} {H0 : Hp} {T : Tb} {F H : Hp}
theorem tA_mono {W : WX} {cs : CEs} {σ : L2.St} {H : Hp} {Q Q' : List V → Hp → Prop} (h : tA M H0 W T cs σ H Q) (q : ∀ v H', Q v H' → Q' v H') : tA M H0 W T cs σ H Q' := by
  obtain ⟨F, ρ, R, p⟩ := h
  exact ⟨F, ρ, R, p.imp (fun _ _ _ _ _ z => z) q⟩
end
section
variable {X : Cx} {M : Nm} {H0 : Hp} {T : Tb} {a b : Expr} {ca cb : CE} {p p2 pos pos2 : Pos}
end
/-- l.extend(b) of any list -/
theorem mt_ext {X : Cx} {M : Nm} : MtM X "list.extend" (rMut M .extend) := by
  rintro pins s σ H x vs v us Q I rx rv ⟨l, b, xs, zs, rfl, rfl, hH, hB, hz, q⟩
  cases rx
  obtain ⟨u, rfl, ru⟩ := rv.one
  cases ru
  obtain ⟨z1, as, m, r1, l1, e1⟩ := I.lstM hH
  obtain ⟨z2, bs, n, r2, l2, e2⟩ := lst_get I hB
  have both : as.toArray.size + bs.toArray.size ≤ sizeLine := by simp only [List.size_toArray]; omega
  have short : ¬ (!as.toArray.isEmpty && Builtin.List.listTooLong (as.toArray.size + bs.toArray.size)) = true := by
    rw [notLongL both]
    simp
  have core := AutoSeq1.list_extend_list_list_0 l as.toArray m b bs.toArray n short (by simp only [List.size_toArray]; omega) (by omega)
  refine call_meets F.slot_list_extend ⟨_, e1, rfl⟩ F.entry_list_extend (F.args_list_extend_2 _ _) core ⟨e1, e2, .non, _, ?_, rfl, q⟩
  exact I.lset (its' := as ++ bs) hH e1 (by simp) (r1.append r2) (by rw [List.length_append]; omega)
end PV

set_option Elab.async false
set_option linter.all false
set_option maxRecDepth 100000
set_option maxHeartbeats 1000000
/-! PvZH: enumerate over a tuple. -/
namespace PV
open PySem L2
abbrev tupIt (l : Addr) : Obj := { cls := .type "tuple_iterator", data := .fields #[.ref l, .int 0 0] }
abbrev enOf (a : Addr) : Obj := { cls := .type "enumerate", data := .fields #[.none, .bool false, .ref a, rawInt 0, .none, .none] }
theorem en_new (l : Addr) (items : Array Value) : Meets (Builtin.«enumerate.__new__» ⟨[.type "enumerate", .ref l], []⟩)
    (fun _ R s => s.heap.IsTuple l items ∧ R (.ok (.ret (.ref (s.heap.push (tupIt l)).objs.size))) { s with heap := (s.heap.push (tupIt l)).push (enOf s.heap.objs.size) }) := by
  refine .of_wp fun prog w A R s h => ?_
  obtain ⟨hp, g, d, tk, os⟩ := s
  obtain ⟨ht, h⟩ := h
  have sub := sub_enumerate
  wp_walk
  refine wpAny_stack_any fun stk => ?_
  refine wpAny_pure ?_
  split
  · rename_i c _ _ _ _ _
    cases (c == Value.type "enumerate") <;> (wp_walk using wpAny_pyIter_tuple ht; exact ⟨_, rfl, h⟩)
  · wp_walk using wpAny_pyIter_tuple ht
    exact ⟨_, rfl, h⟩
section
variable {prog : Program} {w : World} {A : Around} {E : Value → Shared → Prop} {s : Shared}
theorem call_enT {l : Addr} {items : Array Value} {Q : Value → Shared → Prop} (ht : s.heap.IsTuple l items)
    (q : ∀ h', IsEnum h' (s.heap.objs.size + 1) s.heap.objs.size 0 .none → h'.IsTupleIter s.heap.objs.size l 0 → (∀ b o, s.heap.get? b = some o → h'.get? b = some o) → Q (.ref (s.heap.objs.size + 1)) { s with heap := h' }) :
    wpAny (model prog w) A (call (.type "enumerate") [.ref l]) Q E s := by
  have z : (s.heap.push (tupIt l)).objs.size = s.heap.objs.size + 1 := Heap.size_push ..
  have e1 : ((s.heap.push (tupIt l)).push (enOf s.heap.objs.size)).get? (s.heap.objs.size + 1) = some (enOf s.heap.objs.size) := by
    rw [← z]
    exact Heap.get?_push_size _ rfl
  refine callType_new F.called_enumerate (by decide) (F.typeCall_enumerate_1 _) (F.newCall_enumerate_1 _) ?_ F.entry_enumerate_new (en_new l items) ⟨ht, ?_⟩
  · exact fun obj => F.args_object_init_2 obj _
  · show _ ∧ _
    rw [z]
    exact ⟨⟨_, e1, rfl⟩, q _ e1 ⟨_, Heap.get?_push_of_some _ (Heap.get?_push_size _ rfl), rfl, rfl⟩ fun b o x => Heap.get?_push_of_some _ (Heap.get?_push_of_some _ x)⟩
end
/-- the tuple at a as it stands at each turn, each item in a new pair -/
def IteT (K : PySem.W.Frag) (a : Addr) : It where
  go i H := ∃ (xs : List V) (x : V), SqT K H a xs ∧ xs[i]? = some x
  yld i H v H' := ∃ T x, v = .ref T ∧ H T = none ∧ H' = upd H T (.tup [.int (i : Nat), x]) ∧ ∀ xs, SqT K H a xs → xs[i]? = some x
  stop i H := ∃ xs : List V, SqT K H a xs ∧ xs.length ≤ i
theorem tup_apart {h : Heap} {a e it : Addr} {i : Nat} {j : Int} {old : Value} {items : Array Value} (et : h.IsTuple a items) (ee : IsEnum h e it j old) (ei : h.IsTupleIter it a i) : a ≠ e ∧ a ≠ it := by
  obtain ⟨o, h1, h2, -⟩ := et
  obtain ⟨p, g1, g2, -⟩ := ei
  refine ⟨?_, ?_⟩
  · rintro rfl
    rw [ee] at h1
    cases h1
    simp at h2
  · rintro rfl
    rw [g1] at h1
    cases h1
    rw [g2] at h2
    simp at h2
theorem turn_enT {P : Program} {w : World} {K : PySem.W.Frag} {elts : List Expr} {kk : Nat} {tpos : Pos} (a e it : Addr) :
    Turn P w K (.Tuple elts kk tpos) (IteT K a) [e, it] e (fun i h => (∃ old, IsEnum h e it ((i : Nat) : Int) old) ∧ h.IsTupleIter it a i ∧ e ≠ it) where
  mem := by simp
  obj := fun i h st c m => by
    obtain ⟨⟨old, ee⟩, ⟨o, ho, -, hd⟩, -⟩ := st
    simp only [List.mem_cons, List.not_mem_nil, or_false] at m
    rcases m with rfl | rfl
    · exact ⟨_, ee, fun _ w => nomatch w⟩
    · exact ⟨o, ho, fun _ w => by rw [hd] at w; cases w⟩
  keep := fun i h h' st k => by
    obtain ⟨⟨old, ee⟩, ⟨o, ho, r⟩, ne⟩ := st
    exact ⟨⟨old, k e (by simp) _ ee⟩, ⟨o, k it (by simp) _ ho, r⟩, ne⟩
  item := by
    intro X hP hw hK hc i pins s σ H E I hf st hg
    subst hP hw hK
    obtain ⟨⟨old, ee⟩, ei, ne⟩ := st
    obtain ⟨xs, x, qx, hx⟩ := hg
    obtain ⟨us, rx, p, -⟩ := I.tuple qx
    obtain ⟨u, hu, ru⟩ := rx.get hx
    have et : s.heap.IsTuple a us.toArray := p
    obtain ⟨n1, n2⟩ := tup_apart et ee ei
    have le : e < s.heap.objs.size := Heap.lt_size ee
    have li : it < s.heap.objs.size := by obtain ⟨_, w, _⟩ := ei; exact Heap.lt_size w
    have D := Draws.tuple (prog := X.prog) (w := X.w) (A := X.A.in1) (I.ok.hd hc) it a n2 us.toArray
    have lt : i < us.toArray.size := by
      have := (List.getElem?_eq_some_iff.1 hu).1
      simpa using this
    refine wpAny_pyNext_enum_itemD D ee ⟨ei, et⟩ lt ne (by simp only [List.mem_cons, List.not_mem_nil, or_false, not_or]; exact ⟨ne, fun w => n1 w.symm⟩) ?_
    intro y h' tk hy out st' hT sz keep
    have hy' : y = u := by
      simp only [List.getElem?_toArray] at hy
      rw [hu] at hy
      cases hy
      rfl
    subst hy'
    refine ⟨_, rfl, wpAny_letOwnedTupleGo_enum (s := { s with heap := h', toks := tk + 1 }) out fun g ge sb => ?_⟩
    have gT : g.get? s.heap.objs.size = some { cls := .type "tuple", data := .seq #[.int i tk, y] } := (sb.2 _ (Nat.ne_of_gt le)).trans hT
    have new : ObjOk X.prog X.w (upd H s.heap.objs.size (.tup [.int (i : Nat), x])) g s.heap.objs.size (.tup [.int (i : Nat), x]) :=
      ⟨by show 2 ≤ sizeLine; decide, [.int i tk, y], .cons ⟨_, rfl⟩ (.cons ru .nil), ⟨_, gT, rfl, _, rfl⟩⟩
    have I1 : Inv X pins σ (upd H s.heap.objs.size (.tup [.int (i : Nat), x])) { s with heap := g, toks := tk + 1 } := by
      refine I.turnedNew (ch := [e, it]) (fun c o m w => ?_) hf (Nat.le_refl _) new
      simp only [List.mem_cons, List.not_mem_nil, or_false, not_or] at m
      exact (sb.2 c m.1).trans (keep c o m.1 m.2 w)
    refine ⟨.ref s.heap.objs.size, _, I1, rfl, ⟨_, x, rfl, I.hok.fresh (Nat.le_refl _), rfl, fun ys hy => by rw [I.tuple_inj hy qx]; exact hx⟩, ⟨⟨y, ?_⟩, ?_, ne⟩, fun c m => ?_⟩
    · rw [show ((i + 1 : Nat) : Int) = (i : Int) + 1 by omega]
      exact ge
    · obtain ⟨⟨o, ho, r⟩, -⟩ := st'
      exact ⟨o, (sb.2 it ne.symm).trans ho, r⟩
    · have lc : c < s.heap.objs.size := by
        simp only [List.mem_cons, List.not_mem_nil, or_false] at m
        rcases m with rfl | rfl
        · exact le
        · exact li
      rw [upd_ne (Nat.ne_of_lt lc)]
      exact (hf c m).1
  done := by
    intro X hP hw hK hc i pins s σ H E I hf st hg
    subst hP hw hK
    obtain ⟨⟨old, ee⟩, ei, ne⟩ := st
    obtain ⟨xs, qx, out⟩ := hg
    obtain ⟨us, rx, p, -⟩ := I.tuple qx
    have et : s.heap.IsTuple a us.toArray := p
    obtain ⟨f0, f1, f2, f3, f4, f5⟩ := hf it (by simp)
    have len := rx.length
    unfold pyNext
    have ty : s.TypeIs (.ref e) "enumerate" := ⟨_, ee, rfl⟩
    apply wpAny_bind
    apply wpAny_attempt
    refine wpAny_callSpecial?_slot (name := Str.ofString "__next__") ty F.slot_enumerate_next ?_
    refine wpAny_call_entry F.slot_enumerate_next ty F.entry_enumerate_next ?_ (F.args_enumerate_next_1 _)
    show wpAny _ _ (field (.ref e) 2 >>= _) _ _ _
    apply wpAny_bind
    apply wpAny_field ee rfl (x := .ref it) rfl
    apply wpAny_bind
    refine wpAny_nextOf_tuple_end (I.ok.hd hc) ei et (by simp; omega) fun h' x k ⟨o, ho, hcl⟩ => ?_
    apply wpAny_bind
    refine wpAny_isInstance (T := "StopIteration") (b := true) ⟨o, ho, hcl⟩ isSubtype_stop ?_
    exact wpAny_pure ⟨rfl, I.turned (t' := s.toks) (fun c o m w => k c o m w) f0 f1 f3 f4 f5⟩
  self := fun A i s Q E st h => by
    obtain ⟨⟨old, ee⟩, -⟩ := st
    exact wpAny_pyIter_enum ee h
/-- enumerate(e): of a list or of a tuple -/
def iEn2 (K : PySem.W.Frag) (ta : TA) : TI := fun σ H R => ta σ H fun vs H1 => ∃ a xs, vs = [.ref a] ∧ ((SqL K H1 a xs ∧ R (Ite K a) H1) ∨ (SqT K H1 a xs ∧ R (IteT K a) H1))
theorem pi_en2 {X : Cx} {e : Expr} {ta : TA} {p pos tpos : Pos} {elts : List Expr} {kk : Nat} (hg : Gl X "enumerate") (hm : X.mg "enumerate" = none) (ha : PA X [e] ta) (hs : starEach [e] X.env = [(false, eval e X.env)]) :
    PI X (.Tuple elts kk tpos) (.Call (.Name "enumerate" p) [e] [] pos) (iEn2 X.K ta) := by
  constructor
  intro pins s σ H R I hyp
  refine PyProof.Rows.Call_ ?_
  refine ld_blt I hg hm PyProof.Rows.boot_enumerate ?_
  refine PyProof.Rows.callWith_type1 ?_ hs rfl
  refine thn (ha.run pos pins s σ H _ I hyp) ?_
  rintro us s1 ⟨vs, H1, I1, rr, a, xs, rfl, two⟩
  obtain _ | ⟨ra, rr⟩ := rr
  obtain _ | _ := rr
  cases ra
  have foot : ∀ c ∈ [s1.heap.objs.size + 1, s1.heap.objs.size], s1.heap.objs.size ≤ c := by
    intro c m
    simp only [List.mem_cons, List.not_mem_nil, or_false] at m
    rcases m with rfl | rfl
    · exact Nat.le_add_right _ _
    · exact Nat.le_refl _
  rcases two with ⟨qx, q⟩ | ⟨qx, q⟩
  · obtain ⟨us1, -, o1, -⟩ := I1.list qx
    refine call_enumerate_list o1.isList ?_
    intro h' ee ei sz keep
    refine wpAny_pyIter_enum ee ?_
    have I2 : Inv X pins σ H1 { s1 with heap := h' } := I1.kept (t' := s1.toks) keep
    exact ⟨_, [s1.heap.objs.size + 1, s1.heap.objs.size], _, _, H1, rfl, I2, turn_enum a _ s1.heap.objs.size, ⟨⟨.none, ee⟩, ei, Nat.succ_ne_self _⟩, fun c m => I1.fpOk (foot c m) (I1.hok.fresh (foot c m)), q⟩
  · obtain ⟨us1, -, o1, -⟩ := I1.tuple qx
    refine call_enT (show s1.heap.IsTuple a us1.toArray from o1) ?_
    intro h' ee ei keep
    refine wpAny_pyIter_enum ee ?_
    have I2 : Inv X pins σ H1 { s1 with heap := h' } := I1.kept (t' := s1.toks) keep
    exact ⟨_, [s1.heap.objs.size + 1, s1.heap.objs.size], _, _, H1, rfl, I2, turn_enT a _ s1.heap.objs.size, ⟨⟨.none, ee⟩, ei, Nat.succ_ne_self _⟩, fun c m => I1.fpOk (foot c m) (I1.hok.fresh (foot c m)), q⟩
theorem it_enmT {K : PySem.W.Frag} {M : Nm} {F H : Hp} {a : Addr} {vs : List V} {ds : List D} (le : Le F H) (r : F a = some (.tup vs)) (h : Reps M F ds vs) (sq : ∀ H', Keep F H H' → SqT K H' a vs) : IterOk M F H (IteT K a) (ds.zipIdx.map fun p => .tup [.int (p.2 : Nat), p.1]) := by
  have hl : (ds.zipIdx.map fun p => D.tup [.int (p.2 : Nat), p.1]).length = vs.length := by simp [h.length]
  refine ⟨fun i H' hi k => ?_, fun H' k => ⟨vs, sq H' k, by rw [hl]; exact Nat.le_refl _⟩, fun i H' x H2 hi k y => ?_⟩
  · rw [hl] at hi
    exact ⟨vs, _, sq H' k, List.getElem?_eq_getElem hi⟩
  · obtain ⟨Tt, x, rfl, hT, rfl, y⟩ := y
    obtain ⟨d, hd, rp⟩ := h.get (y vs (sq _ k))
    exact ⟨.tup [.int (i : Nat), d], by simp [hd], .inr ⟨Tt, [.int (i : Nat), x], [.int (i : Nat), d], rfl, hT, rfl, rfl, .int (i : Nat), [x], rfl, rfl, x, [], rfl, rp, rfl⟩⟩
section
variable {X : Cx} {M : Nm} {H0 : Hp} {T : Tb} {a : Expr} {ca : CE} {p pos tpos : Pos} {elts : List Expr} {kk : Nat}
end
end PV

set_option Elab.async false
set_option linter.all false
set_option maxRecDepth 100000
set_option maxHeartbeats 1000000
/-! PvZI: a loop over an own list, as it is at each turn. -/
namespace PV
open PySem L2
section
variable {M : Nm} {H0 : Hp} {W : WX} {T : Tb}
theorem StpW.congr {H0 F H F' H' : Hp} {A A' B B' : Addr → Prop} (S : StpW H0 F H A F' H' A') (h : ∀ a, A a ↔ B a) (h' : ∀ a, A' a ↔ B' a) : StpW H0 F H B F' H' B' :=
  ⟨S.le, fun b o e n => S.fr b o e fun z => n ((h b).1 z), S.dm, fun b e e' => (S.nw b e e').imp id (h b).1, fun b z => (S.ow b ((h' b).2 z)).imp (h b).1 id, S.mm⟩
end
section
variable {X : Cx} {M : Nm} {T : Tb}
end
end PV

set_option Elab.async false
set_option linter.all false
set_option maxRecDepth 100000
set_option maxHeartbeats 1000000
/-! PvZJ: the law, from the heap behind the top. -/
namespace PV
open PySem L2 PyProof.Rows
section
variable {P : Program} {w : World} {K : PySem.W.Frag} {mg mb : Str → Option Value} {M : Nm} {k : Nat} {fa a : Addr} {s₁ : Shared} {vs : List Value} {ns : List Int} {φ : List PV.Slot → FOut}
/-- a place that the script's list does not take -/
theorem only_ne {b : Addr} {u : HO} (h : b ≠ a) : only1 a u b = none := if_neg h
theorem only_eq {u : HO} : only1 a u a = some u := if_pos rfl
theorem law_go (nl : NoList K = true) (hM : M.K = K) (inK : K.In s₁.heap) (gl : s₁.heap.Ns mainGlobals mg) (bl : s₁.heap.Ns builtinsNs mb) (bb : ∀ x : Str, x ≠ "__name__" → mb x = bootBuiltins x) (lim : s₁.heap.NoLimit)
    (sys : ∃ mm, s₁.heap.Ns sysModules mm) (gens : s₁.gens = #[]) (ha : s₁.heap.get? a = some { cls := .type "list", data := .seq vs.toArray }) (hi : IntsAre vs ns) (hl : ns.length ≤ 63) (bits : ∀ z ∈ ns, Builtin.Int.intBits z ≤ 1048576) (room : Room k callerA)
    (F : ∀ base : Heap, K.In base → base.Ns mainGlobals mg → ∃ M : Nm, M.K = K ∧ Keeps P w K mg base M φ k fa)
    (plain : ∀ ns : List Int, ns.length ≤ 63 → (∀ z ∈ ns, Builtin.Int.intBits z ≤ 1048576) → ∃ os, φ [.fz (.lst (ns.map D.int))] = .ok (.f (.bl true)) os) :
    codeAny (model P w) callerA (.call (.ref fa) ⟨[.ref a], []⟩) (fun r s' => r = .ok (.ret (.bool true)) ∧ OldK s₁.heap s'.heap ∧ s'.os = s₁.os ∧ AllBare s'.gens) s₁ := by
  have len63 : ns.length ≤ sizeLine := by rw [sizeLine_eq]; omega
  have rvs := vals_ints hi
  -- K has no lists
  have noK : K.lookup a = none := by
    cases q : K.lookup a with
    | none => rfl
    | some o =>
      exfalso
      have e := inK a o q
      rw [ha] at e
      cases e
      have sq : SqL K (fun _ => none) a (ns.map V.int) := .inr ⟨_, vs.toArray, _, q, rfl, rfl, rfl, by rw [List.size_toArray, hi.length]; exact len63, by simpa using rvs⟩
      rcases SqL.rd nl sq with z | ⟨o, z⟩ <;> cases z
  obtain ⟨ob, eob⟩ : ∃ ob : Obj, ob = { cls := .type "list", data := .seq vs.toArray } := ⟨_, rfl⟩
  rw [← eob] at ha
  obtain ⟨u, eu⟩ : ∃ u : HO, u = .frz ob (.lst (ns.map V.int)) := ⟨_, rfl⟩
  have hH : ∀ b t, only1 a u b = some t → b = a ∧ t = u := fun b t h => by
    by_cases q : b = a
    · subst q; rw [only_eq] at h; cases h; exact ⟨rfl, rfl⟩
    · rw [only_ne q] at h; cases h
  have hok : HOk P w (only1 a u) s₁.heap := fun b t h => by
    obtain ⟨rfl, rfl⟩ := hH b t h
    subst eu
    refine ⟨ha, ?_⟩
    show _ ∧ _
    exact ⟨by rw [List.length_map]; exact len63, vs, 0, rvs, ha.trans (congrArg some eob)⟩
  have seen : ∀ {b : Addr} {o : Obj}, s₁.heap.get? b = some o → b ≠ a → (hidT s₁.heap (only1 a u)).get? b = some o := fun e n => hidT_get e (only_ne n)
  have dict_ne : ∀ {b : Addr} {m : Str → Option Value}, s₁.heap.Ns b m → b ≠ a := fun {b m} h z => by
    obtain ⟨o, es, ep, e, d, -⟩ := h
    subst z
    rw [ha, eob] at e
    cases e
    cases d
  have stay : ∀ {b : Addr} {m : Str → Option Value}, s₁.heap.Ns b m → (hidT s₁.heap (only1 a u)).Ns b m := fun {b m} h => by
    have n := dict_ne h
    obtain ⟨o, es, ep, e, d⟩ := h
    exact ⟨o, es, ep, seen e n, d⟩
  have inB : K.In (hidT s₁.heap (only1 a u)) := fun b o e => seen (inK b o e) fun z => by subst z; rw [noK] at e; cases e
  obtain ⟨mc, l1, l2⟩ := lim
  have mod : Mod K mg (hidT s₁.heap (only1 a u)) := ⟨inB, stay gl, ⟨mb, stay bl, bb⟩, ⟨mc, stay l1, l2⟩⟩
  have env0 : Env0 P w K mg (hidT s₁.heap (only1 a u)) callerA [] s₁ (only1 a u) :=
    ⟨rfl, mod, fun b o e => of_hidT e, Nat.le_of_eq (hidT_size _ _), trivial, fun b z => absurd (show b ∈ ([] : List Addr) from z) List.not_mem_nil, hok, .of_eq gens⟩
  obtain ⟨mm, sy⟩ := sys
  have clr : Clr callerA (hidT s₁.heap (only1 a u)) := by
    refine ⟨rfl, ?_⟩
    obtain ⟨o, es, ep, e, -⟩ := stay sy
    exact ⟨o, e⟩
  obtain ⟨M', hM', kp⟩ := F _ inB (stay gl)
  have sp : sp0 M' φ [.ref a] (only1 a u) (fun v _ => v = .bl true) L2.E0 :=
    law_sp hM' plain _ _ _ _ ⟨nl, a, ns, rfl, .inl (.inr ⟨ob, by rw [only_eq, eu]⟩), hl, bits, fun _ => rfl⟩
  refine codeAny_mono (kp.rs callerA [] s₁ (only1 a u) [.ref a] [.ref a] _ room clr env0 (.cons rfl .nil) sp) fun r s2 z => ?_
  obtain ⟨x, rfl, v, H2, os, bare, un, hok2, rv, ev⟩ := cr_ret z
  subst ev
  cases (show x = Value.bool true from rv)
  refine ⟨rfl, OldK.of_keep fun b o e => ?_, os, bare⟩
  by_cases q : b = a
  · subst q
    have z2 := un.frzs b ob (.lst (ns.map V.int)) (by rw [only_eq, eu])
    rw [ha] at e
    cases e
    exact (hok2 b _ z2).1
  · exact un.keep b o e (only_ne q) (fun z => absurd (show b ∈ ([] : List Addr) from z) List.not_mem_nil) List.not_mem_nil
end
theorem walk_go {l : PySem.W.OpenLaw} {q : Program} {loose : List Str} {XP : (Str → Option Value) → Heap → Prop} {YP : World → Heap → Prop} {d : DefRec} {K : Params → PySem.W.Frag} {k : Nat} {φ : List PV.Slot → FOut} (hn : l.most = some 63) (hdf : d.params.defaults = [])
    (room : Room k callerA) (imp : importsNone q = true) (plain : ∀ ns : List Int, ns.length ≤ 63 → (∀ z ∈ ns, Builtin.Int.intBits z ≤ 1048576) → ∃ os, φ [.fz (.lst (ns.map D.int))] = .ok (.f (.bl true)) os)
    (hY : ∀ (w : World) (h : Heap), YP w h → (K w.params).In h) (nl : ∀ w : World, NoList (K w.params) = true)
    (F : ∀ (w : World) (mg : Str → Option Value) (fa : Addr) (h : Heap), (K w.params).In h → h.Ns mainGlobals mg → mg d.name = some (.ref fa) →
      ∀ base : Heap, (K w.params).In base → base.Ns mainGlobals mg → ∃ M : Nm, M.K = K w.params ∧ Keeps l.prog w (K w.params) mg base M φ k fa) :
    PySem.W.WalkO q loose XP YP l.row.toRowW d [] (fun f vs => PySem.call f vs) := by
  refine Att.attach_callB hn hdf fun w s₀ s₁ mg mb fa o pm cd doc a vs ns G Y ho hd hcd hmg hobj hints hlen hbits hg => ?_
  have inK := hY w _ Y
  obtain ⟨mm, sy, -⟩ := (G.T.seer imp).mods
  obtain ⟨M0, hM0, -⟩ := F w mg fa _ inK G.T.g hmg _ inK G.T.g
  exact law_go (M := M0) (nl w) hM0 inK G.T.g G.T.b G.T.builtins G.T.nolimit ⟨mm, sy⟩ hg hobj hints hlen hbits room (F w mg fa _ inK G.T.g hmg) plain
end PV

set_option Elab.async false
set_option linter.all false
set_option maxRecDepth 100000
set_option maxHeartbeats 1000000
/-! PvZK: tuples of new things that a def gives back, and their parts. -/
namespace PV
open PySem L2
section
variable {X : Cx} {M : Nm} {H0 : Hp} {T : Tb} {e : Expr} {es : List Expr} {cs : CEs} {pos p p2 pc pt : Pos}
end
end PV

set_option Elab.async false
set_option linter.all false
set_option maxRecDepth 100000
set_option maxHeartbeats 1000000
/-! PvZL: own lists of own lists: read, appended to, made, frozen. -/
namespace PV
open PySem L2
section
variable {M : Nm} {H0 : Hp} {W : WX} {T : Tb}
/-! ### kids -/
theorem Kids.len {F H : Hp} {a : Addr} : ∀ {bs : List Addr} {ks : List (List D)}, Kids M H0 F H a bs ks → bs.length = ks.length
  | [], _, h => by cases h; rfl
  | b :: bs, _, ⟨ds, r, e, _, _, _, _, h⟩ => by subst e; simp [h.len]
theorem Kids.get {F H : Hp} {a : Addr} : ∀ {bs : List Addr} {ks : List (List D)} {m : Nat} {ds : List D}, Kids M H0 F H a bs ks → ks[m]? = some ds →
    ∃ b vs, bs[m]? = some b ∧ b ≠ a ∧ H0 b = none ∧ F b = some (.own a) ∧ H b = some (.lst vs) ∧ Reps M F ds vs
  | [], _, m, ds, h, e => by cases h; simp at e
  | b :: bs, _, 0, ds, ⟨ds', r, q, h1, h2, h3, ⟨vs, h4, h5⟩, _⟩, e => by subst q; simp at e; subst e; exact ⟨b, vs, rfl, h1, h2, h3, h4, h5⟩
  | b :: bs, _, m + 1, ds, ⟨ds', r, q, _, _, _, _, h⟩, e => by subst q; simp at e; simpa using h.get e
theorem Kids.other {F H : Hp} {a b : Addr} {o : HO} : ∀ {bs : List Addr} {ks : List (List D)}, (∀ x ∈ bs, x ≠ b) → Kids M H0 F H a bs ks → Kids M H0 F (upd H b o) a bs ks
  | [], _, _, h => h
  | c :: bs, _, n, ⟨ds, r, q, h1, h2, h3, ⟨vs, h4, h5⟩, h⟩ => ⟨ds, r, q, h1, h2, h3, ⟨vs, by rw [upd_ne (n c List.mem_cons_self)]; exact h4, h5⟩, h.other fun x hx => n x (List.mem_cons_of_mem _ hx)⟩
theorem Kids.set {F H : Hp} {a b : Addr} {ds : List D} {vs : List V} (hr : Reps M F ds vs) : ∀ {bs : List Addr} {ks : List (List D)} {m : Nat}, Kids M H0 F H a bs ks → bs.Nodup → bs[m]? = some b → Kids M H0 F (upd H b (.lst vs)) a bs (ks.set m ds)
  | [], _, _, h, _, e => by simp at e
  | c :: bs, _, 0, ⟨ds', r, q, h1, h2, h3, _, h⟩, nd, e => by
    subst q
    simp at e; subst e
    exact ⟨ds, r, rfl, h1, h2, h3, ⟨vs, upd_same, hr⟩, h.other fun x hx z => by subst z; exact (List.nodup_cons.1 nd).1 hx⟩
  | c :: bs, _, m + 1, ⟨ds', r, q, h1, h2, h3, ⟨us, h4, h5⟩, h⟩, nd, e => by
    subst q
    simp at e
    have nb : c ≠ b := by rintro rfl; exact (List.nodup_cons.1 nd).1 (List.mem_of_getElem? e)
    exact ⟨ds', r.set m ds, rfl, h1, h2, h3, ⟨us, by rw [upd_ne nb]; exact h4, h5⟩, h.set hr (List.nodup_cons.1 nd).2 e⟩
/-- kids behind a part that keeps what the root's mark holds -/
theorem Kids.keep {F H F' H' : Hp} {a : Addr} (l : Le F F') (m : ∀ b, F b = some (.own a) → F' b = some (.own a)) (k : ∀ b o, F b = some (.own a) → H b = some o → H' b = some o) : ∀ {bs : List Addr} {ks : List (List D)}, Kids M H0 F H a bs ks → Kids M H0 F' H' a bs ks
  | [], _, h => h
  | b :: bs, _, ⟨ds, r, e, h1, h2, h3, ⟨vs, h4, h5⟩, h6⟩ => ⟨ds, r, e, h1, h2, m _ h3, ⟨vs, k _ _ h3 h4, Reps.mono l _ _ h5⟩, h6.keep l m k⟩
theorem OdAt.keep {F H F' H' : Hp} {a : Addr} {ks : Od} (l : Le F F') (m : ∀ b, F b = some (.own a) → F' b = some (.own a)) (k : ∀ b o, F b = some (.own a) → H b = some o → H' b = some o) (h : OdAt M H0 F H a ks) : OdAt M H0 F' H' a ks :=
  let ⟨h1, h2, bs, h3, h4, h5⟩ := h; ⟨h1, m _ h2, bs, h3.to fun _ e => k _ _ h2 e, h4, h5.keep l m k⟩
/-! ### x[k][j] -/
/-! ### x[k].append(e) -/
/-! ### an own list of own lists is frozen -/
def frzF (H0 F H : Hp) (a : Addr) : Hp := fun x => match F x, H0 x with
  | some (.own y), none => if y = a then H x else some (.own y)
  | o, _ => o
theorem Reps.zipK {F : Hp} : ∀ {ds : List D} {vs : List V} {keys : List Key}, Reps M F ds vs → keys.length = vs.length → RepK M F (keys.zip ds) (keys.zip vs)
  | [], _, keys, h, e => by cases h; rw [List.zip_nil_right, List.zip_nil_right]; rfl
  | d :: ds, _, keys, ⟨v, ws, q, r, rs⟩, e => by
    subst q
    cases keys with
    | nil => simp at e
    | cons k keys => exact ⟨v, keys.zip ws, rfl, r, rs.zipK (by simpa using e)⟩
/-! ### a list of new lists is made -/
/-- new lists that only the list in hand holds -/
def Pends (M : Nm) (Hs F H : Hp) (σ : L2.St) (ρ : Env) (D : Addr) : List Addr → List (List PV.D) → Prop
  | [], ks => ks = []
  | b :: bs, ks => ∃ ds r, ks = ds :: r ∧ b ≠ D ∧ Hs b = none ∧ F b = none ∧ ¬ OA ρ σ b ∧ (∃ vs, H b = some (.lst vs) ∧ Reps M F ds vs) ∧ Pends M Hs F H σ ρ D bs r
theorem Pends.len {Hs F H : Hp} {σ : L2.St} {ρ : Env} {D : Addr} : ∀ {bs : List Addr} {ks : List (List PV.D)}, Pends M Hs F H σ ρ D bs ks → bs.length = ks.length
  | [], _, h => by cases h; rfl
  | b :: bs, _, ⟨ds, r, e, _, _, _, _, _, h⟩ => by subst e; simp [h.len]
theorem Pends.mem {Hs F H : Hp} {σ : L2.St} {ρ : Env} {D : Addr} : ∀ {bs : List Addr} {ks : List (List PV.D)}, Pends M Hs F H σ ρ D bs ks → ∀ b ∈ bs, b ≠ D ∧ Hs b = none ∧ F b = none ∧ ¬ OA ρ σ b ∧ ∃ vs, H b = some (.lst vs)
  | [], _, _, b, hb => by simp at hb
  | c :: bs, _, ⟨ds, r, e, h1, h2, h3, h4, ⟨vs, h5, _⟩, h⟩, b, hb => by
    rcases List.mem_cons.1 hb with rfl | hb
    · exact ⟨h1, h2, h3, h4, vs, h5⟩
    · exact h.mem b hb
theorem Pends.imp {Hs F H F' H' : Hp} {σ σ' : L2.St} {ρ ρ' : Env} {D : Addr} (l : Le F F') (k : ∀ b o, b ≠ D → F b = none → H b = some o → ¬ OA ρ σ b → Hs b = none → F' b = none ∧ H' b = some o ∧ ¬ OA ρ' σ' b) : ∀ {bs : List Addr} {ks : List (List PV.D)}, Pends M Hs F H σ ρ D bs ks → Pends M Hs F' H' σ' ρ' D bs ks
  | [], _, h => h
  | b :: bs, _, ⟨ds, r, e, h1, h2, h3, h4, ⟨vs, h5, h6⟩, h⟩ => by
    obtain ⟨g1, g2, g3⟩ := k b _ h1 h3 h5 h4 h2
    exact ⟨ds, r, e, h1, h2, g1, g3, ⟨vs, g2, Reps.mono l _ _ h6⟩, h.imp l k⟩
theorem Pends.step {Hs F H F' H' : Hp} {σ σ' : L2.St} {ρ ρ' : Env} {D : Addr} {bs : List Addr} {ks : List (List PV.D)} (h : Pends M Hs F H σ ρ D bs ks) (S : Stp F H (OA ρ σ) F' H' (OA ρ' σ')) : Pends M Hs F' H' σ' ρ' D bs ks :=
  h.imp S.le fun b o _ fb hb nb _ => pend_keep fb hb nb S
def fOd (T : Tb) (e : CE) (t : CT) (own : List Nat) : D → Env → Out (List (List D)) := fun x ρ => match tgt ρ t x with
  | none => .bad
  | some ρ => (ev T e ρ).bind fun v ρ => match v with
    | .n (.lst ds) => .ok [ds] (wipeE ρ own)
    | _ => .bad
/-- the list in hand, with new lists in it -/
structure POk (M : Nm) (Hs F H : Hp) (σ : L2.St) (ρ : Env) (D : Addr) (bs : List Addr) (q : Option (List Key)) (ks : List (List PV.D)) : Prop where
  fd : F D = none
  hd : Hd H D q bs
  ho : ¬ OA ρ σ D
  hs : Hs D = none
  nd : bs.Nodup
  pk : Pends M Hs F H σ ρ D bs ks
/-- the list and the lists in it get their mark -/
def markF (F : Hp) (a : Addr) (bs : List Addr) : Hp := fun x => if x = a ∨ x ∈ bs then some (.own a) else F x
end
end PV
namespace PV
open PySem L2
section
variable {M : Nm} {H0 : Hp} {W : WX} {T : Tb}
end
section
variable {X : Cx} {M : Nm} {H0 : Hp} {T : Tb} {cs : CEs} {es ns : List Expr} {pos pt pt2 : Pos}
end
section
variable {X : Cx} {M : Nm} {H0 : Hp} {T : Tb} {a b d e elt tg iter : Expr} {ca cb ce : CE} {p p1 p2 p3 pos spos : Pos}
end
end PV

set_option Elab.async false
set_option linter.all false
set_option maxRecDepth 100000
set_option maxHeartbeats 1000000
/-! PvZM: list(zip(a, b)) of two lists. -/
namespace PV
open PySem L2
section
variable {M : Nm} {H0 : Hp} {T : Tb} {W : WX}
/-- frozen things come, one by one -/
inductive Grw : Hp → Hp → Hp → Hp → Prop
  | refl (F H : Hp) : Grw F H F H
  | step {F H F1 H1 : Hp} (p : Addr) (o : HO) : Grw F H F1 H1 → H1 p = none → Grw F H (upd F1 p o) (upd H1 p o)
theorem Grw.back {F H F1 H1 : Hp} (g : Grw F H F1 H1) {p : Addr} (h : H1 p = none) : H p = none := by
  induction g with
  | refl => exact h
  | step q o g hq ih =>
    by_cases e : p = q
    · rw [e, upd_same] at h; cases h
    · rw [upd_ne e] at h; exact ih h
theorem Grw.le {F H F1 H1 : Hp} (g : Grw F H F1 H1) (l : Le F H) : Le F F1 ∧ Le H H1 ∧ Le F1 H1 := by
  induction g with
  | refl => exact ⟨Le.refl _, Le.refl _, l⟩
  | step p o g hp ih =>
    obtain ⟨a, b, c⟩ := ih
    have fp := c.d p hp
    exact ⟨a.trans (Le.new fp), b.trans (Le.new hp), c.both fp⟩
theorem Grw.rel {F H F1 H1 : Hp} {σ : L2.St} {ρ : Env} (g : Grw F H F1 H1) (R : Rel M H0 F H σ ρ) : Rel M H0 F1 H1 σ ρ ∧ Stp F H (OA ρ σ) F1 H1 (OA ρ σ) := by
  induction g with
  | refl => exact ⟨R, Stp.refl _ _ _⟩
  | step p o g hp ih =>
    obtain ⟨R1, S1⟩ := ih
    obtain ⟨R2, S2⟩ := R1.allocF (o := o) hp
    exact ⟨R2, S1.trans S2⟩
/-- a new thing that holds new frozen things -/
def OpG (M : Nm) (F H : Hp) (d : D) (v : V) (F' H' : Hp) : Prop := ∃ H1 p o, Grw F H F' H1 ∧ v = .ref p ∧ H1 p = none ∧ H' = upd H1 p o ∧ RepTop M F' d o
theorem OpG.rel {F H F' H' : Hp} {σ : L2.St} {ρ : Env} {d : D} {v : V} (R : Rel M H0 F H σ ρ) (h : OpG M F H d v F' H') :
    Rel M H0 F' H' σ ρ ∧ Stp F H (OA ρ σ) F' H' (OA ρ σ) ∧ VOk M F' H' σ ρ v (.n d) ∧ VNew H v (.n d) := by
  obtain ⟨H1, p, o, g, rfl, hp, rfl, h4⟩ := h
  obtain ⟨R, S⟩ := g.rel R
  obtain ⟨R1, S1⟩ := R.alloc (o := o) hp
  refine ⟨R1, S.trans S1, ⟨p, o, rfl, R.sub.d p hp, upd_same, h4, ?_⟩, fun d' a e e' => by cases e'; exact g.back hp⟩
  rintro ⟨i, q, z⟩
  cases w : slotAt ρ i with
  | no => rw [w] at q; exact q
  | fz d => rw [w] at q; exact q
  | ow d => obtain ⟨a, u, h1, h2, h3, _⟩ := R.ow i d (.inl w); rw [z] at h1; cases h1; rw [hp] at h3; cases h3
  | pw d => obtain ⟨a, u, h1, h2, h3, _⟩ := R.ow i d (.inr w); rw [z] at h1; cases h1; rw [hp] at h3; cases h3
  | od d => rw [w] at q; exact q
def rONg (M : Nm) (g : List D → Option D) : List V → Hp → VK → Prop := fun xs H Q => ∃ F ds r, Le F H ∧ Paired (RT M F H) ds xs ∧ g ds = some r ∧ ∀ v F' H', OpG M F H r v F' H' → Q v H'
theorem op_finG {F H F1 H1 : Hp} {σ : L2.St} {ρ ρ1 : Env} {Q : VK} {o : List D → R1} {g : List D → Option D} (hg : ∀ ds, o ds = (g ds).map .n) {xs : List Val} {vs : List V} (R1' : Rel M H0 F1 H1 σ ρ1) (S : Stp F H (OA ρ σ) F1 H1 (OA ρ1 σ)) (E : ES ρ ρ1) (V1 : VsOk M F1 H1 σ ρ1 vs xs)
    (p : Post M H0 W F H σ ρ (VR1 M H σ) (lift ((rds ρ1 xs).bind o) ρ1) Q) : rONg M g vs H1 Q := by
  cases h : rds ρ1 xs with
  | none => rw [h] at p; exact p.elim
  | some ds =>
    rw [h] at p
    have ho := hg ds
    cases e : g ds with
    | none => rw [e] at ho; simp only [Option.bind, ho, Option.map] at p; exact p.elim
    | some r =>
      rw [e] at ho
      simp only [Option.bind, ho, Option.map] at p
      refine ⟨F1, ds, r, R1'.sub, V1.rts R1' h, e, fun v F2 H2 z => ?_⟩
      obtain ⟨R2, S2, v2, n2⟩ := OpG.rel R1' z
      exact p v F2 H2 R2 (S.trans S2) E ⟨v2, VNew.back S n2⟩
theorem i_opG {o : Op} {g : List D → Option D} (hg : ∀ ds, opD o ds = (g ds).map .n) {as : CEs} {σ : L2.St} {H : Hp} {Q : VK} (h : tE M H0 W T (.op o as) σ H Q) : tA M H0 W T as σ H fun xs H1 => rONg M g xs H1 Q := by
  obtain ⟨F, ρ, R, p⟩ := h
  simp only [ev] at p
  exact ⟨F, ρ, R, Post.bind p fun x ρ1 v F1 H1 R1 S1 E1 V1 p1 => op_finG hg R1 S1 E1 V1.1 p1⟩
end
/-- the tuples of a zip -/
def Tups (F G : Hp) (us : List V) (ps : List (V × V)) : Prop := Paired (fun u (p : V × V) => ∃ T : Addr, u = .ref T ∧ F T = some (.tup [p.1, p.2]) ∧ G T = some (.tup [p.1, p.2])) us ps
section
variable {X : Cx} {pins : List (Addr × Obj)} {σ : L2.St} {A : Around} {R : Result → Shared → Prop}
end
def tLz (K : PySem.W.Frag) (ta : TA) : TE := fun σ H Q => ta σ H fun vs H1 => ∃ Fr a b xs ys, vs = [.ref a, .ref b] ∧ Le Fr H1 ∧ SqL K H1 a xs ∧ SqL K H1 b ys ∧
  ∀ q F' G us, Grw Fr H1 F' G → G q = none → Tups F' G us (xs.zip ys) → Q (.ref q) (upd G q (.lst us))
section
variable {X : Cx} {M : Nm} {H0 : Hp} {T : Tb} {a b : Expr} {ca cb : CE} {p p2 pos pos2 : Pos}
def zL : List D → Option D
  | [.lst xs, .lst ys] => some (.lst ((xs.zip ys).map fun p => .tup [p.1, p.2]))
  | _ => none
end
end PV

set_option Elab.async false
set_option linter.all false
set_option maxRecDepth 100000
set_option maxHeartbeats 1000000
/-! PvZN: list comprehensions with two clauses, the second one over a list or a tuple. -/
namespace PV
open PySem L2
section
variable {M : Nm} {H0 : Hp} {W : WX} {T : Tb}
/-- the items of a list or tuple -/
def evL (T : Tb) (e : CE) (ρ : Env) : Out (List D) := (ev T e ρ).bind fun v ρ => (okD v ρ).bind fun d ρ => match itemsOf d with
  | none => .bad
  | some xs => .ok xs ρ
def PostL (M : Nm) (H0 : Hp) (W : WX) (F H : Hp) (σ : L2.St) (ρ : Env) (r : Out (List D)) (R : It → Hp → Prop) : Prop := match r with
  | .ok ds ρ' => ∀ J F1 H1, Rel M H0 F1 H1 σ ρ' → Stp F H (OA ρ σ) F1 H1 (OA ρ' σ) → ES ρ ρ' → IterOk M F1 H1 J ds → R J H1
  | .exc e ρ' => ∀ cls d F' H', Rel M H0 F' H' σ ρ' → Stp F H (OA ρ σ) F' H' (OA ρ' σ) → ES ρ ρ' → XOk M F' H' e cls d → W cls d σ H'
  | .bad => False
def tIL (M : Nm) (H0 : Hp) (W : WX) (T : Tb) (c : CE) : TI := fun σ H R => ∃ F ρ, Rel M H0 F H σ ρ ∧ PostL M H0 W F H σ ρ (evL T c ρ) R
/-- its data stand in the heap -/
def iDL (M : Nm) : V → Hp → (It → Hp → Prop) → Prop := fun x H R => ∃ F d ds, Le F H ∧ Rep M F d x ∧ itemsOf d = some ds ∧ ∀ J, IterOk M F H J ds → R J H
/-! ### the inner walk -/
def fLc2 (T : Tb) (e c : CE) (t : CT) (e1 c1 : CE) (t1 : CT) (own own1 : List Nat) : D → Env → Out (List D) := fun x ρ => match tgt ρ t x with
  | none => .bad
  | some ρ => (ev T c ρ).bind fun b ρ => truth b ρ fun k ρ => if k then (evL T e1 ρ).bind fun items1 ρ => (gather (fLc T e c1 t1 own1) items1 (wipeE ρ own1)).bind fun ds ρ => .ok ds (wipeE ρ own)
      else .ok [] (wipeE ρ own)
end
section
variable {X : Cx} {M : Nm} {H0 : Hp} {T : Tb} {elt tg iter tg1 iter1 : Expr} {cc ce c1 e1 : CE} {pos : Pos}
end
end PV

set_option Elab.async false
set_option linter.all false
set_option maxRecDepth 100000
set_option maxHeartbeats 1000000
/-! PvZO: dicts of own lists: made, read, their lists changed. -/
namespace PV
open PySem L2
section
variable {M : Nm} {H0 : Hp} {W : WX} {T : Tb}
/-! ### d[k] -/
def rDg : R2 := fun x y H Q => ∃ a kvs key v, x = .ref a ∧ y = kV key ∧ H a = some (.dK kvs) ∧ valV kvs key = some v ∧ Q v H
theorem ix_dg {X : Cx} (hu : X.A.units + 1 < cLine) : IxR X rDg := by
  rintro value slice pins s σ H x y v u Q I rx ry ⟨a, kvs, key, w, rfl, rfl, ha, hv, q⟩ hs
  have gg : DGet H a (kV key) (some w) := .inl ⟨kvs, key, .inl ha, rfl, hv.symm⟩
  cases rx
  refine PyProof.Rows.tail_any (dict_typeIs I gg) slot_dict_getitem.lookup ?_ hs
  exact d_getItem hu I gg ry fun w' s' I' r' => ⟨w, H, I', r', q⟩
/-- the raw reading of x[k]: one of the own lists -/
def rOne (K : PySem.W.Frag) (dk : Bool) : R2 := if dk then rDg else rIxL K
/-! ### x[k][j] = e -/
/-! ### x = dict([(k, new list) for ..]) -/
/-- pairs of a key and a new list, in hand -/
def Tps (Hs H : Hp) (σ : L2.St) (ρ : Env) (D : Addr) : List Addr → List Key → List Addr → Prop
  | [], ks, bs => ks = [] ∧ bs = []
  | t :: ts, ks, bs => ∃ k kr b br, ks = k :: kr ∧ bs = b :: br ∧ t ≠ D ∧ Hs t = none ∧ ¬ OA ρ σ t ∧ H t = some (.tup [kV k, .ref b]) ∧ Tps Hs H σ ρ D ts kr br
theorem Tps.imp {Hs Hs' H H' : Hp} {σ σ' : L2.St} {ρ ρ' : Env} {D : Addr} (g : ∀ t vs, t ≠ D → Hs t = none → H t = some (.tup vs) → ¬ OA ρ σ t → Hs' t = none ∧ H' t = some (.tup vs) ∧ ¬ OA ρ' σ' t) : ∀ {ts : List Addr} {ks : List Key} {bs : List Addr}, Tps Hs H σ ρ D ts ks bs → Tps Hs' H' σ' ρ' D ts ks bs
  | [], _, _, h => h
  | t :: ts, _, _, ⟨k, kr, b, br, e1, e2, h1, h0, h2, h3, h⟩ => ⟨k, kr, b, br, e1, e2, h1, (g t _ h1 h0 h3 h2).1, (g t _ h1 h0 h3 h2).2.2, (g t _ h1 h0 h3 h2).2.1, h.imp g⟩
theorem Tps.len {Hs H : Hp} {σ : L2.St} {ρ : Env} {D : Addr} : ∀ {ts : List Addr} {ks : List Key} {bs : List Addr}, Tps Hs H σ ρ D ts ks bs → ks.length = ts.length ∧ bs.length = ts.length
  | [], _, _, ⟨e1, e2⟩ => by subst e1 e2; exact ⟨rfl, rfl⟩
  | s :: ts, _, _, ⟨k', kr, b', br, e1, e2, g1, g0, g2, g3, g⟩ => by subst e1 e2; simp [g.len]
def fOk (T : Tb) (es : CEs) (t : CT) (own : List Nat) : D → Env → Out (List (Key × List D)) := fun x ρ => match tgt ρ t x with
  | none => .bad
  | some ρ => (evs T es ρ).bind fun vs ρ => match keyed vs with
    | some p => .ok [p] (wipeE ρ own)
    | none => .bad
structure POkd (M : Nm) (Hs F H : Hp) (σ : L2.St) (ρ : Env) (D : Addr) (ts bs : List Addr) (ps : List (Key × List PV.D)) : Prop where
  fd : F D = none
  hd : H D = some (.lst (ts.map V.ref))
  ho : ¬ OA ρ σ D
  hs : Hs D = none
  nd : bs.Nodup
  pk : Pends M Hs F H σ ρ D bs (ps.map (·.2))
  tp : Tps Hs H σ ρ D ts (ps.map (·.1)) bs
/-- what dict(..) of such pairs asks -/
def rDP (K : PySem.W.Frag) : List V → Hp → VK → Prop := fun xs H Q => ∃ (a : Addr) (ps : List Addr) (kvs : List (Key × V)), xs = [.ref a] ∧ SqL K H a (ps.map V.ref) ∧ Paired (fun p kv => SqT K H p [kV kv.1, kv.2]) ps kvs ∧ ∀ p, H p = none → Q (.ref p) (upd H p (.dK (mergeK [] kvs)))
end
section
variable {X : Cx} {M : Nm} {H0 : Hp} {T : Tb} {a b d e k elt tg iter : Expr} {ca cb ce : CE} {cs : CEs} {es : List Expr} {p p1 p2 p3 pos spos pt : Pos}
theorem pe_one {W : WX} (k : Ok X M) {i : Nat} (dk : Bool) (hd : PE X d (tVar i)) (ha : PE X a (tE M H0 W T ca)) (hs1 : PlainIx a := by intro _ _; rfl) : PE X (.Subscript d a p1) (tOp (rOne M.K dk) (tVar i) (tE M H0 W T ca)) := by
  cases dk with
  | true => exact pe_ix (ix_dg k.u1) hd ha hs1
  | false => rw [← k.hk]; exact pe_ix ix_list hd ha hs1
end
end PV

set_option Elab.async false
set_option linter.all false
set_option maxRecDepth 100000
set_option maxHeartbeats 1000000
/-! PvZP: xs.index(y). -/
namespace PV
open PySem L2
section
variable {M : Nm} {H0 : Hp} {T : Tb}
def rIdxP (M : Nm) : V → List V → Hp → VK → Prop := fun x xs H Q => ∃ F d y dy j, xs = [y] ∧ Le F H ∧ RT M F H d x ∧ RT M F H dy y ∧ oIndex d dy = some (.f (.int j)) ∧ Q (.int j) H
end
section
variable {X : Cx} {M : Nm} {H0 : Hp} {T : Tb}
end
end PV

set_option Elab.async false
set_option linter.all false
set_option maxRecDepth 100000
set_option maxHeartbeats 1000000
/-! PvZQ: sorted(set(texts)). -/
namespace PV
open PySem PySem.Spec PyProof.Rows L2
/-! ### what a set of texts is -/
def keyT (e : Int × Value) : Str := match e.2 with | .str k _ => k | _ => Str.empty
def GoodT (w : World) (e : Int × Value) : Prop := ∃ k tk, e.2 = Value.str k tk ∧ e.1 = hashStr w k
def insT (l : List Str) (k : Str) : List Str := if k ∈ l then l else k :: l
/-- the set of texts at a: l its members; its table rises and can be walked -/
def SetT (w : World) (h : Heap) (a : Addr) (l : List Str) : Prop :=
  ∃ o es ep t, h.get? a = some o ∧ o.ExactSet ∧ o.data = .set es ep t ∧ (∀ e ∈ es.toList, GoodT w e) ∧ l.Nodup ∧ (es.toList.map keyT).Perm l ∧
    es.size < scanBound ∧ t.fits es.size = true ∧ Ris t.place.toList ∧ (w.params.followText "set-order" = true ∨ t.led = true)
section
variable {P : Program} {w : World} {h h' : Heap} {a : Addr} {l : List Str}
theorem SetT.at (R : SetT w h a l) (k : ∀ o, h.get? a = some o → h'.get? a = some o) : SetT w h' a l := by
  obtain ⟨o, es, ep, t, ho, r⟩ := R
  exact ⟨o, es, ep, t, k o ho, r⟩
theorem tKind_is (k : Str) (u : Tok) : (PySem.strKind P w).is k (.str k u) = true := by
  show Value.isStrOf k (.str k u) = true
  simp [Value.isStrOf]
theorem goodT_elems {l : List (Int × Value)} (g : ∀ e ∈ l, GoodT w e) : ElemsOf (PySem.strKind P w) l := fun e he => by
  obtain ⟨k, tk, h1, h2⟩ := g e he
  exact ⟨⟨k, by rw [h1]; exact tKind_is k tk, h2⟩, by rw [h1] <;> rfl⟩
theorem goodT_is {e : Int × Value} (g : GoodT w e) (k : Str) : (PySem.strKind P w).is k e.2 = true ↔ keyT e = k := by
  obtain ⟨k0, tk, h1, _⟩ := g
  unfold keyT
  rw [h1]
  show Value.isStrOf k (.str k0 tk) = true ↔ k0 = k
  simp only [Value.isStrOf, beq_iff_eq, decide_eq_true_eq]
theorem goodT_mem {l : List (Int × Value)} (g : ∀ e ∈ l, GoodT w e) (k : Str) : k ∈ l.map keyT ↔ ∃ e ∈ l, (PySem.strKind P w).is k e.2 = true := by
  rw [List.mem_map]
  constructor
  · rintro ⟨e, he, q⟩
    exact ⟨e, he, (goodT_is (g e he) k).2 q⟩
  · rintro ⟨e, he, q⟩
    exact ⟨e, he, (goodT_is (g e he) k).1 q⟩
end
section
variable {P : Program} {w : World} {A : Around} {E : Value → Shared → Prop} {s : Shared} {a : Addr} {l : List Str}
theorem setT_add_tail {g : Bool → Sem Unit} (hg : ∀ (b : Bool) (s₁ : Shared) (Q' : Unit → Shared → Prop), Q' () s₁ → wpAny (model P w) A (g b) Q' E s₁)
    {o : Obj} {es : Array (Int × Value)} {ep : Nat} {t : SetTable} (ho : s.heap.get? a = some o) (hex : o.ExactSet) (hd : o.data = .set es ep t)
    {es1 : Array (Int × Value)} {t2 : SetTable} (g1 : ∀ e ∈ es1.toList, GoodT w e) (nd1 : l.Nodup) (m1 : (es1.toList.map keyT).Perm l)
    (hb1 : es1.size < scanBound) (hf2 : t2.fits es1.size = true) (hr : Ris t2.place.toList) (hl : w.params.followText "set-order" = true ∨ t2.led = true) {wasDummy : Bool} {R : Option Bool → Shared → Prop}
    (hR : ∀ h', Heap.SameBut a s.heap h' → SetT w h' a l → R (some true) { s with heap := h' }) :
    wpAny (model P w) A (do
        storeSet a es1 t2
        if (!wasDummy && t2.tooFull) = true then do
            g (relayAll t2 es1 (SetTable.grown es1.size)).2.2
            storeSet a (relayAll t2 es1 (SetTable.grown es1.size)).1 (relayAll t2 es1 (SetTable.grown es1.size)).2.1
            pure (some true)
          else pure (some true)) R E s := by
  refine wpAny_bind (wpAny_storeSet_of ho hd ?_ (fits_of_scanBound hb1))
  have ho1 := store_at (es' := es1) (t' := t2) ho hd
  have sb1 := Heap.SameBut.update s.heap a (Obj.putSet es1 t2)
  split
  · have pm := relayAll_perm t2 es1 (SetTable.grown es1.size)
    have hf3 := relayAll_fits t2 es1 (SetTable.grown es1.size)
    have hr3 := relayAll_ris t2 es1 (SetTable.grown es1.size)
    have hl3 := relayAll_led t2 es1 (SetTable.grown es1.size)
    generalize relayAll t2 es1 (SetTable.grown es1.size) = Z at pm hf3 hr3 hl3 ⊢
    obtain ⟨es2, t3, gave⟩ := Z
    dsimp only at pm hf3 hr3 hl3 ⊢
    have hsz : es2.size = es1.size := by rw [← Array.length_toList, pm.length_eq, Array.length_toList]
    have hb2 : es2.size < scanBound := by rw [hsz]; exact hb1
    refine wpAny_bind (hg _ _ _ ?_)
    refine wpAny_bind (wpAny_storeSet_of ho1 rfl ?_ (fits_of_scanBound hb2))
    have ho2 := store_at (es' := es2) (t' := t3) ho1 rfl
    refine wpAny_pure (hR _ (sb1.trans (Heap.SameBut.update _ a _)) ?_)
    exact ⟨_, es2, _, t3, ho2, hex, rfl, fun e he => g1 e (pm.mem_iff.mp he), nd1, (pm.map keyT).trans m1, hb2, hf3, hr3,
      hl.imp id fun z => by rw [hl3]; exact z⟩
  · exact wpAny_pure (hR _ sb1 ⟨_, es1, _, t2, ho1, hex, rfl, g1, nd1, m1, hb1, hf2, hr, hl⟩)
theorem setT_add_hashed {k : Str} {tk : Tok} {Q : Bool → Shared → Prop} (R : SetT w s.heap a l) (room : l.length + 1 < scanBound)
    (hQ : ∀ (b : Bool) h', Heap.SameBut a s.heap h' → SetT w h' a (insT l k) → Q b { s with heap := h' }) :
    wpAny (model P w) A (setAddHashed a (.str k tk) ((PySem.strKind P w).hash k)) Q E s := by
  obtain ⟨o, es, ep, t, ho, hex, hd, g, nd, hm, hb, hf, hr, hl⟩ := R
  have hkey : (PySem.strKind P w).is k (.str k tk) = true := tKind_is k tk
  have hsc : (Value.str k tk).scannable = true := rfl
  have hel : ElemsOf (PySem.strKind P w) es.toList := goodT_elems g
  unfold setAddHashed setAddHashedIn
  refine wpAny_holding (wpAny_bind (wpAny_setState_of ho hd hf ?_))
  dsimp only
  rw [byScan_of hsc hb hel]
  simp only [↓reduceIte]
  unfold setAddByScan
  refine wpAny_bind ?_
  refine wpAny_bind (wpAny_rule ?_)
  refine wpAny_bind (wpAny_setScan_of hkey ho hd hf hel ?_)
  cases hfi : List.findIdx? (fun e => (PySem.strKind P w).is k e.2) es.toList with
  | some j =>
    dsimp only
    obtain ⟨hj, pj, _⟩ := List.findIdx?_eq_some_iff_getElem.mp hfi
    have hk : k ∈ l := hm.mem_iff.mp ((goodT_mem (P := P) (w := w) g k).2 ⟨es.toList[j], List.getElem_mem hj, pj⟩)
    refine wpAny_pure (wpAny_pure ?_)
    refine hQ _ s.heap (Heap.SameBut.refl a s.heap) ?_
    rw [insT, if_pos hk]
    exact ⟨o, es, ep, t, ho, hex, hd, g, nd, hm, hb, hf, hr, hl⟩
  | none =>
    dsimp only
    have hnk : k ∉ l := fun z => by
      obtain ⟨e, he, q⟩ := (goodT_mem (P := P) (w := w) g k).1 (hm.mem_iff.mpr z)
      have c := List.findIdx?_eq_none_iff.mp hfi e he
      rw [q] at c
      cases c
    have hgw : ∀ (b : Bool) {s₁ : Shared} {Q' : Unit → Shared → Prop}, Q' () s₁ → wpAny (model P w) A (match b with | true => rule "set.scan.the-table-gave-way" | false => pure ()) Q' E s₁ :=
      fun b s₁ Q' q => by cases b <;> first | exact wpAny_pure q | exact wpAny_rule q
    have pm := layNew_perm t es ((PySem.strKind P w).hash k) (.str k tk)
    have hf1 := layNew_fits t es ((PySem.strKind P w).hash k) (.str k tk)
    have hr1 := layNew_ris t es ((PySem.strKind P w).hash k) (.str k tk) hr
    have hl1 := layNew_led t es ((PySem.strKind P w).hash k) (.str k tk)
    generalize layNew t es ((PySem.strKind P w).hash k) (.str k tk) = Z at pm hf1 hr1 hl1 ⊢
    obtain ⟨es1, t1, wasDummy, gave⟩ := Z
    dsimp only at pm hf1 hr1 hl1 ⊢
    rw [Array.toList_push] at pm
    have pc : es1.toList.Perm (((PySem.strKind P w).hash k, Value.str k tk) :: es.toList) := pm.trans (List.perm_append_singleton _ _)
    have pk : (es1.toList.map keyT).Perm (k :: l) := (pc.map keyT).trans (List.Perm.cons k hm)
    have g1 : ∀ e ∈ es1.toList, GoodT w e := fun e he => by
      rcases List.mem_cons.mp (pc.mem_iff.mp he) with z | z
      · rw [z]; exact ⟨k, tk, rfl, rfl⟩
      · exact g e z
    have nd1 : (k :: l).Nodup := List.nodup_cons.mpr ⟨hnk, nd⟩
    have hsz : es1.size = l.length + 1 := by rw [← Array.length_toList, ← List.length_map (f := keyT), pk.length_eq, List.length_cons]
    have hb1 : es1.size < scanBound := by rw [hsz]; exact room
    have hled : w.params.followText "set-order" = true ∨ t1.led = true := hl.imp id fun z => by rw [hl1]; exact z
    have fin : ∀ h', Heap.SameBut a s.heap h' → SetT w h' a (k :: l) → Q true { s with heap := h' } := fun h' sb r => hQ true h' sb (by rw [insT, if_neg hnk]; exact r)
    refine wpAny_bind (hgw _ ?_)
    split
    · refine wpAny_bind ?_
      rw [hashByValue_scannable 8 hsc]
      refine wpAny_pure ?_
      refine setT_add_tail ?_ ho hex hd g1 nd1 pk hb1 ?_ ?_ ?_ ?_
      · intro b s₁ Q' q; cases b <;> first | exact wpAny_pure q | exact wpAny_rule q
      · first | (split <;> first | exact hf1 | exact SetTable.fits_plain_off hf1) | exact hf1
      · first | (split <;> exact hr1) | exact hr1
      · first | (split <;> exact hled) | exact hled
      · intro h' sb r; dsimp only; exact wpAny_pure (fin h' sb r)
    · refine wpAny_bind (wpAny_pure ?_)
      simp only [↓reduceIte]
      refine setT_add_tail ?_ ho hex hd g1 nd1 pk hb1 hf1 hr1 hled ?_
      · intro b s₁ Q' q; cases b <;> first | exact wpAny_pure q | exact wpAny_rule q
      · intro h' sb r; dsimp only; exact wpAny_pure (fin h' sb r)
end
/-! ### set(xs) -/
theorem insT_nodup {l : List Str} (h : l.Nodup) (k : Str) : (insT l k).Nodup := by
  unfold insT
  split
  · exact h
  · rename_i z; exact List.nodup_cons.mpr ⟨z, h⟩
theorem insT_len {l : List Str} (k : Str) : (insT l k).length ≤ l.length + 1 := by
  unfold insT
  split
  · omega
  · simp
theorem foldT_len : ∀ {ys l : List Str}, (ys.foldl insT l).length ≤ l.length + ys.length
  | [], _ => by simp
  | y :: ys, l => by
    have := foldT_len (ys := ys) (l := insT l y)
    have := insT_len (l := l) y
    simp only [List.foldl_cons, List.length_cons]
    omega
section
variable {prog : Program} {w : World} {A : Around} {R : Result → Shared → Prop} {I : Addr} {fp wr : List Addr} {G : Array GenState → Array GenState → Prop} {n : Nat} {Pv : Nat → Value → Prop} {St : Nat → Shared → Prop}
theorem set_update_loopT (W : WalksS prog w A.in1 I fp wr G n Pv St) (S : Addr) (hSf : S ∉ fp) (ys : List Str) (hn : ys.length = n)
    (hval : ∀ i v, Pv i v → ∃ y t, ys[i]? = some y ∧ v = .str y t) (hb : n + 1 < scanBound) :
    ∀ (k i : Nat) (s : Shared), n - i = k → i ≤ n → St i s → SetT w s.heap S ((ys.take i).foldl insT []) →
      (∀ s', Moved (S :: wr) G s s' → SetT w s'.heap S (ys.foldl insT []) → R (.ok (.ret .none)) s') →
      codeAny (model prog w) A (.builtin "set.update.loop" ⟨[.ref S, .ref I], []⟩) R s := by
  have hSw : S ∉ wr := fun h => hSf (W.sub _ h)
  have hsub : ∀ b ∈ wr, b ∈ S :: wr := fun b hb => List.mem_cons_of_mem _ hb
  intro k
  induction k with
  | zero =>
    intro i s hk hi hst hS hR
    have hin : i = n := by omega
    subst hin
    rw [List.take_of_length_le (by omega)] at hS
    refine codeAny_builtin F.entry_set_update_loop ?_
    rw [Around.under_plainId F.plain_set_update_loop _]
    show wpAny _ A.in1 (pyNext (.ref I) >>= _) _ _ s
    refine wpAny_bind (W.done s _ _ hst fun s' hm => ?_)
    show wpAny _ A.in1 (ret Value.none) _ _ s'
    exact wpAny_pure (hR s' (hm.mono hsub) (hS.at fun o ho => hm.heap S _ hSw ho))
  | succ k ih =>
    intro i s hk hi hst hS hR
    have hlt : i < n := by omega
    refine codeAny_builtin F.entry_set_update_loop ?_
    rw [Around.under_plainId F.plain_set_update_loop _]
    show wpAny _ A.in1 (pyNext (.ref I) >>= _) _ _ s
    refine wpAny_bind (W.item i s _ _ hlt hst fun v s' hP hst' hm => ?_)
    obtain ⟨y, t, hy, rfl⟩ := hval i v hP
    have hS' : SetT w s'.heap S ((ys.take i).foldl insT []) := hS.at fun o ho => hm.heap S _ hSw ho
    show wpAny _ A.in1 (holding [Value.str y t] (setAdd S (.str y t)) >>= _) _ _ s'
    refine wpAny_bind (wpAny_holding ?_)
    unfold setAdd
    refine wpAny_holding ?_
    refine wpAny_bind ((PySem.strKind prog w).pyHash (k := y) (tKind_is y t) ?_)
    have hroom : ((ys.take i).foldl insT []).length + 1 < scanBound := by
      have := foldT_len (ys := ys.take i) (l := [])
      rw [List.length_take] at this
      simp only [List.length_nil] at this
      omega
    refine setT_add_hashed (s := { s' with toks := s'.toks + 1 }) hS' hroom fun b h' hsb hS2 => ?_
    have hSi : SetT w h' S ((ys.take (i + 1)).foldl insT []) := by
      rw [List.take_add_one, hy, List.foldl_append]
      exact hS2
    refine wpAny_pure ⟨plainId_quiet F.plain_set_update_loop _, ih (i + 1) _ (by omega) hlt (W.frame _ s' _ _ hst' (Nat.le_succ _) fun b hb o e => ?_) hSi fun s'' hm'' hS'' => ?_⟩
    · rw [hsb.2 b (fun h : b = S => hSf (by rw [← h]; exact hb))]; exact e
    · refine hR s'' (Moved.trans W.gtrans ((hm.mono hsub).then_heap (Nat.le_succ _) fun b o hb e => ?_) hm'') hS''
      rw [hsb.2 b (fun h : b = S => hb (by rw [h]; exact List.mem_cons_self))]; exact e
end
end PV
namespace PV
open PySem PySem.Spec PyProof.Rows L2
theorem strs_take {its : List Value} {ys : List Str} (h : StrsAre its ys) : ∀ (i : Nat) (v : Value), its[i]? = some v → ∃ y t, ys[i]? = some y ∧ v = .str y t := by
  induction h with
  | nil => intro i v h; simp at h
  | cons y t r ih =>
    intro i v h
    cases i with
    | zero => simp at h; exact ⟨y, t, rfl, h.symm⟩
    | succ i => exact ih i v (by simpa using h)
section
variable {P : Program} {w : World} {A : Around} {E : Value → Shared → Prop} {s : Shared}
theorem code_set_led1 (x : Value) {Q₁ : Value → Shared → Prop}
    (h : Q₁ (.ref s.heap.objs.size) { s with heap := s.heap.push { cls := .type "set", dict := none, data := .set #[] 0 (.fresh 0 0 (!w.params.followText "set-order")) } }) :
    codeAny (model P w) A (.call (.builtin "set.__new__") ⟨[.type "set", x], []⟩) (wants Q₁ E) s := by
  refine codeAny_of_tree ?_
  show wpAny _ A.in1 (do checkBuiltinCall "set.__new__" ⟨[.type "set", x], []⟩; again (.builtin "set.__new__" ⟨[.type "set", x], []⟩)) _ _ s
  refine wpAny_bind (wpAny_of_eq (F.newCall_set_1 x) (wpAny_pure ⟨plainId_quiet F.plain_set_new _, codeAny_builtin F.entry_set_new ?_⟩))
  rw [Around.under_plainId F.plain_set_new _]
  unfold Builtin.«set.__new__» Builtin.Frozenset.newClass
  have hsub := sub_set_self
  obtain ⟨hp, g, d, tk, os⟩ := s
  dsimp only
  wp_walk
  refine wpAny_askSetting (wpAny_pure ?_)
  dsimp only
  simp only [newObj]
  refine wpAny_bind (wpAny_alloc (wpAny_pure ?_))
  exact wpAny_pure h
theorem setT_fresh {h : Heap} (w : World) : SetT w (h.push { cls := .type "set", dict := none, data := .set #[] 0 (.fresh 0 0 (!w.params.followText "set-order")) }) h.objs.size [] :=
  ⟨_, #[], 0, _, Heap.get?_push_size _ rfl, ⟨rfl, rfl, rfl⟩, rfl, (fun e he => by simp at he), List.nodup_nil, (by simp), (by decide), (by rfl), List.Pairwise.nil, by
    show _ ∨ (!w.params.followText "set-order") = true
    cases w.params.followText "set-order"
    · exact .inr rfl
    · exact .inl rfl⟩
set_option maxHeartbeats 3200000 in
theorem call_setT {l : Addr} {items : Array Value} {ys : List Str} {Q : Value → Shared → Prop}
    (hh : A.handled = none) (hl : s.heap.IsList l items) (hi : StrsAre items.toList ys) (hb : items.size + 1 < scanBound)
    (h : ∀ (h' : Heap) (tk : Nat), SetT w h' s.heap.objs.size (ys.foldl insT []) →
      (∀ b o, b < s.heap.objs.size → s.heap.get? b = some o → h'.get? b = some o) → Q (.ref s.heap.objs.size) { s with heap := h', toks := tk }) :
    wpAny (model P w) A (call (.type "set") [.ref l]) Q E s := by
  obtain ⟨c, tl, hmro⟩ := F.called_set.mro
  have hmade := F.called_set.made
  have hsub := F.called_set.sub
  refine wpAny_call (codeAny_of_tree ?_)
  show wpAny _ _ (callAny (.type "set") _) _ _ _
  refine wpAny_pure ⟨Code.quiet_builtin _ (by decide +kernel), codeAny_builtin F.entry_type_call ?_⟩
  rw [Around.under_plain (weight_type_call_type "set" [.ref l] []) rfl]
  have h1 := F.called_set.notType
  have h2 := F.called_set.canCreate
  have hct := F.typeCall_set_1 (.ref l)
  repeat (any_goals (first | assumption | wp_step))
  refine codeAny_mono (code_set_led1 (.ref l) (E := E) (Q₁ := fun obj s₁ => obj = .ref s.heap.objs.size ∧ s₁ = { s with heap := s.heap.push { cls := .type "set", dict := none, data := .set #[] 0 (.fresh 0 0 (!w.params.followText "set-order")) } }) ⟨rfl, rfl⟩) fun r s₁ hr => ?_
  have hfresh := setT_fresh (h := s.heap) w
  generalize (!w.params.followText "set-order") = led at hr hfresh
  cases r with
  | error e => exact hr
  | ok fl =>
    cases fl with
    | ret obj =>
      obtain ⟨rfl, rfl⟩ := hr
      have hS : (s.heap.push { cls := .type "set", dict := none, data := .set #[] 0 (.fresh 0 0 led) }).get? s.heap.objs.size = some { cls := .type "set", dict := none, data := .set #[] 0 (.fresh 0 0 led) } := Heap.get?_push_size _ rfl
      have hT : Shared.TypeIs { s with heap := s.heap.push { cls := .type "set", dict := none, data := .set #[] 0 (.fresh 0 0 led) } } (.ref s.heap.objs.size) "set" := ⟨_, hS, rfl⟩
      have hli := F.called_set.init.lookup
      have hbi := F.called_set.init.bind (.ref s.heap.objs.size)
      repeat (any_goals (first | assumption | wp_step))
      refine codeAny_mono (codeAny_call_builtin (R := wants (fun r s₂ => r = .none ∧ ∃ h' tk, s₂ = { s with heap := h', toks := tk } ∧
          SetT w h' s.heap.objs.size (ys.foldl insT []) ∧
          (∀ b o, b < s.heap.objs.size → s.heap.get? b = some o → h'.get? b = some o)) E) F.called_set.init.plain F.entry_set_init (check_set_init_1 hT ?_)) fun r₂ s₂ hr₂ => ?_
      · obtain ⟨ol, hol, hcl, nl, hdl⟩ := hl
        obtain ⟨ocls, odict, odata, oslots⟩ := ol
        simp only at hcl hdl
        subst hcl; subst hdl
        have hol' : (s.heap.push { cls := .type "set", dict := none, data := .set #[] 0 (.fresh 0 0 led) }).get? l = some { cls := .type "list", dict := odict, data := .seq items nl, slots := oslots } := Heap.get?_push_of_some _ hol
        have hsls := F.sub_list_set
        have hslf := F.sub_list_frozenset
        have hne : (Value.type "list" == Value.type "dict") = false := by decide
        have hl1 : (s.heap.push { cls := .type "set", dict := none, data := .set #[] 0 (.fresh 0 0 led) }).IsList l items := ⟨_, hol', rfl, nl, rfl⟩
        unfold Builtin.«set.__init__» noKeywords Builtin.Frozenset.updateFrom
        generalize hPI : pyIter = PI
        wp_walk
        subst hPI
        refine wpAny_pyIter_list hl1 ?_
        refine wpAny_bind (wpAny_runValue ?_)
        have hlS : l < s.heap.objs.size := Heap.lt_size hol
        have hh3 : A.in1.in1.in1.handled = none := by simp [hh]
        have hneI : l ≠ (s.heap.push { cls := .type "set", dict := none, data := .set #[] 0 (.fresh 0 0 led) }).objs.size := by
          rw [Heap.size_push]; exact Nat.ne_of_lt (Nat.lt_succ_of_lt hlS)
        have hSf : s.heap.objs.size ∉ [(s.heap.push { cls := .type "set", dict := none, data := .set #[] 0 (.fresh 0 0 led) }).objs.size, l] := by
          rw [Heap.size_push]; simp only [List.mem_cons, List.mem_singleton, List.not_mem_nil, or_false, not_or]
          exact ⟨Nat.ne_of_lt (Nat.lt_succ_self _), Nat.ne_of_gt hlS⟩
        have hlen : ys.length = items.size := by rw [← hi.length, Array.length_toList]
        have hval : ∀ (i : Nat) (v : Value), items[i]? = some v → ∃ y t, ys[i]? = some y ∧ v = .str y t := fun i v hv => strs_take hi i v (by rw [Array.getElem?_toList]; exact hv)
        refine set_update_loopT ((Walks.list hh3 _ l hneI items).toS) s.heap.objs.size
          hSf ys hlen hval hb (items.size - 0) 0 _ (by omega) (Nat.zero_le _)
          ⟨⟨_, Heap.get?_push_size _ rfl, rfl, rfl⟩, (hl1.push _)⟩ ?hS0 ?hR
        case hS0 =>
          exact hfresh.at fun o e => Heap.get?_push_of_some _ e
        case hR =>
          intro s' hm hS'
          obtain ⟨h', g', d', tk', os'⟩ := s'
          have eg : g' = s.gens := hm.gens
          have ed : d' = s.drawn := hm.drawn
          have eo : os' = s.os := hm.os
          subst eg; subst ed; subst eo
          show wpAny _ _ _ _ _ _
          refine wpAny_pure ?_
          show wpAny _ _ (ret Value.none) _ _ _
          refine wpAny_pure ⟨rfl, h', tk', rfl, hS', fun b o hb e => ?_⟩
          have hb1 : b ≠ s.heap.objs.size := Nat.ne_of_lt hb
          have hb2 : b ≠ (s.heap.push { cls := .type "set", dict := none, data := .set #[] 0 (.fresh 0 0 led) }).objs.size := by
            rw [Heap.size_push]; exact Nat.ne_of_lt (Nat.lt_succ_of_lt hb)
          exact hm.heap b o (by simp only [List.mem_cons, List.mem_singleton, List.not_mem_nil, or_false, not_or]; exact ⟨hb1, hb2⟩) (Heap.get?_push_of_some _ (Heap.get?_push_of_some _ e))
      · cases r₂ with
        | error e => exact hr₂
        | ok fl₂ =>
          cases fl₂ with
          | ret r =>
            obtain ⟨rfl, h', tk, rfl, hS', hk'⟩ := hr₂
            repeat (any_goals (first | assumption | wp_step))
            exact h _ _ hS' hk'
          | _ => exact hr₂.elim
    | _ => exact hr.elim
/-! ### sorted -/
theorem strsT_of : ∀ (l : List Value), (∀ v ∈ l, ∃ k tk, v = Value.str k tk) → ∃ ks, StrsAre l ks ∧ l.map (fun v => keyT (0, v)) = ks
  | [], _ => ⟨[], .nil, rfl⟩
  | v :: l, h => by
    obtain ⟨k, tk, rfl⟩ := h v List.mem_cons_self
    obtain ⟨ks, e1, e2⟩ := strsT_of l fun u hu => h u (List.mem_cons_of_mem _ hu)
    exact ⟨k :: ks, .cons k tk e1, by rw [List.map_cons, e2]; rfl⟩
theorem sorted_setT {a : Addr} {l : List Str} {Q : Value → Shared → Prop} (R : SetT w s.heap a l) (hh : A.handled = none) (h64 : l.length < 64)
    (hQ : ∀ s' p (out : Array Value) (c : Nat) (ys : List Str), (∀ b o, s.heap.get? b = some o → s'.heap.get? b = some o) → s'.gens = s.gens → s'.os = s.os → s.heap.objs.size ≤ p →
      s'.heap.get? p = some (seqObj "list" out c) → StrsAre out.toList ys → ys.Perm l → sortedS ys = true → Q (.ref p) s') :
    wpAny (model P w) A (call (.builtin "sorted") [.ref a]) Q E s := by
  obtain ⟨o, es, ep, t, ho, hex, hd, g, nd, hm, hb, hf, hr, hl⟩ := R
  refine Calls.call_function_entry kind_sorted plain_sorted entry_sorted (args_sorted1 _) ?_
  unfold Builtin.«sorted»
  refine wpAny_bind (m := checkCount "sorted" 1 1 _) (wpAny_pure ?_)
  refine wpAny_bind (collect_set (A := A.in1) hh ⟨o, ho, hex.1, hd⟩ hf hb hr hl fun s1 vs k1 hz g1 o1 pm => ?_)
  have hesl : es.size = l.length := by rw [← Array.length_toList, ← List.length_map (f := keyT), hm.length_eq]
  have hvl : vs.length = l.length := by rw [pm.length_eq, List.length_map, Array.length_toList]; exact hesl
  obtain ⟨ks, hS, ek⟩ := strsT_of vs fun v hv => by
    obtain ⟨e, he, q⟩ := List.mem_map.mp (pm.mem_iff.mp hv)
    obtain ⟨k, tk, h1, _⟩ := g e he
    exact ⟨k, tk, by rw [← q]; exact h1⟩
  have pk : ks.Perm l := by
    have q := pm.map (fun v => keyT (0, v))
    rw [List.map_map, ek] at q
    exact q.trans hm
  refine wpAny_bind (wpAny_newList ?_ (by rw [hvl, sizeLine_eq]; omega))
  have hoL : (s1.heap.push (seqObj "list" vs.toArray 0)).get? s1.heap.objs.size = some (seqObj "list" vs.toArray 0) := Heap.get?_push_size _ rfl
  refine wpAny_bind (wpAny_holding (wpAny_call_entry slot_list_sort ⟨_, hoL, rfl⟩ entry_list_sort
    (list_sort_treeK strKind_oneLt (s := { s1 with heap := s1.heap.push (seqObj "list" vs.toArray 0) }) hoL hS.keysOf (fun v₁ v₂ rest e => keyKind_strs (by rw [← e]; exact hS)) (by rw [hvl]; exact h64) fun st' hp hs => ⟨_, rfl, ?_⟩)
    (args_list_sort _)))
  obtain ⟨ys, q1, q2, q3⟩ := sorted_out_str hS hp hs
  obtain ⟨c, hc⟩ := sortedHeap_at (vs := vs) (out := (arrOf st').map (·.2)) hoL
  refine wpAny_pure ⟨_, rfl, hQ _ s1.heap.objs.size ((arrOf st').map (·.2)) c ys (fun b u e => ?_) g1 o1 hz hc q1 (q2.trans pk) q3⟩
  have q := k1 b u e
  have hlt := Heap.lt_size q
  show (sortedHeap (s1.heap.push (seqObj "list" vs.toArray 0)) s1.heap.objs.size vs ((arrOf st').map (·.2))).get? b = some u
  rw [sortedHeap_old (Nat.ne_of_lt hlt) (by rw [size_push']; exact Nat.lt_succ_of_lt hlt)]
  exact Heap.get?_push_of_some _ q
end
end PV

set_option Elab.async false
set_option linter.all false
set_option maxRecDepth 100000
set_option maxHeartbeats 1000000
/-! PvZR: xs.count(y) of texts; sorted(set(texts)); for x in (new lists): x.append((a, b)). -/
namespace PV
open PySem L2
/-! ### count -/
section
variable {M : Nm} {H0 : Hp} {T : Tb}
def rCntP (M : Nm) : V → List V → Hp → VK → Prop := fun x xs H Q => ∃ F d y dy j, xs = [y] ∧ Le F H ∧ RT M F H d x ∧ RT M F H dy y ∧ oCount d dy = some (.f (.int j)) ∧ Q (.int j) H
theorem oCount_int {d e : D} {r : Val} (h : oCount d e = some r) : ∃ j : Nat, r = .f (.int j) := by
  unfold oCount at h
  split at h
  · obtain ⟨ps, e1, h⟩ := Option.bind_eq_some_iff.1 h
    cases h
    exact ⟨_, rfl⟩
  · cases h
theorem i_lcn {a b : CE} {σ : L2.St} {H : Hp} {Q : VK} (h : tE M H0 WN T (.lcn a b) σ H Q) : tBM M.K "list" (rCntP M) (tE M H0 WN T a) (tCons (tE M H0 WN T b) tNil) σ H Q := by
  obtain ⟨F, ρ, R, p⟩ := h
  simp only [ev] at p
  refine ⟨F, ρ, R, Post.bind p fun x ρ1 v F1 H1 R1 S1 E1 V1 p1 => ?_⟩
  split at p1
  · rename_i xs hx
    have r1 := V1.1.rt R1 hx
    obtain ⟨l, vs, rfl, g1, g2⟩ := r1.lst R1.sub
    refine ⟨.inl ⟨rfl, vs, g1⟩, ?_⟩
    refine ⟨F1, ρ1, R1, ?_⟩
    refine Post.bind2 p1 S1 E1 fun y ρ2 w F2 H2 R2 S2 E2 V2 p2 => ?_
    have vx := V1.1.step S2 E2
    cases k1 : rd ρ2 x with
    | none => simp only [k1] at p2; exact p2.elim
    | some d =>
      cases k2 : rd ρ2 y with
      | none => simp only [k1, k2] at p2; exact p2.elim
      | some e =>
        simp only [k1, k2] at p2
        cases k3 : oCount d e with
        | none => rw [k3] at p2; exact p2.elim
        | some r =>
          rw [k3] at p2
          obtain ⟨j, rfl⟩ := oCount_int k3
          refine ⟨F2, d, w, e, j, rfl, R2.sub, vx.rt R2 k1, V2.1.rt R2 k2, k3, ?_⟩
          exact p2 (.int j) F2 H2 R2 (S1.trans S2) (E1.trans E2) ⟨rfl, fun _ _ z => by cases z⟩
  · exact p1.elim
end
theorem countP_strs (k : Str) : ∀ {vs : List Value} {ys : List Str}, PyProof.Rows.StrsAre vs ys → vs.countP (PyProof.Rows.isStrOf k) = (ys.filter fun x => x == k).length
  | _, _, .nil => rfl
  | _, _, .cons n u h => by
    rw [List.countP_cons, countP_strs k h, List.filter_cons]
    simp only [PyProof.Rows.isStrOf]
    by_cases e : (n == k) = true
    · simp [e]
    · simp [e]
section
variable {X : Cx} {M : Nm} {H0 : Hp} {T : Tb}
theorem mt_cntP (hk : X.K = M.K) : MtR X "list.count" (rCntP M) := by
  intro pins s σ H x xs v us Q I rx rxs h
  obtain ⟨F, d, y, dy, j, rfl, le, rd1, rd2, he, q⟩ := h
  cases rxs with
  | cons ry rt =>
    rename_i uy ut
    cases rt
    cases d with
    | lst dl =>
      cases dy with
      | str k =>
        obtain ⟨ys, e1, h2⟩ := Option.bind_eq_some_iff.1 he
        cases h2
        obtain ⟨a, vs, rfl, g1, g2⟩ := rd1.lst le
        cases rx
        rw [rd2.str] at ry
        obtain ⟨t, rfl⟩ := ry
        rw [g2.strs e1, ← hk] at g1
        obtain ⟨its, rv, ⟨⟨cls, dd, data, sl⟩, n, ho, hc, hdn, hd⟩, hlen⟩ := I.list g1
        simp only at hc hd
        subst hc hd
        have hi := rv.strs
        refine call_meets PySem.F.slot_list_count ⟨_, ho, rfl⟩ PySem.F.entry_list_count (PySem.F.args_list_count_2 _ _)
          (SeqAt.list_countAt a its.toArray n dd sl (.str k t) (PyProof.Rows.isStrOf k)) ⟨ho, fun y hy => (PyProof.Rows.eq_isStrOf k t hi y (by simpa using hy)).at _ _, ?_⟩
        have ec : its.toArray.toList.countP (PyProof.Rows.isStrOf k) = (ys.filter fun x => x == k).length := countP_strs k hi
        refine ⟨.int ((ys.filter fun x => x == k).length : Nat), H, I.tok _, ⟨s.toks, ?_⟩, q⟩
        show Value.int ((its.toArray.toList.countP (PyProof.Rows.isStrOf k) : Nat) : Int) s.toks = _
        rw [ec]
      | _ => cases he
    | _ => cases he
theorem k_lcn (k : Ok X M) {o e : Expr} {co ce : CE} {apos cpos : Pos} (ho : PE X o (tE M H0 WN T co)) (he : PE X e (tE M H0 WN T ce))
    (hbase : attributeBase o "count" X.env (eval o X.env) = eval o X.env := by rfl)
    (hfew : ((backTo cpos (starEach [e] X.env)).all (fun x => !x.1) && (backToKw cpos (keywordEach [] X.env)).all (fun x => x.1.isSome)
      && decide (([e] : List Expr).length + ([] : List Keyword).length + (if ([] : List Keyword).isEmpty then 0 else 1) < 30)) = true := by rfl)
    (hline : (apos.endLine == cpos.line) = true := by rfl) (hs2 : starEach [e] X.env = (false, eval e X.env) :: starEach [] X.env := by rfl) (hplain : (backTo cpos (starEach [] X.env)).any (·.1) = false := by rfl) :
    PE X (.Call (.Attribute o "count" apos) [e] [] cpos) (tE M H0 WN T (.lcn co ce)) :=
  PE.imp (pe_bm PySem.F.plainAttrs_list PySem.F.slot_list_count PySem.F.type_list_count (mt_cntP k.hk) ho (pa_cons he pa_nil hs2) hbase hfew hline hs2 hplain) fun _ _ _ h => by rw [k.hk]; exact i_lcn h
end
/-! ### sorted(set(xs)) -/
theorem foldT_nodup : ∀ {ys l : List Str}, l.Nodup → (ys.foldl insT l).Nodup
  | [], _, h => h
  | y :: ys, _, h => foldT_nodup (ys := ys) (insT_nodup h y)
theorem insT_mem {l : List Str} {k x : Str} : x ∈ insT l k ↔ x ∈ l ∨ x = k := by
  unfold insT
  split
  · rename_i h
    exact ⟨.inl, fun z => z.elim id fun e => e ▸ h⟩
  · rw [List.mem_cons]; exact Or.comm
theorem foldT_mem : ∀ {ys l : List Str} {x : Str}, x ∈ ys.foldl insT l ↔ x ∈ l ∨ x ∈ ys
  | [], _, _ => by simp
  | y :: ys, l, x => by
    rw [List.foldl_cons, foldT_mem (ys := ys), insT_mem, List.mem_cons, or_assoc]
theorem dedup_mem : ∀ {ys : List Str} {x : Str}, x ∈ dedup ys ↔ x ∈ ys
  | [], _ => Iff.rfl
  | y :: r, x => by
    unfold dedup
    split
    · rename_i h
      rw [dedup_mem (ys := r), List.mem_cons]
      obtain ⟨z, hz, e⟩ := List.any_eq_true.1 h
      have e : z = y := by simpa using e
      exact ⟨.inr, fun w => w.elim (fun q => by rw [q, ← e]; exact dedup_mem.1 hz) id⟩
    · rw [List.mem_cons, List.mem_cons, dedup_mem (ys := r)]
theorem dedup_nodup : ∀ {ys : List Str}, (dedup ys).Nodup
  | [] => List.nodup_nil
  | y :: r => by
    unfold dedup
    split
    · exact dedup_nodup
    · rename_i h
      refine List.nodup_cons.2 ⟨fun z => h (List.any_eq_true.2 ⟨y, z, by simp⟩), dedup_nodup⟩
theorem foldT_perm (ys : List Str) : (ys.foldl insT []).Perm (dedup ys) :=
  (List.perm_ext_iff_of_nodup (foldT_nodup List.nodup_nil) dedup_nodup).2 fun x => by rw [foldT_mem, dedup_mem]; simp
/-- the set of texts at a -/
def TSetO (w : World) (a : Addr) (l : List Str) : HO := .ext fun h => SetT w h a l
section
variable {X : Cx} {M : Nm} {H0 : Hp} {T : Tb} {W : WX}
theorem tsetO_new {w : World} {P : Program} {H : Hp} {h : Heap} {a : Addr} {l : List Str} (R : SetT w h a l) : ObjOk P w H h a (TSetO w a l) := by
  have ⟨o, _, _, _, ho, _⟩ := R
  exact ⟨R, ⟨o, ho⟩, fun h1 h2 p k => SetT.at p k⟩
theorem tsetO_get {pins : List (Addr × Obj)} {σ : L2.St} {H : Hp} {s : Shared} {a : Addr} {l : List Str} (I : Inv X pins σ H s) (ha : H a = some (TSetO X.w a l)) : SetT X.w s.heap a l := (I.hok a _ ha).1
def rSetT (K : PySem.W.Frag) (w : World) : List V → Hp → VK → Prop := fun xs H Q => ∃ (l : Addr) (ys : List Str), xs = [V.ref l] ∧ SqL K H l (ys.map V.str) ∧ ys.length + 1 < scanBound ∧ ∀ p, H p = none → Q (.ref p) (upd H p (TSetO w p (ys.foldl insT [])))
theorem cr_setT (hc : X.calm = true) : CallR X (.type "set") (rSetT X.K X.w) := by
  intro pins s σ H xs us Q I r h
  obtain ⟨l, ys, rfl, hs, hb, q⟩ := h
  obtain ⟨its, rv, p, _⟩ := I.list hs
  rw [Vals.ref1 r]
  have hlen := rv.length
  rw [List.length_map] at hlen
  refine call_setT (I.ok.hd hc) p.isList rv.strs (by rw [List.size_toArray, ← hlen]; exact hb) fun h' tk R k => ?_
  exact ⟨.ref _, upd H s.heap.objs.size (TSetO X.w s.heap.objs.size (ys.foldl insT [])), I.laid (t' := tk) (fun b u e => k b u (Heap.lt_size e) e) (Nat.le_refl _) (tsetO_new R), rfl, q _ (I.hok.fresh (Nat.le_refl _))⟩
def rSortT (w : World) : List V → Hp → VK → Prop := fun vs H Q => ∃ (a : Addr) (l : List Str), vs = [V.ref a] ∧ H a = some (TSetO w a l) ∧ l.length < 64 ∧
  ∀ (ys : List Str) (p : Addr), ys.Perm l → PyProof.Rows.sortedS ys = true → H p = none → Q (.ref p) (upd H p (.lst (ys.map V.str)))
theorem cr_sortT (hc : X.calm = true) : CallR X (.builtin "sorted") (rSortT X.w) := by
  intro pins s σ H vs us Q I r h
  obtain ⟨a, l, rfl, ha, h64, q⟩ := h
  have R := tsetO_get I ha
  rw [Vals.ref1 r]
  refine sorted_setT R (I.ok.hd hc) h64 fun s' p out c ys k g o hp hg hi pm so => ?_
  have hlen : (ys.map V.str).length ≤ sizeLine := by rw [List.length_map, pm.length_eq, sizeLine_eq]; omega
  have hn : H p = none := I.hok.fresh hp
  have J : Inv X pins σ (upd H p (.lst (ys.map V.str))) { s with heap := s'.heap, gens := s'.gens, drawn := s'.drawn, toks := s'.toks } :=
    I.call (ch := []) (Un.laid k hp hn) (I.hok.laid k hp ⟨hlen, out.toList, c, vals_of_strs hi, hg⟩) (by rw [g]; exact I.bare) (fun _ z => nomatch z)
  have e : s' = { s with heap := s'.heap, gens := s'.gens, drawn := s'.drawn, toks := s'.toks } := by
    cases s'
    cases s
    cases o
    rfl
  rw [e]
  exact ⟨.ref p, _, J, rfl, q ys p pm so hn⟩
def sL : List D → Option D
  | [.lst xs] => (strsOf xs).bind fun ys => if ys.length ≤ 4000 ∧ (dedup ys).length < 64 then some (.lst ((sortStr (dedup ys)).map .str)) else none
  | _ => none
theorem sL_op : ∀ ds, opD .sset ds = (sL ds).map .n
  | [] => rfl
  | [a] => by
    cases a with
    | lst xs =>
      show ((strsOf xs).bind fun ys => if ys.length ≤ 4000 ∧ (dedup ys).length < 64 then nD (.lst ((sortStr (dedup ys)).map .str)) else none) = Option.map Val.n ((strsOf xs).bind fun ys => if ys.length ≤ 4000 ∧ (dedup ys).length < 64 then some (.lst ((sortStr (dedup ys)).map .str)) else none)
      generalize strsOf xs = z
      cases z with
      | none => rfl
      | some ys =>
        simp only [Option.bind_some]
        by_cases c : ys.length ≤ 4000 ∧ (dedup ys).length < 64
        · rw [if_pos c, if_pos c]; rfl
        · rw [if_neg c, if_neg c]; rfl
    | _ => rfl
  | a :: b :: r => by cases a <;> rfl
theorem k_sset {e : Expr} {ce : CE} {p1 p2 q1 q2 : Pos} (k : Ok X M) (hmS : X.mg "sorted" = none) (hmT : X.mg "set" = none) (he : PE X e (tE M H0 W T ce)) (hgS : Gl X "sorted" := by rfl) (hgT : Gl X "set" := by rfl)
    (hs0 : starEach [e] X.env = (false, eval e X.env) :: starEach [] X.env := by rfl) (hpl0 : (backTo q2 (starEach [] X.env)).any (·.1) = false := by rfl)
    (hs1 : starEach [.Call (.Name "set" p2) [e] [] q2] X.env = (false, eval (.Call (.Name "set" p2) [e] [] q2) X.env) :: starEach [] X.env := by rfl) (hpl1 : (backTo q1 (starEach [] X.env)).any (·.1) = false := by rfl) :
    PE X (.Call (.Name "sorted" p1) [.Call (.Name "set" p2) [e] [] q2] [] q1) (tE M H0 W T (.op .sset (.cons ce .nil))) := by
  refine PE.imp (pe_callB (cr_sortT k.hc) hgS hmS (by rfl) (pa_cons (pe_callTy (cr_setT k.hc) hgT hmT (by rfl) (k_cons he k_nil hs0) (by decide) (by decide) hs0 hpl0) pa_nil hs1) (by decide) (by decide) hs1 hpl1) fun σ H Q h => ?_
  refine tA_mono (i_opG sL_op h) ?_
  rintro vs H1 ⟨F, ds, r, le, pr, hg, q⟩
  match ds, hg with
  | [.lst xs], hg =>
    obtain ⟨ys, e1, e2⟩ := Option.bind_eq_some_iff.1 hg
    split at e2
    · rename_i c
      cases e2
      obtain _ | ⟨rx, pr⟩ := pr
      obtain _ | _ := pr
      obtain ⟨l, us, rfl, g1, g2⟩ := rx.lst le
      rw [g2.strs e1] at g1
      refine ⟨l, ys, rfl, k.hk ▸ g1, by unfold scanBound; omega, fun p hp => ?_⟩
      refine ⟨p, _, rfl, upd_same, by rw [(foldT_perm ys).length_eq]; exact c.2, fun zs p2 pm so hp2 => ?_⟩
      refine q (.ref p2) (upd F p (TSetO X.w p (ys.foldl insT []))) _ ⟨_, p2, .lst (zs.map V.str), Grw.step p _ (Grw.refl F H1) hp, rfl, hp2, rfl, ?_⟩
      rw [eq_sortStr (pm.trans (foldT_perm ys)) so]
      exact reps_str _
    · cases e2
end
end PV

set_option Elab.async false
set_option linter.all false
set_option maxRecDepth 100000
set_option maxHeartbeats 1000000
/-! PvZS: for x in (new lists): x.append((a, b)). -/
namespace PV
open PySem L2
section
variable {M : Nm} {H0 : Hp} {W : WX} {T : Tb}
/-- a thing that nobody knows changes -/
theorem Rel.mutg {F H : Hp} {σ : L2.St} {ρ : Env} {a : Addr} {o : HO} (R : Rel M H0 F H σ ρ) (fa : F a = none) (na : ¬ OA ρ σ a) (ha : H a ≠ none) : Rel M H0 F (upd H a o) σ ρ := by
  refine ⟨R.sub.mut fa, R.len, R.fz, fun i d z => ?_, R.dist, R.new, fun b z => ?_, R.odr.step (Le.refl F) (MkS.refl F) (HkS.mut fa) fun i ks z => ⟨z, rfl⟩⟩
  · obtain ⟨x, u, h1, h2, h3, h4⟩ := R.ow i d z
    have ne : x ≠ a := by
      rintro rfl
      exact na ⟨i, by rcases z with z | z <;> (rw [z]; trivial), h1⟩
    exact ⟨x, u, h1, h2, by rw [upd_ne ne]; exact h3, h4⟩
  · by_cases e : b = a
    · subst e; rw [upd_same] at z; cases z
    · rw [upd_ne e] at z; exact R.dom b z
theorem Stp.mutg {F H F1 H1 : Hp} {A A1 : Addr → Prop} {a : Addr} {o : HO} (S : Stp F H A F1 H1 A1) (ha : H a = none) : Stp F H A F1 (upd H1 a o) A1 where
  le := S.le
  fr := fun b u e n => by
    have ne : b ≠ a := by rintro rfl; rw [ha] at e; cases e
    rw [upd_ne ne]; exact S.fr b u e n
  dm := fun b z => by
    by_cases e : b = a
    · subst e; exact ha
    · rw [upd_ne e] at z; exact S.dm b z
  nw := S.nw
  ow := S.ow
  mm := S.mm
theorem Rel.setN {F H : Hp} {σ : L2.St} {ρ ρ' : Env} {i : Nat} {v : V} (R : Rel M H0 F H σ ρ) (h : setS ρ i .no = some ρ') :
    Rel M H0 F H (σ.set i (some v)) ρ' ∧ (∀ a, OA ρ' (σ.set i (some v)) a → OA ρ σ a) ∧ PWk ρ σ ρ' (σ.set i (some v)) := by
  obtain ⟨rfl, hi, hp⟩ := setS_some h
  have hs : i < σ.length := by rw [R.len]; exact hi
  have at' : ∀ j, slotAt (ρ.set i .no) j = if j = i then .no else slotAt ρ j := fun j => by
    rw [slotAt_set]; by_cases z : j = i <;> simp [z, hi]
  have own' : ∀ j, IsOwn (slotAt (ρ.set i .no) j) → j ≠ i ∧ IsOwn (slotAt ρ j) := fun j z => by
    rw [at'] at z
    by_cases w : j = i
    · rw [if_pos w] at z; exact z.elim
    · rw [if_neg w] at z; exact ⟨w, z⟩
  have ne : ∀ {j : Nat}, j ≠ i → (σ.set i (some v))[j]? = σ[j]? := fun {j} z => List.getElem?_set_ne (Ne.symm z)
  refine ⟨⟨R.sub, by simp [R.len], fun j e z => ?_, fun j e z => ?_, fun j k a z w y y' => ?_, fun j e a z y => ?_, R.dom, R.odr.step (Le.refl F) (MkS.refl F) (HkS.refl F H) fun j ks z => ⟨(od_set (fun _ y => by cases y) z).1, ne ((od_set (fun _ y => by cases y) z).2 hi)⟩⟩, fun a ⟨j, z, y⟩ => ?_, fun j e z => ?_⟩
  · rw [at'] at z
    by_cases w : j = i
    · rw [if_pos w] at z; cases z
    · rw [if_neg w] at z; rw [ne w]; exact R.fz j e z
  · rw [at'] at z
    by_cases w : j = i
    · rw [if_pos w] at z; rcases z with z | z <;> cases z
    · rw [if_neg w] at z; rw [ne w]; exact R.ow j e z
  · obtain ⟨z1, z2⟩ := own' j z
    obtain ⟨w1, w2⟩ := own' k w
    rw [ne z1] at y; rw [ne w1] at y'
    exact R.dist j k a z2 w2 y y'
  · rw [at'] at z
    by_cases w : j = i
    · rw [if_pos w] at z; cases z
    · rw [if_neg w] at z; rw [ne w] at y; exact R.new j e a z y
  · obtain ⟨z1, z2⟩ := own' j z
    rw [ne z1] at y
    exact ⟨j, z2, y⟩
  · have w : j ≠ i := by rintro rfl; exact hp e z
    exact ⟨⟨e, by rw [at', if_neg w]; exact z⟩, ne w⟩
theorem newL_at {F H : Hp} {σ : L2.St} {ρ : Env} {v : V} {x : Val} (V1 : VOk M F H σ ρ v x) (n : newL x = true) : ∃ a ws, v = .ref a ∧ F a = none ∧ ¬ OA ρ σ a ∧ H a = some (.lst ws) ∧ ws.length < LIM ∧ ∃ d, x = .n d := by
  cases x with
  | n d =>
    cases d with
    | lst ds =>
      obtain ⟨a, o, rfl, fa, ha, rt, na⟩ := V1
      cases o with
      | lst ws =>
        have e := Reps.length (show Reps M F ds ws from rt)
        have n : ds.length < LIM := by simpa [newL] using n
        exact ⟨a, ws, rfl, fa, na, ha, by omega, _, rfl⟩
      | _ => exact rt.elim
    | _ => cases n
  | _ => cases n
theorem newLs {F H Hs : Hp} {σ : L2.St} {ρ : Env} : ∀ {vs : List V} {xs : List Val}, VsOk M F H σ ρ vs xs → VsNew Hs vs xs → xs.all newL = true →
    ∃ as : List Addr, vs = as.map V.ref ∧ as.Nodup ∧ ∀ a ∈ as, F a = none ∧ ¬ OA ρ σ a ∧ Hs a = none ∧ ∃ ws, H a = some (.lst ws) ∧ ws.length < LIM
  | [], _, _, _, _ => ⟨[], rfl, List.nodup_nil, fun a m => by cases m⟩
  | v :: vs, _, ⟨x, ys, rfl, V1, V2, ds⟩, N, n => by
    rw [List.all_cons, Bool.and_eq_true] at n
    obtain ⟨n1, n2⟩ := N
    obtain ⟨as, rfl, nd, hs⟩ := newLs V2 n2 n.2
    obtain ⟨a, ws, rfl, fa, na, ha, hl, d, ed⟩ := newL_at V1 n.1
    have hl2 := V2.length
    refine ⟨a :: as, rfl, List.nodup_cons.2 ⟨fun m => ?_, nd⟩, fun b m => ?_⟩
    · obtain ⟨i, hi, e⟩ := List.mem_iff_getElem.1 m
      have hi2 : i < ys.length := by rw [← hl2, List.length_map]; exact hi
      have mz : (V.ref a, ys[i]) ∈ (as.map V.ref).zip ys := by
        refine List.mem_iff_getElem.2 ⟨i, by simp; omega, ?_⟩
        rw [List.getElem_zip, List.getElem_map, e]
      have all2 := List.all_eq_true.1 n.2 ys[i] (List.getElem_mem hi2)
      obtain ⟨d', ed'⟩ : ∃ d', ys[i] = .n d' := by
        cases q : ys[i] with
        | n d' => exact ⟨d', rfl⟩
        | _ => rw [q] at all2; cases all2
      exact ds _ _ mz d d' ed ed' rfl
    · rcases List.mem_cons.1 m with rfl | m
      · exact ⟨fa, na, n1 d b ed rfl, ws, ha, hl⟩
      · exact hs b m
theorem i_apt {j : Nat} {es : CEs} {D : Ends} {σ : L2.St} {H : Hp} {tv : TE} {zs : List V} (htv : ∀ (σ : L2.St) (H : Hp) (Q : VK), (∀ p, H p = none → Q (.ref p) (upd H p (.tup zs))) → tv σ H Q) (h : tS M H0 W T (.apt j es) D σ H) :
    tFor (iTup M.K (tTup (tA M H0 W T es))) (gName j) (tSeq (tDrop (tBM M.K "list" rAppend (tVar j) (tCons tv tNil))) tNext) D σ H := by
  obtain ⟨F, ρ, R, p⟩ := h
  simp only [ex] at p
  refine ⟨F, ρ, R, toS_bind p fun xs ρ1 vs F1 H1 R1 S1 E1 V1 p1 => ?_⟩
  have hL := LIM_line
  by_cases c : xs ≠ [] ∧ xs.length ≤ 1000 ∧ xs.all newL = true
  · have p1 : PostS M H0 W F H σ ρ (nxt (setS ρ1 j .no)) D := by
      rw [if_pos c] at p1; exact p1
    obtain ⟨c1, c2, c3⟩ := c
    have lv := V1.1.length
    obtain ⟨as, rfl, nd, has⟩ := newLs V1.1 V1.2 c3
    rw [List.length_map] at lv
    cases hs : setS ρ1 j .no with
    | none => rw [hs] at p1; exact p1.elim
    | some ρ2 =>
      rw [hs] at p1
      have hj : j < σ.length := by rw [R1.len]; exact (setS_some hs).2.1
      have pos : 0 < as.length := by rw [lv]; exact List.length_pos_iff.2 c1
      refine ⟨by rw [List.length_map, sizeLine_eq]; omega, fun pT hpT => ?_⟩
      obtain ⟨R2, S2⟩ := R1.alloc (o := .tup (as.map V.ref)) hpT
      have neT : ∀ a ∈ as, a ≠ pT := fun a m e => by
        obtain ⟨_, _, _, ws, h1, _⟩ := has a m
        rw [e, hpT] at h1; cases h1
      refine ⟨pT, rfl, ⟨_, .inl (.inl upd_same)⟩, ?_⟩
      refine ⟨fun i m σ' H' => m = as.length - i ∧ i ≤ as.length ∧ ((i = 0 ∧ σ' = σ) ∨ (0 < i ∧ ∃ v, σ' = σ.set j (some v))) ∧ Rel M H0 F1 H' σ ρ1 ∧ Stp F H (OA ρ σ) F1 H' (OA ρ1 σ) ∧ H' pT = some (.tup (as.map V.ref)) ∧
        (∀ a ∈ as, ∃ ws, H' a = some (.lst ws)) ∧ ∀ a ∈ as.drop i, ∃ ws, H' a = some (.lst ws) ∧ ws.length < LIM, ⟨as.length, by omega, by omega, .inl ⟨rfl, rfl⟩, R2, S1.trans S2, upd_same, fun a m => ?_, fun a m => ?_⟩, ?_⟩
      · obtain ⟨_, _, _, ws, h1, _⟩ := has a m
        exact ⟨ws, by rw [upd_ne (neT a m)]; exact h1⟩
      · obtain ⟨_, _, _, ws, h1, h2⟩ := has a (by simpa using m)
        exact ⟨ws, by rw [upd_ne (neT a (by simpa using m))]; exact h1, h2⟩
      rintro i m σ' H' ⟨rfl, hi, hσ, R3, S3, hT, hA, hD⟩
      have hq : SqT M.K H' pT (as.map V.ref) := .inl (.inl hT)
      by_cases e : i < as.length
      · right
        have ei : (as.map V.ref)[i]? = some (.ref as[i]) := by rw [List.getElem?_map, List.getElem?_eq_getElem e]; rfl
        refine ⟨⟨_, _, hq, ei⟩, fun σ2 H2 => ∃ m', m' < as.length - i ∧ (m' = as.length - (i + 1) ∧ i + 1 ≤ as.length ∧ ((i + 1 = 0 ∧ σ2 = σ) ∨ (0 < i + 1 ∧ ∃ v, σ2 = σ.set j (some v))) ∧ Rel M H0 F1 H2 σ ρ1 ∧ Stp F H (OA ρ σ) F1 H2 (OA ρ1 σ) ∧ H2 pT = some (.tup (as.map V.ref)) ∧
          (∀ a ∈ as, ∃ ws, H2 a = some (.lst ws)) ∧ ∀ a ∈ as.drop (i + 1), ∃ ws, H2 a = some (.lst ws) ∧ ws.length < LIM), fun _ _ z => z, ?_⟩
        rintro x H'' ⟨rfl, hx⟩
        have ex := hx _ hq
        rw [ei] at ex
        cases ex
        have ma : as[i] ∈ as := List.getElem_mem e
        obtain ⟨fa, na, ha0, _⟩ := has _ ma
        obtain ⟨ws, hw, wl⟩ := hD as[i] (by rw [List.drop_eq_getElem_cons e]; exact List.mem_cons_self)
        have hσ2 : ∃ v, σ'.set j (some (.ref as[i])) = σ.set j (some v) := by
          rcases hσ with ⟨_, rfl⟩ | ⟨_, v, rfl⟩
          · exact ⟨_, rfl⟩
          · exact ⟨.ref as[i], by rw [List.set_set]⟩
        show tBM M.K "list" rAppend (tVar j) (tCons tv tNil) (σ'.set j (some (.ref as[i]))) H'' _
        refine ⟨.ref as[i], ?_, .inl ⟨rfl, ws, .inl (.inl hw)⟩, ?_⟩
        · obtain ⟨v, ev⟩ := hσ2
          have hl : j < σ'.length := by
            rcases hσ with ⟨_, rfl⟩ | ⟨_, v, rfl⟩
            · exact hj
            · simpa using hj
          exact List.getElem?_set_self hl
        refine htv _ _ _ fun q hq2 => ?_
        obtain ⟨R4, S4⟩ := R3.alloc (o := .tup zs) hq2
        have neq : ∀ {b : Addr} {o : HO}, H'' b = some o → b ≠ q := fun {b o} z e => by rw [e, hq2] at z; cases z
        have hw4 : (upd H'' q (.tup zs)) as[i] = some (.lst ws) := by rw [upd_ne (neq hw)]; exact hw
        refine ⟨as[i], ws, .ref q, rfl, rfl, hw4, by omega, ?_⟩
        have na3 : ¬ OA ρ1 σ as[i] := na
        refine ⟨as.length - (i + 1), by omega, rfl, by omega, .inr ⟨by omega, hσ2⟩, R4.mutg fa na3 (by rw [hw4]; simp), (S3.trans S4).mutg ha0, ?_, fun a m => ?_, fun a m => ?_⟩
        · have : pT ≠ as[i] := fun z => neT _ ma z.symm
          rw [upd_ne this, upd_ne (neq hT)]; exact hT
        · by_cases z : a = as[i]
          · subst z; exact ⟨_, upd_same⟩
          · obtain ⟨us, hu⟩ := hA a m
            exact ⟨us, by rw [upd_ne z, upd_ne (neq hu)]; exact hu⟩
        · have z : a ≠ as[i] := by
            rintro rfl
            have := (List.nodup_append.1 (by rw [List.take_append_drop]; exact nd : (as.take (i + 1) ++ as.drop (i + 1)).Nodup)).2.2
            exact this _ (List.mem_take_iff_getElem.2 ⟨i, by omega, rfl⟩) _ m rfl
          obtain ⟨us, hu, ul⟩ := hD a (by rw [List.drop_eq_getElem_cons e]; exact List.mem_cons_of_mem _ m)
          exact ⟨us, by rw [upd_ne z, upd_ne (neq hu)]; exact hu, ul⟩
      · left
        have ie : i = as.length := by omega
        refine ⟨⟨_, hq, by rw [List.length_map]; omega⟩, ?_⟩
        rcases hσ with ⟨z, _⟩ | ⟨_, v, rfl⟩
        · omega
        · obtain ⟨R5, O5, P5⟩ := R3.setN (v := v) hs
          refine nxt_ok p1 ⟨R5, ?_, (E1.pwk).trans P5⟩
          exact (S3.w).trans ⟨Le.refl _, fun b o z _ _ => z, fun b z => z, fun b z z' => absurd z z', fun b z => .inl (O5 b z), fun b x z _ => z⟩
  · rw [if_neg c] at p1
    exact p1.elim
end
section
variable {X : Cx} {M : Nm} {H0 : Hp} {T : Tb} {es : List Expr} {a b : Expr} {cs : CEs} {p1 p2 p3 p4 p5 p6 : Pos} {k1 k2 : Nat}
theorem s_apt {pq : Pos} (k : Ok X M) (hp : PassesOwn (model X.prog X.w) X.A X.env X.xe) {j : Nat} {x : Str} {va vb : V} (hi : X.N[j]? = some x) (hx : Loc X.env.scope x) (hf : X.fn x = true ∨ X.env.scope.names.lookup x = some .local) (hpv : PE X (.Name x p3) (tVar j))
    (he : PA X es (tA M H0 WN T cs)) (ha : PE X a (tC va)) (hb : PE X b (tC vb))
    (hst1 : starEach [a, b] X.env = (false, eval a X.env) :: starEach [b] X.env := by rfl) (hst2 : starEach [b] X.env = (false, eval b X.env) :: starEach [] X.env := by rfl)
    (hs : swapsWith (.Call (.Attribute (.Name x p3) "append" p4) [.Tuple [a, b] k2 p5] [] p6) none p6.line X.env = pure false := by rfl)
    (hbase : attributeBase (.Name x p3) "append" X.env (eval (.Name x p3) X.env) = eval (.Name x p3) X.env := by rfl)
    (hfew : ((backTo p6 (starEach [.Tuple [a, b] k2 p5] X.env)).all (fun x => !x.1) && (backToKw p6 (keywordEach [] X.env)).all (fun x => x.1.isSome)
      && decide (([.Tuple [a, b] k2 p5] : List Expr).length + ([] : List Keyword).length + (if ([] : List Keyword).isEmpty then 0 else 1) < 30)) = true := by rfl)
    (hline : (p4.endLine == p6.line) = true := by rfl) (hs2 : starEach [.Tuple [a, b] k2 p5] X.env = (false, eval (.Tuple [a, b] k2 p5) X.env) :: starEach [] X.env := by rfl) (hplain : (backTo p6 (starEach [] X.env)).any (·.1) = false := by rfl)
    (hs0 : ∀ y, foldedSetIterable (.Tuple es k1 p1) X.env y = pure y := by intro _; rfl) :
    PS X (.For (.Name x p2) (.Tuple es k1 p1) [.Expr (.Call (.Attribute (.Name x p3) "append" p4) [.Tuple [a, b] k2 p5] [] p6) p6] [] pq) (tS M H0 WN T (.apt j cs)) := by
  refine PS.imp (ps_for hp k.hc (pi_tup (pe_tup he)) (pg_name k.hN hi hx hf) (pss_cons (ps_expr (pe_bm PySem.F.plainAttrs_list PySem.F.slot_list_append PySem.F.type_list_append mt_append hpv (pa_cons (pe_tup (pa_cons ha (pa_cons hb pa_nil hst2) hst1)) pa_nil hs2) hbase hfew hline hs2 hplain) hs) pss_nil) hs0) fun D σ H h => ?_
  rw [k.hk]
  refine i_apt (zs := [va, vb]) (fun σ H Q q => ?_) h
  exact ⟨by show 2 ≤ sizeLine; rw [sizeLine_eq]; decide, q⟩
end
end PV

set_option Elab.async false
set_option linter.all false
set_option maxRecDepth 100000
set_option maxHeartbeats 1000000
/-! PvZT: enumerate over a list that the caller keeps: as it is at each turn. -/
namespace PV
open PySem L2
section
variable {M : Nm} {H0 : Hp} {W : WX} {T : Tb}
theorem i_eachE {K : PySem.W.Frag} {t : CT} {i : Nat} {b : CSs} {D : Ends} {σ : L2.St} {F H : Hp} {ρ : Env} {d : PV.D} (R : Rel M H0 F H σ ρ) (hp : slotAt ρ i = .pw d)
    (p : PostS M H0 W F H σ ρ (eachE (fun x ρ => match tgt ρ t x with
      | some ρ => exs T b ρ
      | none => .bad) i LIM 0 ρ) D) : tFor (iEn2 K (tCons (tVar i) tNil)) (tG M H0 t) (tSs M H0 W T b) D σ H := by
  obtain ⟨a, o, hs, fa, ha, ro⟩ := R.ow i d (.inr hp)
  have lst : ∀ {F' H' : Hp} {σ' : L2.St} {ρ' : Env}, RelS M H0 F H σ ρ F' H' σ' ρ' → ∀ {xs : List PV.D}, slotAt ρ' i = .pw (.lst xs) → ∃ vs, H' a = some (.lst vs) ∧ Reps M F' xs vs := fun {F' H' σ' ρ'} S {xs} e => by
    obtain ⟨_, e2⟩ := S.2.2 i d hp
    obtain ⟨a', o', hs', _, ha', ro'⟩ := S.1.ow i _ (.inr e)
    rw [e2, hs] at hs'
    cases hs'
    cases o' with
    | lst vs => exact ⟨vs, ha', ro'⟩
    | _ => exact ro'.elim
  have l0 : ∃ xs, d = .lst xs := by
    have p := p
    unfold eachE at p
    rw [hp] at p
    cases d with
    | lst xs => exact ⟨xs, rfl⟩
    | _ => exact p.elim
  obtain ⟨xs0, rfl⟩ := l0
  obtain ⟨vs0, hv0, _⟩ := lst (RelS.refl R) hp
  refine ⟨_, hs, a, vs0, rfl, .inl ⟨.inl (.inl hv0), ?_⟩⟩
  refine ⟨fun k m σ' H' => ∃ F' ρ', RelS M H0 F H σ ρ F' H' σ' ρ' ∧ PostS M H0 W F' H' σ' ρ' (eachE (fun x ρ => match tgt ρ t x with
      | some ρ => exs T b ρ
      | none => .bad) i m k ρ') D, ⟨LIM, F, ρ, RelS.refl R, p⟩, ?_⟩
  rintro k m σ' H' ⟨F', ρ', S, w⟩
  cases m with
  | zero => exact w.elim
  | succ m =>
    unfold eachE at w
    cases hq : slotAt ρ' i with
    | pw e =>
      rw [hq] at w
      cases e with
      | lst xs =>
        obtain ⟨vs, hv, rs⟩ := lst S hq
        dsimp only at w
        cases hx : xs[k]? with
        | none =>
          rw [hx] at w
          refine .inl ⟨⟨vs, .inl (.inl hv), ?_⟩, w σ' F' H' (RelS.refl S.1)⟩
          rw [← rs.length]
          simpa using hx
        | some x =>
          rw [hx] at w
          dsimp only at w
          obtain ⟨v, hvk, rx⟩ := rs.at hx
          refine .inr ⟨⟨vs, v, .inl (.inl hv), hvk⟩, fun σ2 H2 => ∃ F2 ρ2, RelS M H0 F H σ ρ F2 H2 σ2 ρ2 ∧ PostS M H0 W F2 H2 σ2 ρ2 (eachE (fun x ρ => match tgt ρ t x with
            | some ρ => exs T b ρ
            | none => .bad) i m (k + 1) ρ2) D, fun σ2 H2 z => ⟨m, Nat.lt_succ_self m, z⟩, fun y H2 hy => ?_⟩
          obtain ⟨Tt, y, rfl, hT, rfl, hy⟩ := hy
          have : y = v := by
            have := hy vs (.inl (.inl hv))
            rw [hvk] at this
            cases this; rfl
          subst this
          have fT := S.1.sub.d Tt hT
          have op : OpPost M F' H' (.f (.tup [.int (k : Nat), x])) (.ref Tt) (upd F' Tt (.tup [.int (k : Nat), y])) (upd H' Tt (.tup [.int (k : Nat), y])) :=
            ⟨⟨Tt, _, rfl, upd_same, ⟨.int (k : Nat), [y], rfl, rfl, y, [], rfl, Rep.mono (Le.new fT) _ _ rx, rfl⟩⟩, .inr ⟨Tt, _, hT, rfl, rfl⟩⟩
          obtain ⟨R2, S2, r2, _⟩ := OpPost.rel S.1 op
          refine ⟨_, ρ', _, R2, r2, ?_⟩
          cases h2 : tgt ρ' t (.tup [.int (k : Nat), x]) with
          | none => rw [h2] at w; exact w
          | some ρ2 =>
            rw [h2] at w
            intro σ2 R3 O3 P3 _
            have S3 : RelS M H0 F' H' σ' ρ' _ _ σ2 ρ2 := ⟨R3, S2.shrink O3, P3⟩
            refine ⟨_, ρ2, R3, ?_⟩
            dsimp only at w
            cases h3 : exs T b ρ2 with
            | bad => rw [h3] at w; exact w
            | nx ρ3 => rw [h3] at w; exact fun σ3 F3 H3 z => ⟨F3, ρ3, S.trans (S3.trans z), PostS.shift w (S3.trans z)⟩
            | ct ρ3 => rw [h3] at w; exact fun σ3 F3 H3 z => ⟨F3, ρ3, S.trans (S3.trans z), PostS.shift w (S3.trans z)⟩
            | br ρ3 => rw [h3] at w; exact fun σ3 F3 H3 z => w σ3 F3 H3 (S3.trans z)
            | rt v ρ3 => rw [h3] at w; exact fun σ3 v F3 H3 z => w σ3 v F3 H3 (S3.trans z)
            | exc e ρ3 => rw [h3] at w; exact fun c d σ3 F3 H3 z => w c d σ3 F3 H3 (S3.trans z)
      | _ => exact w.elim
    | _ => rw [hq] at w; exact w.elim
theorem i_var {i : Nat} {σ : L2.St} {H : Hp} {Q : VK} (h : tE M H0 W T (.var i) σ H Q) : tVar i σ H Q := by
  obtain ⟨F, ρ, R, p⟩ := h
  simp only [ev] at p
  cases q : slotAt ρ i with
  | no => rw [q] at p; cases p
  | fz d =>
    rw [q] at p
    obtain ⟨v, z1, z2⟩ := R.fz i d q
    exact ⟨v, z1, p v F H R (Stp.refl _ _ _) (ES.refl _) ⟨z2, fun _ _ z => by cases z⟩⟩
  | ow d =>
    rw [q] at p
    obtain ⟨a, o, z1, z2, z3, z4⟩ := R.ow i d (.inl q)
    exact ⟨_, z1, p _ F H R (Stp.refl _ _ _) (ES.refl _) ⟨⟨z1, .inl (by rw [q]; exact True.intro)⟩, fun _ _ z => by cases z⟩⟩
  | pw d =>
    rw [q] at p
    obtain ⟨a, o, z1, z2, z3, z4⟩ := R.ow i d (.inr q)
    exact ⟨_, z1, p _ F H R (Stp.refl _ _ _) (ES.refl _) ⟨⟨z1, .inl (by rw [q]; exact True.intro)⟩, fun _ _ z => by cases z⟩⟩
  | od _ => rw [q] at p; cases p
theorem tFor_mono {wi wi' : TI} {g : TG} {tb : TS} {D : Ends} {σ : L2.St} {H : Hp} (h : ∀ {σ H R}, wi σ H R → wi' σ H R) (q : tFor wi g tb D σ H) : tFor wi' g tb D σ H := h q
theorem i_forE {HX : Hp} {K : PySem.W.Frag} {t : CT} {i : Nat} {b : CSs} {D : Ends} {σ : L2.St} {H : Hp} (hK : K = M.K) (hW : ∀ cls d σ H H', Unl HX H H' → W cls d σ H' → W cls d σ H) (h : tS M H0 W T (.forE t i b) D σ H) :
    tUnl HX (tFor (iEn2 K (tCons (tVar i) tNil)) (tG M H0 t) (tSs M H0 W T b)) D σ H := by
  have h' := h
  obtain ⟨F, ρ, R, p⟩ := h
  simp only [ex] at p
  cases hq : slotAt ρ i with
  | pw d =>
    rw [hq] at p
    refine i_eachE R hq ?_
    dsimp only at p
    generalize eachE (fun x ρ => match tgt ρ t x with
      | some ρ => exs T b ρ
      | none => .bad) i LIM 0 ρ = r at p
    cases r with
    | bad => exact p
    | nx ρ2 => exact fun σ' F' H' z => ⟨H', .inl rfl, p σ' F' H' z⟩
    | br ρ2 => exact fun σ' F' H' z => ⟨H', .inl rfl, p σ' F' H' z⟩
    | ct ρ2 => exact fun σ' F' H' z => ⟨H', .inl rfl, p σ' F' H' z⟩
    | rt x ρ2 => exact fun σ' v F' H' z vo vn => ⟨H', .inl rfl, p σ' v F' H' z vo vn⟩
    | exc e ρ2 => exact p
  | fz d =>
    rw [hq] at p
    cases d with
    | lst xs =>
      dsimp only at p
      have q : tS M H0 W T (.fors t (.enm (.var i)) b) D σ H := by
        refine ⟨F, ρ, R, ?_⟩
        simp only [ex, evI, ev, hq, Out.bind, okD, fr, Out.toS]
        exact p
      refine tFor_mono (fun {σ H R} h => ?_) (i_fors (HX := HX) hW q)
      refine (fun z => z) (show tVar i σ H fun x H1 => _ from ?_)
      obtain ⟨v, z1, F1, d, ds, le, rp, hk, q⟩ := i_var (i_enm h)
      refine ⟨v, z1, ?_⟩
      subst hK
      cases d with
      | lst xs =>
        cases hk
        obtain ⟨l, vs, rfl, r, rs⟩ := rp
        exact ⟨l, vs, rfl, .inl ⟨.inl (le.l _ _ r), q (Ite M.K l) F1 H (.inl ⟨rfl, rfl⟩) (it_enm le r rs)⟩⟩
      | tup xs =>
        cases hk
        obtain ⟨l, vs, rfl, r, rs⟩ := rp
        exact ⟨l, vs, rfl, .inr ⟨.inl (.inl (le.t _ _ r)), q (IteT M.K l) F1 H (.inl ⟨rfl, rfl⟩) (it_enmT le r rs fun H' k => .inl (.inl (k l _ (rd_fz (.inl r) fun x z => by cases z) (le.t _ _ r))))⟩⟩
      | _ => cases hk
    | _ => exact p.elim
  | _ => rw [hq] at p; exact p.elim
end
section
variable {X : Cx} {M : Nm} {T : Tb}
theorem s_forE {W : WX} (k : Ok X M) {iter : Expr} {pos p pos2 tpos : Pos} {elts : List Expr} {kk : Nat} {i : Nat} {body : List Stmt} {t : CT} {c1 : CSs} (hp : PassesOwn (model X.prog X.w) X.A X.env X.xe) (hm : X.mg "enumerate" = none) (hi : PE X iter (tVar i)) (hg : PG X (.Tuple elts kk tpos) (tG M X.H_0 t)) (hb : PSs X body (tSs M X.H_0 W T c1))
    (hl : Gl X "enumerate" := by rfl) (hst : starEach [iter] X.env = [(false, eval iter X.env)] := by rfl)
    (hs : ∀ x, foldedSetIterable (.Call (.Name "enumerate" p) [iter] [] pos) X.env x = pure x := by intro _; rfl) (hU : UnlW X W := by first | exact wn_unl | assumption) :
    PS X (.For (.Tuple elts kk tpos) (.Call (.Name "enumerate" p) [iter] [] pos) body [] pos2) (tS M X.H_0 W T (.forE t i c1)) :=
  PS.imp (ps_unl (ps_for hp k.hc (pi_en2 hl hm (pa_cons hi pa_nil hst) hst) hg hb hs)) fun _ _ _ h => i_forE k.hk hU h
end
end PV

set_option Elab.async false
set_option linter.all false
set_option maxRecDepth 100000
set_option maxHeartbeats 1000000
/-! WpA: what a piece of code comes to, in the form «it ends, and then Q». Rules for simp. -/
namespace PV
open PySem L2
def Out.wp {α : Type} (x : Out α) (Q : α → Env → Prop) : Prop := match x with
  | .ok a ρ => Q a ρ
  | _ => False
structure Kn where
  nx : Env → Prop
  rt : Val → Env → Prop
  br : Env → Prop
  ct : Env → Prop
def SOut.wp (x : SOut) (K : Kn) : Prop := match x with
  | .nx ρ => K.nx ρ
  | .rt v ρ => K.rt v ρ
  | .br ρ => K.br ρ
  | .ct ρ => K.ct ρ
  | _ => False
def FOut.wp (x : FOut) (Q : Val → List Slot → Prop) : Prop := match x with
  | .ok v os => Q v os
  | _ => False
def wO {α : Type} (o : Option α) (F : α → Prop) : Prop := match o with
  | some a => F a
  | none => False
@[irreducible] def wE (T : Tb) (e : CE) (ρ : Env) (Q : Val → Env → Prop) : Prop := (ev T e ρ).wp Q
@[irreducible] def wEs (T : Tb) (es : CEs) (ρ : Env) (Q : List Val → Env → Prop) : Prop := (evs T es ρ).wp Q
@[irreducible] def wA (T : Tb) (es : CEs) (st : List Bool) (ρ : Env) (Q : List D → Env → Prop) : Prop := (evsS T es st ρ).wp Q
@[irreducible] def wI (T : Tb) (it : CI) (ρ : Env) (Q : List D → Env → Prop) : Prop := (evI T it ρ).wp Q
@[irreducible] def wS (T : Tb) (s : CS) (ρ : Env) (K : Kn) : Prop := (ex T s ρ).wp K
@[irreducible] def wSs (T : Tb) (ss : CSs) (ρ : Env) (K : Kn) : Prop := (exs T ss ρ).wp K
/-- a bool value -/
def wB (v : Val) (F : Bool → Prop) : Prop := match v with
  | .f (.bl b) => F b
  | _ => False
/-- a choice -/
def wK (k : Bool) (A B : Prop) : Prop := (k = true → A) ∧ (k = false → B)
/-- a value handed on -/
def wD (v : Val) (ρ : Env) (F : D → Env → Prop) : Prop := wO (fr ρ v) fun p => F p.1 p.2
def wDs (vs : List Val) (ρ : Env) (F : List D → Env → Prop) : Prop := wO (frs ρ vs) fun p => F p.1 p.2
/-- a slot read -/
def wV (s : Slot) (i : Nat) (F : Val → Prop) : Prop := match s with
  | .od _ => False
  | .fz d => F (.f d)
  | .no => False
  | _ => F (.v i)
def npw (s : Slot) : Prop := match s with
  | .pw _ => False
  | _ => True
def notV (v : Val) : Prop := match v with
  | .v _ => False
  | _ => True
theorem notV_f {d : D} : notV (.f d) = True := rfl
theorem notV_n {d : D} : notV (.n d) = True := rfl
theorem notV_t {xs : List (Bool × D)} : notV (.t xs) = True := rfl
/-- the value of an expression that is a call -/
def notE (v : Val) : Prop := match v with
  | .v _ => False
  | .t _ => False
  | _ => True
theorem notE_f {d : D} : notE (.f d) = True := rfl
theorem notE_n {d : D} : notE (.n d) = True := rfl
/-- a call -/
def wC (T : Tb) (f : Nat) (keep : List Bool) (vs : List Val) (ρ : Env) (Q : Val → Env → Prop) : Prop :=
  wO (lend ρ [] keep vs) fun p => (T.fn f p.1).wp fun v os => notE v ∧ Q v (back p.2 vs p.1 os)
/-- a new tuple -/
def wTv (v : Val) (F : List (Bool × D) → Prop) : Prop := match v with
  | .t xs => F xs
  | _ => False
theorem wTv_t {xs : List (Bool × D)} {F : List (Bool × D) → Prop} : wTv (.t xs) F = F xs := rfl
def wCT (T : Tb) (f : Nat) (keep : List Bool) (vs : List Val) (ρ : Env) (Q : List (Bool × D) → Env → Prop) : Prop :=
  wO (lend ρ [] keep vs) fun p => (T.fn f p.1).wp fun v os => wTv v fun xs => Q xs (back p.2 vs p.1 os)
def wNw (v : Val) (os : List Slot) (F : D → List Slot → Prop) : Prop := match v, os with
  | .f .non, .ow d :: os => F d os
  | _, _ => False
theorem wNw_ok {d : D} {os : List Slot} {F : D → List Slot → Prop} : wNw (.f .non) (.ow d :: os) F = F d os := rfl
def wNew (T : Tb) (C : Nat) (keep : List Bool) (vs : List Val) (ρ : Env) (Q : Val → Env → Prop) : Prop :=
  wO (T.mt C mInit) fun f => wO (lend ρ [] keep vs) fun p => (T.fn f (.ow (.obj C []) :: p.1)).wp fun v os => wNw v os fun d os => Q (.n d) (back p.2 vs p.1 os)
section
variable {T : Tb} {α β : Type} {ρ : Env} {Q : Val → Env → Prop} {QL : List Val → Env → Prop} {QD : List D → Env → Prop} {K : Kn} {a b c e : CE} {es : CEs}
theorem wp_bind {γ : Type} {x : Out α} {f : α → Env → Out γ} {Q : γ → Env → Prop} : (x.bind f).wp Q = x.wp fun a ρ => (f a ρ).wp Q := by cases x <;> rfl
theorem wp_lift {o : Option α} {Q : α → Env → Prop} : (lift o ρ).wp Q = wO o fun a => Q a ρ := by cases o <;> rfl
theorem wp_toS {x : Out α} {f : α → Env → SOut} : (x.toS f).wp K = x.wp fun a ρ => (f a ρ).wp K := by cases x <;> rfl
theorem wp_nxt {o : Option Env} : (nxt o).wp K = wO o K.nx := by cases o <;> rfl
theorem wp_truth {v : Val} {f : Bool → Env → Out α} {Q : α → Env → Prop} : (truth v ρ f).wp Q = wB v fun k => (f k ρ).wp Q := by
  cases v with
  | f d => cases d <;> rfl
  | _ => rfl
theorem wp_calm {x : Out α} {Q : α → Env → Prop} : (calm x).wp Q = x.wp Q := by cases x <;> rfl
theorem wp_okD {v : Val} {Q : D → Env → Prop} : (okD v ρ).wp Q = wD v ρ Q := by
  unfold okD wD
  cases fr ρ v <;> rfl
theorem wp_ite {p : Prop} [Decidable p] {x y : Out α} {Q : α → Env → Prop} : (if p then x else y).wp Q = (if p then x.wp Q else y.wp Q) := by split <;> rfl
theorem wp_bad {Q : α → Env → Prop} : (Out.bad : Out α).wp Q = False := rfl
theorem wp_ok {x : α} {Q : α → Env → Prop} : (Out.ok x ρ).wp Q = Q x ρ := rfl
theorem wK_if {k : Bool} {A B : Prop} : (if k = true then A else B) = wK k A B := by
  unfold wK
  cases k <;> simp
theorem wO_some {x : α} {F : α → Prop} : wO (some x) F = F x := rfl
theorem wO_none {F : α → Prop} : wO (none : Option α) F = False := rfl
theorem wO_bind {o : Option α} {g : α → Option β} {F : β → Prop} : wO (o.bind g) F = wO o fun x => wO (g x) F := by cases o <;> rfl
theorem wO_map {o : Option α} {g : α → β} {F : β → Prop} : wO (o.map g) F = wO o fun x => F (g x) := by cases o <;> rfl
theorem wO_ite {p : Prop} [Decidable p] {x : Option α} {F : α → Prop} : wO (if p then x else none) F = (p ∧ wO x F) := by
  split
  · rename_i h; simp [h]
  · rename_i h; simp [h, wO]
theorem wO_imp {o : Option α} {F G : α → Prop} (h : wO o F) (k : ∀ x, F x → G x) : wO o G := by
  cases o with
  | none => exact h
  | some x => exact k x h
theorem Out.imp {x : Out α} {Q Q' : α → Env → Prop} (h : x.wp Q) (k : ∀ a ρ, Q a ρ → Q' a ρ) : x.wp Q' := by
  cases x with
  | ok a ρ => exact k a ρ h
  | _ => exact h
theorem FOut.imp {x : FOut} {Q Q' : Val → List Slot → Prop} (h : x.wp Q) (k : ∀ a ρ, Q a ρ → Q' a ρ) : x.wp Q' := by
  cases x with
  | ok a ρ => exact k a ρ h
  | _ => exact h
theorem FOut.of {x : FOut} {v : Val} {os : List Slot} {Q : Val → List Slot → Prop} (e : x = .ok v os) (h : Q v os) : x.wp Q := by subst e; exact h
theorem FOut.get {x : FOut} {v : Val} {os : List Slot} (h : x.wp fun w os' => w = v ∧ os' = os) : x = .ok v os := by
  cases x with
  | ok a ρ => obtain ⟨rfl, rfl⟩ := h; rfl
  | _ => exact h.elim
structure Kn.Le (K K' : Kn) : Prop where
  nx : ∀ ρ, K.nx ρ → K'.nx ρ
  rt : ∀ v ρ, K.rt v ρ → K'.rt v ρ
  br : ∀ ρ, K.br ρ → K'.br ρ
  ct : ∀ ρ, K.ct ρ → K'.ct ρ
theorem SOut.imp {x : SOut} {K K' : Kn} (h : x.wp K) (k : K.Le K') : x.wp K' := by
  cases x with
  | nx ρ => exact k.nx ρ h
  | rt v ρ => exact k.rt v ρ h
  | br ρ => exact k.br ρ h
  | ct ρ => exact k.ct ρ h
  | _ => exact h
theorem wE_imp {Q' : Val → Env → Prop} (h : wE T e ρ Q) (k : ∀ a ρ, Q a ρ → Q' a ρ) : wE T e ρ Q' := by
  unfold wE at h ⊢
  exact Out.imp h k
theorem wSs_imp {K' : Kn} {ss : CSs} (h : wSs T ss ρ K) (k : K.Le K') : wSs T ss ρ K' := by
  unfold wSs at h ⊢
  exact SOut.imp h k
theorem wB_bl {k : Bool} {F : Bool → Prop} : wB (.f (.bl k)) F = F k := rfl
theorem wK_t {A B : Prop} : wK true A B = A := by simp [wK]
theorem wK_f {A B : Prop} : wK false A B = B := by simp [wK]
theorem wV_fz {d : D} {i : Nat} {F : Val → Prop} : wV (.fz d) i F = F (.f d) := rfl
theorem wV_ow {d : D} {i : Nat} {F : Val → Prop} : wV (.ow d) i F = F (.v i) := rfl
theorem wV_pw {d : D} {i : Nat} {F : Val → Prop} : wV (.pw d) i F = F (.v i) := rfl
theorem wV_no {i : Nat} {F : Val → Prop} : wV .no i F = False := rfl
theorem wD_f {d : D} {F : D → Env → Prop} : wD (.f d) ρ F = F d ρ := rfl
theorem wD_n {d : D} {F : D → Env → Prop} : wD (.n d) ρ F = F d ρ := rfl
/-- a slot handed on -/
def wDv (s : Slot) (i : Nat) (ρ : Env) (F : D → Env → Prop) : Prop := match s with
  | .ow d => F d (ρ.set i (.fz d))
  | .fz d => F d ρ
  | _ => False
theorem wD_v {i : Nat} {F : D → Env → Prop} : wD (.v i) ρ F = wDv (slotAt ρ i) i ρ F := by
  unfold wD wDv
  simp only [fr]
  cases slotAt ρ i <;> rfl
theorem wDv_ow {d : D} {i : Nat} {F : D → Env → Prop} : wDv (.ow d) i ρ F = F d (ρ.set i (.fz d)) := rfl
theorem wDv_fz {d : D} {i : Nat} {F : D → Env → Prop} : wDv (.fz d) i ρ F = F d ρ := rfl
theorem wDs_nil {F : List D → Env → Prop} : wDs [] ρ F = F [] ρ := rfl
theorem wDs_cons {x : Val} {r : List Val} {F : List D → Env → Prop} : wDs (x :: r) ρ F = wD x ρ fun d ρ1 => wDs r ρ1 fun ds ρ2 => F (d :: ds) ρ2 := by
  unfold wDs wD
  simp only [frs]
  cases fr ρ x with
  | none => rfl
  | some p =>
    obtain ⟨d, ρ1⟩ := p
    show wO (match frs ρ1 r with | some (ds, ρ2) => some (d :: ds, ρ2) | none => none) _ = wO (frs ρ1 r) _
    cases frs ρ1 r <;> rfl
/-! ### expressions -/
theorem wE_cst {d : D} : wE T (.cst d) ρ Q = Q (.f d) ρ := by simp only [wE, ev, wp_ok]
theorem wE_var {i : Nat} : wE T (.var i) ρ Q = wV (slotAt ρ i) i fun v => Q v ρ := by
  simp only [wE, ev]
  cases slotAt ρ i <;> rfl
theorem wE_glb {g : Nat} : wE T (.glb g) ρ Q = Q (.f (T.gl g)) ρ := by simp only [wE, ev, wp_ok]
theorem wEs_nil : wEs T .nil ρ QL = QL [] ρ := by simp only [wEs, evs, wp_ok]
theorem wEs_cons : wEs T (.cons e es) ρ QL = wE T e ρ fun v ρ1 => wEs T es ρ1 fun vs ρ2 => QL (v :: vs) ρ2 := by simp only [wEs, wE, evs, wp_bind, wp_ok]
theorem wE_op {o : Op} : wE T (.op o es) ρ Q = wEs T es ρ fun vs ρ1 => wO (rds ρ1 vs) fun ds => wO (opD o ds) fun v => Q v ρ1 := by simp only [wE, wEs, ev, wp_bind, wp_lift, wO_bind]
theorem wE_and : wE T (.and_ a b) ρ Q = wE T a ρ fun v ρ1 => wB v fun k => wK k (wE T b ρ1 Q) (Q (.f (.bl false)) ρ1) := by simp only [wE, ev, wp_bind, wp_truth, wp_ite, wp_ok, wK_if]
theorem wE_or : wE T (.or_ a b) ρ Q = wE T a ρ fun v ρ1 => wB v fun k => wK k (Q (.f (.bl true)) ρ1) (wE T b ρ1 Q) := by simp only [wE, ev, wp_bind, wp_truth, wp_ite, wp_ok, wK_if]
theorem wE_not : wE T (.not_ a) ρ Q = wE T a ρ fun v ρ1 => wB v fun k => Q (.f (.bl (!k))) ρ1 := by simp only [wE, ev, wp_bind, wp_truth, wp_ok]
theorem wE_ite : wE T (.ite c a b) ρ Q = wE T c ρ fun v ρ1 => wB v fun k => wK k (wE T a ρ1 Q) (wE T b ρ1 Q) := by simp only [wE, ev, wp_bind, wp_truth, wp_ite, wK_if]
theorem wE_chn {o o' : Op} : wE T (.chn o o' a b c) ρ Q = wE T a ρ fun x ρ1 => wE T b ρ1 fun y ρ2 => wO (rds ρ2 [x, y]) fun ds => wO (opD o ds) fun v => wB v fun k =>
    wK k (wE T c ρ2 fun z ρ3 => wO (rds ρ3 [y, z]) fun ds => wO (opD o' ds) fun v => Q v ρ3) (Q (.f (.bl false)) ρ2) := by
  simp only [wE, ev, wp_bind, wp_lift, wp_truth, wp_ite, wp_ok, wK_if, wO_bind]
theorem wE_lst : wE T (.lst es) ρ Q = wEs T es ρ fun vs ρ1 => wDs vs ρ1 fun ds ρ2 => ds.length ≤ LIM ∧ Q (.n (.lst ds)) ρ2 := by
  simp only [wE, wEs, ev, wp_bind]
  congr
  funext vs ρ1
  unfold wDs
  cases frs ρ1 vs with
  | none => rfl
  | some p =>
    show (if p.1.length ≤ LIM then Out.ok (Val.n (.lst p.1)) p.2 else .bad).wp Q = _
    rw [wp_ite]
    by_cases h : p.1.length ≤ LIM
    · rw [if_pos h, wO_some]; simp [h, wp_ok]
    · rw [if_neg h, wO_some]; simp [h, wp_bad]
theorem wE_tup : wE T (.tup es) ρ Q = wEs T es ρ fun vs ρ1 => wDs vs ρ1 fun ds ρ2 => ds.length ≤ LIM ∧ Q (.f (.tup ds)) ρ2 := by
  simp only [wE, wEs, ev, wp_bind]
  congr
  funext vs ρ1
  unfold wDs
  cases frs ρ1 vs with
  | none => rfl
  | some p =>
    show (if p.1.length ≤ LIM then Out.ok (Val.f (.tup p.1)) p.2 else .bad).wp Q = _
    rw [wp_ite]
    by_cases h : p.1.length ≤ LIM
    · rw [if_pos h, wO_some]; simp [h, wp_ok]
    · rw [if_neg h, wO_some]; simp [h, wp_bad]
theorem wE_lstS {st : List Bool} : wE T (.lstS es st) ρ Q = wA T es st ρ fun ds ρ2 => ds.length ≤ LIM ∧ Q (.n (.lst ds)) ρ2 := by
  simp only [wE, wA, ev, wp_bind, wp_ite, wp_ok, wp_bad]
  congr
  funext ds ρ1
  by_cases h : ds.length ≤ LIM <;> simp [h]
theorem wA_nil {st : List Bool} : wA T .nil st ρ QD = QD [] ρ := by simp only [wA, evsS, wp_ok]
theorem wA_cons {st : List Bool} : wA T (.cons e es) st ρ QD = wE T e ρ fun v ρ1 => wD v ρ1 fun d ρ2 => wO (spread (st.headD false) d) fun xs => wA T es st.tail ρ2 fun ds ρ3 => QD (xs ++ ds) ρ3 := by
  simp only [wA, wE, evsS, wp_bind, wp_okD]
  congr
  funext v ρ1
  congr
  funext d ρ2
  cases spread (st.headD false) d with
  | none => rfl
  | some xs => simp only [wp_bind, wp_ok, wO_some]
theorem wE_dctN {k : Bool} : wE T (.dctN k) ρ Q = Q (.n (if k then .dcT [] else .dct [])) ρ := by simp only [wE, ev, wp_ok]
theorem wE_dct {ks : List Key} : wE T (.dct ks es) ρ Q = wA T es [] ρ fun ds ρ1 => (ds.length ≤ 15 ∧ ks.length = ds.length) ∧ Q (.n (.dct (putAll [] (ks.zip ds)))) ρ1 := by
  simp only [wE, wA, ev, wp_bind, wp_calm, wp_ite, wp_ok, wp_bad]
  congr
  funext ds ρ1
  by_cases h : ds.length ≤ 15 ∧ ks.length = ds.length <;> simp [h]
/-- a field of an object -/
def wFld (T : Tb) (a : Nat) (o : Option D) (F : D → Prop) : Prop := match o with
  | some (.obj C fs) => T.fl C a = true ∧ wO (getF fs a) F
  | _ => False
theorem wFld_obj {n C : Nat} {fs : List (Nat × D)} {F : D → Prop} : wFld T n (some (.obj C fs)) F = (T.fl C n = true ∧ wO (getF fs n) F) := rfl
theorem wE_fld {n : Nat} : wE T (.fld n e) ρ Q = wE T e ρ fun v ρ1 => wFld T n (rd ρ1 v) fun d => Q (.f d) ρ1 := by
  simp only [wE, ev, wp_bind]
  congr
  funext v ρ1
  cases rd ρ1 v with
  | none => rfl
  | some d =>
    cases d with
    | obj C fs =>
      show (if T.fl C n = true then _ else Out.bad).wp Q = _
      rw [wp_ite, wFld_obj]
      by_cases h : T.fl C n = true
      · rw [if_pos h]
        cases getF fs n <;> simp [h, wO, Out.wp]
      · rw [if_neg h]; simp [h, wp_bad]
    | _ => rfl
theorem wp_callF {f : Nat} {keep : List Bool} {vs : List Val} : (callF T f keep vs ρ).wp Q = wC T f keep vs ρ Q := by
  unfold callF wC
  cases lend ρ [] keep vs with
  | none => rfl
  | some p =>
    show (ans p.2 vs p.1 (T.fn f p.1)).wp Q = (T.fn f p.1).wp _
    cases T.fn f p.1 with
    | ok v os => cases v <;> simp [ans, Out.wp, FOut.wp, notE]
    | _ => rfl
theorem wE_call {f : Nat} {keep : List Bool} : wE T (.call f keep es) ρ Q = wEs T es ρ fun vs ρ1 => wC T f keep vs ρ1 Q := by
  simp only [wE, wEs, ev, wp_bind, wp_callF]
/-- a method's number -/
def wM (T : Tb) (m : Nat) (o : Option D) (F : Nat → Prop) : Prop := match o with
  | some (.obj C _) => wO (T.mt C m) F
  | _ => False
theorem wM_obj {m C : Nat} {fs : List (Nat × D)} {F : Nat → Prop} : wM T m (some (.obj C fs)) F = wO (T.mt C m) F := rfl
theorem wE_prp {m : Nat} : wE T (.prp m e) ρ Q = wE T e ρ fun v ρ1 => wM T m (rd ρ1 v) fun f => wC T f [true] [v] ρ1 Q := by
  simp only [wE, ev, wp_bind]
  congr
  funext v ρ1
  cases rd ρ1 v with
  | none => rfl
  | some d =>
    cases d with
    | obj C fs =>
      rw [wM_obj]
      show (match T.mt C m with | some f => calm (callF T f [true] [v] ρ1) | none => .bad).wp Q = _
      cases T.mt C m with
      | none => rfl
      | some f => simp only [wp_calm, wp_callF, wO_some]
    | _ => rfl
theorem wE_mth {m : Nat} {keep : List Bool} : wE T (.mth m e keep es) ρ Q = wE T e ρ fun v ρ1 => wM T m (rd ρ1 v) fun f => wEs T es ρ1 fun vs ρ2 => wC T f (true :: keep) (v :: vs) ρ2 Q := by
  simp only [wE, wEs, ev, wp_bind]
  congr
  funext v ρ1
  cases rd ρ1 v with
  | none => rfl
  | some d =>
    cases d with
    | obj C fs =>
      rw [wM_obj]
      show (match T.mt C m with | some f => (evs T es ρ1).bind fun vs ρ2 => callF T f (true :: keep) (v :: vs) ρ2 | none => .bad).wp Q = _
      cases T.mt C m with
      | none => rfl
      | some f => simp only [wp_bind, wp_callF, wO_some]
    | _ => rfl
theorem wE_new {C : Nat} {keep : List Bool} : wE T (.new C keep es) ρ Q = wEs T es ρ fun vs ρ1 => wNew T C keep vs ρ1 Q := by
  simp only [wE, wEs, ev, wp_bind]
  congr
  funext vs ρ1
  unfold wNew
  cases T.mt C mInit with
  | none => rfl
  | some f =>
    cases lend ρ1 [] keep vs with
    | none => rfl
    | some p =>
      simp only [wO_some]
      cases T.fn f (.ow (.obj C []) :: p.1) with
      | ok v os =>
        cases v with
        | f d =>
          cases d with
          | non =>
            cases os with
            | nil => rfl
            | cons o os => cases o <;> rfl
          | _ => rfl
        | _ => rfl
      | exc x os =>
        cases os with
        | nil => rfl
        | cons o os => rfl
      | _ => rfl
/-- the own == -/
def wEqo (T : Tb) (x y : Option D) (F : Nat → Prop) : Prop := match x, y with
  | some (.obj C _), some d => fitE C d = true ∧ wO (T.mt C mEq) F
  | _, _ => False
theorem wEqo_obj {B C : Nat} {fs gs : List (Nat × D)} {F : Nat → Prop} : wEqo T (some (.obj C fs)) (some (.obj B gs)) F = (B = C ∧ wO (T.mt C mEq) F) := by simp [wEqo, fitE]
theorem wEqo_non {C : Nat} {fs : List (Nat × D)} {F : Nat → Prop} : wEqo T (some (.obj C fs)) (some .non) F = wO (T.mt C mEq) F := by simp [wEqo, fitE]
theorem wEqo_int {C : Nat} {fs : List (Nat × D)} {i : Int} {F : Nat → Prop} : wEqo T (some (.obj C fs)) (some (.int i)) F = wO (T.mt C mEq) F := by simp [wEqo, fitE]
theorem wEqo_str {C : Nat} {fs : List (Nat × D)} {i : Str} {F : Nat → Prop} : wEqo T (some (.obj C fs)) (some (.str i)) F = wO (T.mt C mEq) F := by simp [wEqo, fitE]
theorem wEqo_lst {C : Nat} {fs : List (Nat × D)} {i : List D} {F : Nat → Prop} : wEqo T (some (.obj C fs)) (some (.lst i)) F = wO (T.mt C mEq) F := by simp [wEqo, fitE]
theorem wEqo_tup {C : Nat} {fs : List (Nat × D)} {i : List D} {F : Nat → Prop} : wEqo T (some (.obj C fs)) (some (.tup i)) F = wO (T.mt C mEq) F := by simp [wEqo, fitE]
theorem wEqo_dct {C : Nat} {fs : List (Nat × D)} {i : List (Key × D)} {F : Nat → Prop} : wEqo T (some (.obj C fs)) (some (.dct i)) F = wO (T.mt C mEq) F := by simp [wEqo, fitE]
theorem wE_eqo {neg : Bool} : wE T (.eqo neg a b) ρ Q = wE T a ρ fun x ρ1 => wE T b ρ1 fun y ρ2 => wEqo T (rd ρ2 x) (rd ρ2 y) fun f => wC T f [] [x, y] ρ2 fun v ρ3 => wB v fun k => Q (.f (.bl (neg ^^ k))) ρ3 := by
  simp only [wE, ev, wp_bind]
  congr
  funext x ρ1
  congr
  funext y ρ2
  cases rd ρ2 x with
  | none => rfl
  | some dx =>
    cases rd ρ2 y with
    | none => cases dx <;> rfl
    | some dy =>
      cases dx with
      | obj C fs =>
        show (if fitE C dy = true then _ else Out.bad).wp Q = (fitE C dy = true ∧ wO (T.mt C mEq) _)
        rw [wp_ite]
        by_cases h : fitE C dy = true
        · rw [if_pos h]
          cases T.mt C mEq with
          | none => simp [h, wO, wp_bad]
          | some f => simp only [wp_bind, wp_callF, wp_truth, wp_ok, wO_some, h, true_and]
        · rw [if_neg h]; simp [h, wp_bad]
      | _ => rfl
/-- xs.index(y) -/
def wIsL (x : Option D) (F : Prop) : Prop := match x with
  | some (.lst _) => F
  | _ => False
theorem wIsL_lst {xs : List D} {F : Prop} : wIsL (some (.lst xs)) F = F := rfl
theorem wE_lix : wE T (.lix a b) ρ Q = wE T a ρ fun x ρ1 => wIsL (rd ρ1 x) (wE T b ρ1 fun y ρ2 => wO (rd ρ2 x) fun d => wO (rd ρ2 y) fun e => wO (oIndex d e) fun r => Q r ρ2) := by
  simp only [wE, ev, wp_bind]
  congr
  funext x ρ1
  cases rd ρ1 x with
  | none => rfl
  | some d =>
    cases d with
    | lst xs =>
      dsimp only
      simp only [wp_bind, wIsL]
      congr
      funext y ρ2
      cases rd ρ2 x with
      | none => rfl
      | some d =>
        cases rd ρ2 y with
        | none => rfl
        | some e =>
          simp only [wO_some]
          cases oIndex d e with
          | none => rfl
          | some r => rfl
    | _ => rfl
theorem wE_lcn : wE T (.lcn a b) ρ Q = wE T a ρ fun x ρ1 => wIsL (rd ρ1 x) (wE T b ρ1 fun y ρ2 => wO (rd ρ2 x) fun d => wO (rd ρ2 y) fun e => wO (oCount d e) fun r => Q r ρ2) := by
  simp only [wE, ev, wp_bind]
  congr
  funext x ρ1
  cases rd ρ1 x with
  | none => rfl
  | some d =>
    cases d with
    | lst xs =>
      dsimp only
      simp only [wp_bind, wIsL]
      congr
      funext y ρ2
      cases rd ρ2 x with
      | none => rfl
      | some d =>
        cases rd ρ2 y with
        | none => rfl
        | some e =>
          simp only [wO_some]
          cases oCount d e with
          | none => rfl
          | some r => rfl
    | _ => rfl
/-- lists of objects -/
def wEql (T : Tb) (x y : Val) (F : Prop) : Prop := match x, y with
  | .n (.lst xs), .n (.lst ys) => allEq T xs ys = true ∧ F
  | _, _ => False
theorem wEql_n {xs ys : List D} {F : Prop} : wEql T (.n (.lst xs)) (.n (.lst ys)) F = (allEq T xs ys = true ∧ F) := rfl
theorem wE_eql : wE T (.eql a b) ρ Q = wE T a ρ fun x ρ1 => wE T b ρ1 fun y ρ2 => wEql T x y (Q (.f (.bl true)) ρ2) := by
  simp only [wE, ev, wp_bind]
  congr
  funext x ρ1
  congr
  funext y ρ2
  unfold wEql
  split
  · rw [wp_ite]
    split
    · rename_i h; simp [wp_ok, h]
    · rename_i h; simp [wp_bad, h]
  · rename_i h
    cases x with
    | n d =>
      cases d with
      | lst xs =>
        cases y with
        | n d' =>
          cases d' with
          | lst ys => exact (h xs ys rfl rfl).elim
          | _ => rfl
        | _ => rfl
      | _ => rfl
    | _ => rfl
def wPart (v : Val) (F : Option Int → Prop) : Prop := match v with
  | .f (.int i) => F (some i)
  | _ => False
theorem wPart_int {i : Int} {F : Option Int → Prop} : wPart (.f (.int i)) F = F (some i) := rfl
theorem wp_part {v : Val} {Q : Option Int → Env → Prop} : (partOf v ρ).wp Q = wPart v fun x => Q x ρ := by
  cases v with
  | f d => cases d <;> rfl
  | _ => rfl
def wBd (T : Tb) (e : CE) (ρ : Env) (F : Option Int → Env → Prop) : Prop := if absent e then F none ρ else wE T e ρ fun v ρ1 => wPart v fun x => F x ρ1
theorem wBd_non {F : Option Int → Env → Prop} : wBd T (.cst .non) ρ F = F none ρ := rfl
theorem wBd_int {F : Option Int → Env → Prop} {i : Int} : wBd T (.cst (.int i)) ρ F = F (some i) ρ := by simp [wBd, absent, wE_cst, wPart_int]
theorem wBd_var {F : Option Int → Env → Prop} {i : Nat} : wBd T (.var i) ρ F = wE T (.var i) ρ fun v ρ1 => wPart v fun x => F x ρ1 := rfl
theorem wBd_op {F : Option Int → Env → Prop} {o : Op} : wBd T (.op o es) ρ F = wE T (.op o es) ρ fun v ρ1 => wPart v fun x => F x ρ1 := rfl
theorem wE_sli : wE T (.sli e a b) ρ Q = wE T e ρ fun v ρ1 => wBd T a ρ1 fun l ρ2 => wBd T b ρ2 fun h ρ3 => wO (rd ρ3 v) fun d => wO (sliD l h d) fun r => Q r ρ3 := by
  simp only [wE, ev, wp_bind]
  congr
  funext v ρ1
  have bd : ∀ (x : CE) (ρ : Env) (F : Option Int → Env → Prop), (if absent x = true then Out.ok none ρ else (ev T x ρ).bind partOf).wp F = wBd T x ρ F := fun x ρ F => by
    unfold wBd
    rw [wp_ite, wp_bind]
    simp only [wp_ok, wp_part, wE]
  rw [bd]
  congr
  funext l ρ2
  rw [bd]
  congr
  funext h ρ3
  rw [wp_lift, wO_bind]
/-- a change -/
def wMut (o : MOp) (i : Nat) (ds : List D) (ρ : Env) (Q : Val → Env → Prop) : Prop := wO (ownAt ρ i) fun d => wO (mutD o d ds) fun p => wO (putOwn ρ i p.2) fun ρ1 => Q (.f p.1) ρ1
def isLst (s : Option D) : Prop := match s with
  | some (.lst _) => True
  | _ => False
theorem wE_mut {o : MOp} {i : Nat} : wE T (.mut o i es) ρ Q = (isLst (ownAt ρ i) ∧ wEs T es ρ fun vs ρ1 => if o = .append then wDs vs ρ1 fun ds ρ2 => wMut o i ds ρ2 Q else wO (rds ρ1 vs) fun ds => wMut o i ds ρ1 Q) := by
  have fin : ∀ (ds : List D) (ρ2 : Env), (match (ownAt ρ2 i).bind fun d => mutD o d ds with
        | some (r, d) => match putOwn ρ2 i d with
          | some ρ3 => Out.ok (Val.f r) ρ3
          | none => .bad
        | none => .bad).wp Q = wMut o i ds ρ2 Q := fun ds ρ2 => by
    unfold wMut
    cases ownAt ρ2 i with
    | none => rfl
    | some d =>
      show (match mutD o d ds with | some (r, d) => _ | none => Out.bad).wp Q = wO (mutD o d ds) _
      cases mutD o d ds with
      | none => rfl
      | some p =>
        show (match putOwn ρ2 i p.2 with | some ρ3 => Out.ok (Val.f p.1) ρ3 | none => .bad).wp Q = wO (putOwn ρ2 i p.2) _
        cases putOwn ρ2 i p.2 <;> rfl
  simp only [wE, ev]
  cases ownAt ρ i with
  | none => simp [isLst, wp_bad]
  | some d =>
    cases d with
    | lst xs =>
      simp only [isLst, true_and, wEs, wp_bind]
      congr
      funext vs ρ1
      by_cases h : o = .append
      · simp only [h, if_true]
        unfold wDs
        cases frs ρ1 vs with
        | none => rfl
        | some p => subst h; exact fin p.1 p.2
      · simp only [h, if_false]
        cases rds ρ1 vs with
        | none => rfl
        | some ds => exact fin ds ρ1
    | _ => simp [isLst, wp_bad]
/-! ### iterables -/
def wIt (d : D) (F : List D → Prop) : Prop := match d with
  | .lst xs => F xs
  | .tup xs => F xs
  | .dct kvs => F (kvs.map fun p => keyD p.1)
  | .str z => F (z.cps.toList.map fun c => .str ⟨#[c]⟩)
  | _ => False
theorem wI_seq : wI T (.seq e) ρ QD = wE T e ρ fun v ρ1 => wD v ρ1 fun d ρ2 => wIt d fun xs => QD xs ρ2 := by
  simp only [wI, wE, evI, wp_bind, wp_okD]
  congr
  funext v ρ1
  congr
  funext d ρ2
  cases d <;> rfl
theorem wIt_lst {xs : List D} {F : List D → Prop} : wIt (.lst xs) F = F xs := rfl
theorem wIt_tup {xs : List D} {F : List D → Prop} : wIt (.tup xs) F = F xs := rfl
theorem wIt_dct {kvs : List (Key × D)} {F : List D → Prop} : wIt (.dct kvs) F = F (kvs.map fun p => keyD p.1) := rfl
theorem wIt_str {z : Str} {F : List D → Prop} : wIt (.str z) F = F (z.cps.toList.map fun c => .str ⟨#[c]⟩) := rfl
def wInt (v : Val) (F : Int → Prop) : Prop := match v with
  | .f (.int n) => F n
  | _ => False
theorem wInt_int {n : Int} {F : Int → Prop} : wInt (.f (.int n)) F = F n := rfl
theorem wI_rng : wI T (.rng e) ρ QD = wE T e ρ fun v ρ1 => wInt v fun n => small n = true ∧ QD (mapRange 0 n.toNat) ρ1 := by
  simp only [wI, wE, evI, wp_bind]
  congr
  funext v ρ1
  cases v with
  | f d =>
    cases d with
    | int n =>
      show (if small n = true then _ else _ : Out _).wp QD = _
      rw [wp_ite, wInt_int]
      by_cases h : small n = true
      · rw [if_pos h, wp_ok]; simp [h]
      · rw [if_neg h, wp_bad]; simp [h]
    | _ => rfl
  | _ => rfl
theorem wI_rng2 : wI T (.rng2 a b) ρ QD = wE T a ρ fun v ρ1 => wE T b ρ1 fun w ρ2 => wInt v fun i => wInt w fun j => (small i && small j) = true ∧ QD (mapRange i (j - i).toNat) ρ2 := by
  simp only [wI, wE, evI, wp_bind]
  congr
  funext v ρ1
  congr
  funext w ρ2
  cases v with
  | f d =>
    cases d with
    | int n =>
      cases w with
      | f d =>
        cases d with
        | int m =>
          show (if (small n && small m) = true then _ else _ : Out _).wp QD = _
          rw [wp_ite, wInt_int, wInt_int]
          by_cases h : (small n && small m) = true
          · rw [if_pos h, wp_ok]; simp [h]
          · rw [if_neg h, wp_bad]; simp [h]
        | _ => rfl
      | _ => rfl
    | _ => rfl
  | _ => rfl
def wDct (d : D) (F : List (Key × D) → Prop) : Prop := match d with
  | .dct kvs => F kvs
  | _ => False
theorem wDct_dct {kvs : List (Key × D)} {F : List (Key × D) → Prop} : wDct (.dct kvs) F = F kvs := rfl
theorem wI_itm : wI T (.itm e) ρ QD = wE T e ρ fun v ρ1 => wD v ρ1 fun d ρ2 => wDct d fun kvs => QD (kvs.map fun p => .tup [keyD p.1, p.2]) ρ2 := by
  simp only [wI, wE, evI, wp_bind, wp_okD]
  congr
  funext v ρ1
  congr
  funext d ρ2
  cases d <;> rfl
theorem wI_val : wI T (.val e) ρ QD = wE T e ρ fun v ρ1 => wD v ρ1 fun d ρ2 => wDct d fun kvs => QD (kvs.map (·.2)) ρ2 := by
  simp only [wI, wE, evI, wp_bind, wp_okD]
  congr
  funext v ρ1
  congr
  funext d ρ2
  cases d <;> rfl
def wLst (d : D) (F : List D → Prop) : Prop := match d with
  | .lst xs => F xs
  | _ => False
theorem wLst_lst {xs : List D} {F : List D → Prop} : wLst (.lst xs) F = F xs := rfl
theorem wI_zip : wI T (.zip a b) ρ QD = wE T a ρ fun v ρ1 => wE T b ρ1 fun w ρ2 => wD v ρ2 fun x ρ3 => wD w ρ3 fun y ρ4 => wLst x fun xs => wLst y fun ys => QD ((xs.zip ys).map fun p => .tup [p.1, p.2]) ρ4 := by
  simp only [wI, wE, evI, wp_bind, wp_okD]
  congr
  funext v ρ1
  congr
  funext w ρ2
  congr
  funext x ρ3
  congr
  funext y ρ4
  cases x with
  | lst xs => cases y <;> rfl
  | _ => rfl
/-- what enumerate takes: a list, a tuple -/
def wEnm (d : D) (F : List D → Prop) : Prop := match d with
  | .lst xs => F xs
  | .tup xs => F xs
  | _ => False
theorem wEnm_lst {xs : List D} {F : List D → Prop} : wEnm (.lst xs) F = F xs := rfl
theorem wEnm_tup {xs : List D} {F : List D → Prop} : wEnm (.tup xs) F = F xs := rfl
theorem wI_enm : wI T (.enm e) ρ QD = wE T e ρ fun v ρ1 => wD v ρ1 fun d ρ2 => wEnm d fun xs => QD (xs.zipIdx.map fun p => .tup [.int (p.2 : Nat), p.1]) ρ2 := by
  simp only [wI, wE, evI, wp_bind, wp_okD]
  congr
  funext v ρ1
  congr
  funext d ρ2
  cases d <;> rfl
/-! ### comprehensions -/
/-- the items of a list comprehension -/
@[irreducible] def wG (T : Tb) (e c : CE) (t : CT) (own : List Nat) (items : List D) (ρ : Env) (Q : List D → Env → Prop) : Prop :=
  (gather (fun x ρ => match tgt ρ t x with
        | none => .bad
        | some ρ => (ev T c ρ).bind fun b ρ => truth b ρ fun k ρ => if k then (ev T e ρ).bind fun v ρ => (okD v ρ).bind fun d ρ => .ok [d] (wipeE ρ own) else .ok [] (wipeE ρ own)) items ρ).wp Q
theorem wG_nil {t : CT} {own : List Nat} : wG T e c t own [] ρ QD = QD [] ρ := by
  unfold wG
  rfl
theorem wG_cons {t : CT} {own : List Nat} {x : D} {r : List D} : wG T e c t own (x :: r) ρ QD = wO (tgt ρ t x) fun ρ1 => wE T c ρ1 fun b ρ2 => wB b fun k => wK k
    (wE T e ρ2 fun v ρ3 => wD v ρ3 fun d ρ4 => wG T e c t own r (wipeE ρ4 own) fun ds ρ5 => QD (d :: ds) ρ5) (wG T e c t own r (wipeE ρ2 own) QD) := by
  unfold wG
  show ((Out.bind (match tgt ρ t x with | none => .bad | some ρ => _) _) : Out _).wp QD = _
  cases tgt ρ t x with
  | none => rfl
  | some ρ1 =>
    simp only [wp_bind, wp_truth, wp_ite, wp_ok, wp_okD, wO_some, wK_if, wE]
    congr
theorem wE_lc {t : CT} {it : CI} {own : List Nat} : wE T (.lc e t it c own) ρ Q = wI T it ρ fun items ρ1 => wG T e c t own items (wipeE ρ1 own) fun ds ρ2 => ds.length ≤ LIM ∧ Q (.n (.lst ds)) (unwipe ρ1 ρ2 own) := by
  simp only [wE, wI, ev, wp_bind, wp_calm]
  congr
  funext items ρ1
  unfold wG
  congr
  funext ds ρ2
  rw [wp_ite]
  by_cases h : ds.length ≤ LIM
  · rw [if_pos h, wp_ok]; simp [h]
  · rw [if_neg h, wp_bad]; simp [h]
/-- the items of a dict comprehension -/
@[irreducible] def wH (T : Tb) (k e c : CE) (t : CT) (own : List Nat) (items : List D) (ρ : Env) (Q : List (Key × D) → Env → Prop) : Prop :=
  (gather (fun x ρ => match tgt ρ t x with
        | none => .bad
        | some ρ => (ev T c ρ).bind fun b ρ => truth b ρ fun q ρ => if q then (ev T k ρ).bind fun kv ρ => (ev T e ρ).bind fun v ρ => match (rd ρ kv).bind keyOf with
          | some key => (okD v ρ).bind fun d ρ => .ok [(key, d)] (wipeE ρ own)
          | none => .bad
          else .ok [] (wipeE ρ own)) items ρ).wp Q
theorem wH_nil {k : CE} {t : CT} {own : List Nat} {Q : List (Key × D) → Env → Prop} : wH T k e c t own [] ρ Q = Q [] ρ := by
  unfold wH
  rfl
theorem wE_dc {k : CE} {t : CT} {it : CI} {own : List Nat} : wE T (.dc k e t it c own) ρ Q = wI T it ρ fun items ρ1 => wH T k e c t own items (wipeE ρ1 own) fun ps ρ2 => ps.length ≤ LIM ∧ Q (.n (.dct (putAll [] ps))) (unwipe ρ1 ρ2 own) := by
  simp only [wE, wI, ev, wp_bind, wp_calm]
  congr
  funext items ρ1
  unfold wH
  congr
  funext ds ρ2
  rw [wp_ite]
  by_cases h : ds.length ≤ LIM
  · rw [if_pos h, wp_ok]; simp [h]
  · rw [if_neg h, wp_bad]; simp [h]
/-! ### statements -/
theorem wSs_nil : wSs T .nil ρ K = K.nx ρ := by simp only [wSs, exs, SOut.wp]
theorem wSs_cons {s : CS} {ss : CSs} : wSs T (.cons s ss) ρ K = wS T s ρ { K with nx := fun ρ => wSs T ss ρ K } := by
  simp only [wSs, wS, exs]
  cases ex T s ρ <;> rfl
theorem wS_asg {i : Nat} {own : Bool} : wS T (.asg (.nm i) own e) ρ K = wE T e ρ fun v ρ1 => wO (store ρ1 i own v) K.nx := by simp only [wS, wE, ex, wp_toS, wp_nxt]
theorem wS_asgT {is : List Nat} {own : Bool} : wS T (.asg (.tp is) own e) ρ K = wE T e ρ fun v ρ1 => wD v ρ1 fun d ρ2 => wO (tgt ρ2 (.tp is) d) K.nx := by simp only [wS, wE, ex, wp_toS, wp_nxt, wp_okD]
theorem wS_asgQ {is : List (List Nat)} {own : Bool} : wS T (.asg (.tq is) own e) ρ K = wE T e ρ fun v ρ1 => wD v ρ1 fun d ρ2 => wO (tgt ρ2 (.tq is) d) K.nx := by simp only [wS, wE, ex, wp_toS, wp_nxt, wp_okD]
theorem wS_par {is : List Nat} {owns : List Bool} : wS T (.par is owns es) ρ K = wEs T es ρ fun vs ρ1 => wO (prep ρ1 owns vs) fun p => wO (storeAll p.2 is p.1) K.nx := by simp only [wS, wEs, ex, wp_toS, wp_nxt, wO_bind]
theorem wS_apt {j : Nat} : wS T (.apt j es) ρ K = wEs T es ρ fun vs ρ1 => (vs ≠ [] ∧ vs.length ≤ 1000 ∧ vs.all newL = true) ∧ wO (setS ρ1 j .no) K.nx := by
  simp only [wS, wEs, ex, wp_toS]
  congr
  funext vs ρ1
  by_cases c : vs ≠ [] ∧ vs.length ≤ 1000 ∧ vs.all newL = true
  · rw [if_pos c, wp_nxt]
    exact propext ⟨fun h => ⟨c, h⟩, fun h => h.2⟩
  · rw [if_neg c]
    exact propext ⟨fun h => h.elim, fun h => absurd h.1 c⟩
theorem wp_callT {f : Nat} {keep : List Bool} {vs : List Val} {Q : List (Bool × D) → Env → Prop} : (callT T f keep vs ρ).wp Q = wCT T f keep vs ρ Q := by
  unfold callT wCT
  cases lend ρ [] keep vs with
  | none => rfl
  | some p =>
    show (ansT p.2 vs p.1 (T.fn f p.1)).wp Q = (T.fn f p.1).wp _
    cases T.fn f p.1 with
    | ok v os => cases v <;> rfl
    | _ => rfl
theorem wS_unp {is : List Nat} {owns : List Bool} {f : Nat} {keep : List Bool} : wS T (.unp is owns f keep es) ρ K = wEs T es ρ fun vs ρ1 => wCT T f keep vs ρ1 fun xs ρ2 => wO (prep ρ2 owns (xs.map tv)) fun p => wO (storeAll p.2 is p.1) K.nx := by
  simp only [wS, wEs, ex, wp_toS, wp_nxt, wO_bind, wp_callT]
theorem wS_retT : wS T (.retT es) ρ K = wEs T es ρ fun vs ρ1 => wO (moveAll ρ1 vs) fun p => p.1.length ≤ LIM ∧ K.rt (.t p.1) p.2 := by
  simp only [wS, wEs, ex, wp_toS]
  congr
  funext vs ρ1
  cases moveAll ρ1 vs with
  | none => rfl
  | some p =>
    obtain ⟨xs, ρ2⟩ := p
    show (if xs.length ≤ LIM then SOut.rt (.t xs) ρ2 else .bad).wp K = _
    by_cases h : xs.length ≤ LIM
    · rw [if_pos h]; simp [wO, h, SOut.wp]
    · rw [if_neg h]; simp [wO, h, SOut.wp]
theorem tv_t {d : D} : tv (true, d) = .n d := rfl
theorem tv_f {d : D} : tv (false, d) = .f d := rfl
/-- x op= y -/
def wAug (i : Nat) (ρ : Env) (K : Kn) (v : Val) : Prop := match v with
  | .f d => wO (setS ρ i (.fz d)) K.nx
  | _ => False
theorem wAug_f {i : Nat} {d : D} : wAug i ρ K (.f d) = wO (setS ρ i (.fz d)) K.nx := rfl
def wFz (s : Slot) (F : D → Prop) : Prop := match s with
  | .fz d => F d
  | _ => False
theorem wFz_fz {d : D} {F : D → Prop} : wFz (.fz d) F = F d := rfl
theorem wS_aug {i : Nat} {o : Op} : wS T (.aug i o e) ρ K = wFz (slotAt ρ i) fun x => wE T e ρ fun v ρ1 => wO (rd ρ1 v) fun y => wO (opAug o x y) fun r => wAug i ρ1 K r := by
  simp only [wS, ex]
  cases slotAt ρ i with
  | fz x =>
    simp only [wFz_fz, wE, wp_toS]
    congr
    funext v ρ1
    cases rd ρ1 v with
    | none => rfl
    | some y =>
      show (match opAug o x y with | some (.f d) => nxt (setS ρ1 i (.fz d)) | _ => .bad).wp K = wO (opAug o x y) _
      cases opAug o x y with
      | none => rfl
      | some r =>
        cases r with
        | f d => simp only [wp_nxt, wO_some, wAug_f]
        | _ => rfl
  | _ => rfl
theorem wS_sset {i : Nat} {k : CE} : wS T (.sset i k e) ρ K = ((ownAt ρ i).isSome = true ∧ wE T e ρ fun v ρ1 => wE T k ρ1 fun kv ρ2 => wO (rd ρ2 kv) fun kd => wD v ρ2 fun d ρ3 => wO (ownAt ρ3 i) fun o => wO (setD o kd d) fun o => wO (putOwn ρ3 i o) K.nx) := by
  simp only [wS, ex]
  by_cases h : (ownAt ρ i).isSome = true
  · rw [if_pos h]
    simp only [h, true_and, wE, wp_toS]
    congr
    funext v ρ1
    congr
    funext kv ρ2
    cases rd ρ2 kv with
    | none => rfl
    | some kd =>
      unfold wD
      cases fr ρ2 v with
      | none => rfl
      | some p => simp only [wp_nxt, wO_some, wO_bind]
  · rw [if_neg h]
    simp [h, SOut.wp]
/-- self.a = x -/
def wFset (T : Tb) (i a : Nat) (d : D) (ρ : Env) (o : Option D) (F : Env → Prop) : Prop := match o with
  | some (.obj C fs) => (fs.length < 1000 ∧ T.fl C a = true) ∧ wO (putOwn ρ i (.obj C (setF a d fs))) F
  | _ => False
theorem wFset_obj {i n C : Nat} {d : D} {fs : List (Nat × D)} {F : Env → Prop} : wFset T i n d ρ (some (.obj C fs)) F = ((fs.length < 1000 ∧ T.fl C n = true) ∧ wO (putOwn ρ i (.obj C (setF n d fs))) F) := rfl
theorem wS_fset {i n : Nat} : wS T (.fset i n e) ρ K = ((ownAt ρ i).isSome = true ∧ wE T e ρ fun v ρ1 => wD v ρ1 fun d ρ2 => wFset T i n d ρ2 (ownAt ρ2 i) K.nx) := by
  simp only [wS, ex]
  by_cases h : (ownAt ρ i).isSome = true
  · rw [if_pos h]
    simp only [h, true_and, wE, wp_toS, wp_okD]
    congr
    funext v ρ1
    congr
    funext d ρ2
    cases ownAt ρ2 i with
    | none => rfl
    | some o =>
      cases o with
      | obj C fs =>
        rw [wFset_obj]
        show (if (decide (fs.length < 1000) && T.fl C n) = true then nxt _ else _ : SOut).wp K = _
        by_cases q : fs.length < 1000 ∧ T.fl C n = true
        · rw [if_pos (by simp [q]), wp_nxt]; simp [q]
        · rw [if_neg (by simpa using q)]; simp only [q, false_and]; rfl
      | _ => rfl
  · rw [if_neg h]
    simp [h, SOut.wp]
theorem wS_exp : wS T (.exp e) ρ K = wE T e ρ fun _ ρ1 => K.nx ρ1 := by
  simp only [wS, wE, ex, wp_toS]
  rfl
/-- a value returned -/
def wRet (v : Val) (ρ : Env) (F : Val → Env → Prop) : Prop := match v with
  | .v i => match slotAt ρ i with
    | .ow d => F (.n d) (ρ.set i .no)
    | .fz d => F (.f d) ρ
    | _ => False
  | v => F v ρ
theorem wRet_f {d : D} {F : Val → Env → Prop} : wRet (.f d) ρ F = F (.f d) ρ := rfl
theorem wRet_n {d : D} {F : Val → Env → Prop} : wRet (.n d) ρ F = F (.n d) ρ := rfl
def wRv (s : Slot) (i : Nat) (ρ : Env) (F : Val → Env → Prop) : Prop := match s with
  | .ow d => F (.n d) (ρ.set i .no)
  | .fz d => F (.f d) ρ
  | _ => False
theorem wRet_v {i : Nat} {F : Val → Env → Prop} : wRet (.v i) ρ F = wRv (slotAt ρ i) i ρ F := rfl
theorem wRv_ow {d : D} {i : Nat} {F : Val → Env → Prop} : wRv (.ow d) i ρ F = F (.n d) (ρ.set i .no) := rfl
theorem wRv_fz {d : D} {i : Nat} {F : Val → Env → Prop} : wRv (.fz d) i ρ F = F (.f d) ρ := rfl
theorem wS_ret : wS T (.ret e) ρ K = wE T e ρ fun v ρ1 => wRet v ρ1 K.rt := by
  simp only [wS, wE, ex, wp_toS]
  congr
  funext v ρ1
  cases v with
  | v i =>
    rw [wRet_v]
    unfold wRv
    show (match slotAt ρ1 i with | .ow d => SOut.rt (.n d) (ρ1.set i .no) | .fz d => .rt (.f d) ρ1 | _ => .bad).wp K = _
    cases slotAt ρ1 i <;> rfl
  | _ => rfl
theorem wS_retN : wS T .retN ρ K = K.rt (.f .non) ρ := by simp only [wS, ex, SOut.wp]
theorem wS_ifs {x y : CSs} : wS T (.ifs c x y) ρ K = wE T c ρ fun v ρ1 => wB v fun k => wK k (wSs T x ρ1 K) (wSs T y ρ1 K) := by
  simp only [wS, wE, wSs, ex, wp_toS]
  congr
  funext v ρ1
  cases v with
  | f d =>
    cases d with
    | bl k => cases k <;> simp [wB, wK]
    | _ => rfl
  | _ => rfl
theorem wS_pass : wS T .pass ρ K = K.nx ρ := by simp only [wS, ex, SOut.wp]
theorem wS_brk : wS T .brk ρ K = K.br ρ := by simp only [wS, ex, SOut.wp]
theorem wS_cnt : wS T .cnt ρ K = K.ct ρ := by simp only [wS, ex, SOut.wp]
theorem wS_wall : wS T .wall ρ K = False := by simp only [wS, ex, SOut.wp]
/-- the turns of a for -/
@[irreducible] def wFor (T : Tb) (t : CT) (b : CSs) (items : List D) (ρ : Env) (K : Kn) : Prop := (eachS (fun x ρ => match tgt ρ t x with
    | some ρ => exs T b ρ
    | none => .bad) items ρ).wp K
theorem wS_fors {t : CT} {it : CI} {x : CSs} : wS T (.fors t it x) ρ K = wI T it ρ fun items ρ1 => wFor T t x items ρ1 K := by
  simp only [wS, wI, ex, wp_toS, wFor]
  all_goals rfl
theorem wFor_nil {t : CT} {x : CSs} : wFor T t x [] ρ K = K.nx ρ := by
  unfold wFor
  rfl
theorem wFor_cons {t : CT} {x : CSs} {d : D} {r : List D} : wFor T t x (d :: r) ρ K = wO (tgt ρ t d) fun ρ1 => wSs T x ρ1 { nx := fun ρ => wFor T t x r ρ K, ct := fun ρ => wFor T t x r ρ K, br := K.nx, rt := K.rt } := by
  unfold wFor
  show (match (match tgt ρ t d with | some ρ => exs T x ρ | none => SOut.bad) with
    | .nx ρ1 => eachS _ r ρ1
    | .ct ρ1 => eachS _ r ρ1
    | .br ρ1 => .nx ρ1
    | .rt v ρ1 => .rt v ρ1
    | .exc e ρ1 => .exc e ρ1
    | .bad => .bad).wp K = _
  cases tgt ρ t d with
  | none => rfl
  | some ρ1 =>
    simp only [wO_some, wSs]
    cases exs T x ρ1 <;> rfl
/-- a for by what holds between two turns -/
theorem wFor_inv {t : CT} {x : CSs} (I : List D → Env → Prop) {items : List D} (h0 : I items ρ) (hs : ∀ d r ρ, I (d :: r) ρ → wO (tgt ρ t d) fun ρ1 => wSs T x ρ1 { nx := I r, ct := I r, br := K.nx, rt := K.rt }) (h1 : ∀ ρ, I [] ρ → K.nx ρ) : wFor T t x items ρ K := by
  induction items generalizing ρ with
  | nil => rw [wFor_nil]; exact h1 ρ h0
  | cons d r ih =>
    rw [wFor_cons]
    exact wO_imp (hs d r ρ h0) fun ρ1 h => wSs_imp h ⟨fun ρ h => ih h, fun _ _ h => h, fun _ h => h, fun ρ h => ih h⟩
/-- a loop over an own list -/
@[irreducible] def wFO (T : Tb) (t : CT) (b : CSs) (i n k : Nat) (ρ : Env) (K : Kn) : Prop := (eachO (fun x ρ => match tgt ρ t x with
    | some ρ => exs T b ρ
    | none => .bad) i n k ρ).wp K
def Kn.un (i : Nat) (K : Kn) : Kn := { nx := fun ρ => K.nx (unPw i ρ), rt := fun v ρ => K.rt v (unPw i ρ), br := fun ρ => K.br (unPw i ρ), ct := fun ρ => K.ct (unPw i ρ) }
def wFOs (s : Slot) (T : Tb) (t : CT) (b : CSs) (i : Nat) (ρ : Env) (K : Kn) : Prop := match s with
  | .pw _ => wFO T t b i LIM 0 ρ K
  | .ow d => wFO T t b i LIM 0 (ρ.set i (.pw d)) (K.un i)
  | _ => False
theorem wFOs_pw {d : D} {t : CT} {b : CSs} {i : Nat} : wFOs (.pw d) T t b i ρ K = wFO T t b i LIM 0 ρ K := rfl
theorem wFOs_ow {d : D} {t : CT} {b : CSs} {i : Nat} : wFOs (.ow d) T t b i ρ K = wFO T t b i LIM 0 (ρ.set i (.pw d)) (K.un i) := rfl
theorem wp_unP {x : SOut} {i : Nat} : (x.unP i).wp K = x.wp (K.un i) := by cases x <;> rfl
theorem wS_forO {t : CT} {i : Nat} {x : CSs} : wS T (.forO t i x) ρ K = wFOs (slotAt ρ i) T t x i ρ K := by
  simp only [wS, ex, wFO, wFOs]
  cases slotAt ρ i with
  | ow d => simp only [wp_unP] <;> rfl
  | _ => rfl
def unPwS (s : Slot) (i : Nat) (ρ : Env) : Env := match s with
  | .pw d => ρ.set i (.ow d)
  | _ => ρ
theorem unPw_eq {i : Nat} : unPw i ρ = unPwS (slotAt ρ i) i ρ := by
  unfold unPw unPwS
  cases slotAt ρ i <;> rfl
theorem unPwS_pw {d : D} {i : Nat} : unPwS (.pw d) i ρ = ρ.set i (.ow d) := rfl
theorem un_nx {i : Nat} : (K.un i).nx ρ = K.nx (unPw i ρ) := rfl
/-- enumerate over a list as it is at each turn -/
@[irreducible] def wFE (T : Tb) (t : CT) (b : CSs) (i n k : Nat) (ρ : Env) (K : Kn) : Prop := (eachE (fun x ρ => match tgt ρ t x with
    | some ρ => exs T b ρ
    | none => .bad) i n k ρ).wp K
def enmL (xs : List D) : List D := xs.zipIdx.map fun p => .tup [.int (p.2 : Nat), p.1]
theorem enmL_len {xs : List D} : (enmL xs).length = xs.length := by simp [enmL]
theorem enmL_get {xs : List D} {k : Nat} (h : k < xs.length) : (enmL xs)[k]'(by rw [enmL_len]; exact h) = .tup [.int (k : Nat), xs[k]] := by simp [enmL]
def wFEs (s : Slot) (T : Tb) (t : CT) (b : CSs) (i : Nat) (ρ : Env) (K : Kn) : Prop := match s with
  | .pw _ => wFE T t b i LIM 0 ρ K
  | .fz (.lst xs) => wFor T t b (enmL xs) ρ K
  | _ => False
theorem wFEs_pw {d : D} {t : CT} {b : CSs} {i : Nat} : wFEs (.pw d) T t b i ρ K = wFE T t b i LIM 0 ρ K := rfl
theorem wFEs_fz {xs : List D} {t : CT} {b : CSs} {i : Nat} : wFEs (.fz (.lst xs)) T t b i ρ K = wFor T t b (enmL xs) ρ K := rfl
theorem wS_forE {t : CT} {i : Nat} {x : CSs} : wS T (.forE t i x) ρ K = wFEs (slotAt ρ i) T t x i ρ K := by
  simp only [wS, ex, wFE, wFEs, wFor, enmL]
  cases slotAt ρ i with
  | fz d => cases d <;> rfl
  | _ => rfl
theorem wFE_inv {t : CT} {x : CSs} {i : Nat} {xs : List D} (I : List D → Env → Prop) (hl : xs.length < LIM) (h0 : I (enmL xs) ρ) (hk : ∀ r ρ, I r ρ → slotAt ρ i = .pw (.lst xs))
    (hs : ∀ d r ρ, I (d :: r) ρ → wO (tgt ρ t d) fun ρ1 => wSs T x ρ1 { nx := I r, ct := I r, br := K.nx, rt := K.rt }) (h1 : ∀ ρ, I [] ρ → K.nx ρ) : wFE T t x i LIM 0 ρ K := by
  suffices H : ∀ (r : List D) (n k : Nat) (ρ : Env), k ≤ xs.length → xs.length < n + k → (enmL xs).drop k = r → I r ρ → wFE T t x i n k ρ K from H (enmL xs) LIM 0 ρ (by omega) (by omega) rfl h0
  intro r
  induction r with
  | nil =>
    intro n k ρ hkn hn hd hi
    have hkl : xs.length ≤ k := by
      have := congrArg List.length hd
      simp [enmL_len] at this
      omega
    unfold wFE
    cases n with
    | zero => omega
    | succ n =>
      unfold eachE
      rw [hk _ _ hi]
      dsimp only
      rw [List.getElem?_eq_none hkl]
      exact h1 ρ hi
  | cons d r ih =>
    intro n k ρ hkn hn hd hi
    have hkl : k < xs.length := by
      have := congrArg List.length hd
      simp [enmL_len] at this
      omega
    rw [List.drop_eq_getElem_cons (by rw [enmL_len]; exact hkl), enmL_get hkl] at hd
    simp only [List.cons.injEq] at hd
    obtain ⟨e1, e2⟩ := hd
    unfold wFE
    cases n with
    | zero => omega
    | succ n =>
      unfold eachE
      rw [hk _ _ hi]
      dsimp only
      rw [List.getElem?_eq_getElem hkl]
      dsimp only
      rw [e1]
      have q := hs d r ρ hi
      cases h2 : tgt ρ t d with
      | none => rw [h2] at q; exact q.elim
      | some ρ1 =>
        rw [h2] at q
        dsimp only
        simp only [wO_some, wSs] at q
        have go : ∀ ρ2, I r ρ2 → (eachE (fun x_1 ρ => match tgt ρ t x_1 with
          | some ρ => exs T x ρ
          | none => .bad) i n (k + 1) ρ2).wp K := fun ρ2 h => by
          have := ih n (k + 1) ρ2 (by omega) (by omega) e2 h
          unfold wFE at this
          exact this
        cases h3 : exs T x ρ1 with
        | nx ρ2 => rw [h3] at q; exact go ρ2 q
        | ct ρ2 => rw [h3] at q; exact go ρ2 q
        | br ρ2 => rw [h3] at q; exact q
        | rt v ρ2 => rw [h3] at q; exact q
        | exc e ρ2 => rw [h3] at q; exact q.elim
        | bad => rw [h3] at q; exact q.elim
@[irreducible] def wWhl (T : Tb) (c : CE) (b : CSs) (n : Nat) (ρ : Env) (K : Kn) : Prop := (whileN (fun ρ => ev T c ρ) (fun ρ => exs T b ρ) n ρ).wp K
theorem wS_whl {x : CSs} : wS T (.whl c x) ρ K = wWhl T c x TURNS ρ K := by simp only [wS, ex, wWhl]
theorem wWhl_succ {x : CSs} {n : Nat} : wWhl T c x (n + 1) ρ K = wE T c ρ fun v ρ1 => wB v fun k => wK k (wSs T x ρ1 { nx := fun ρ => wWhl T c x n ρ K, ct := fun ρ => wWhl T c x n ρ K, br := K.nx, rt := K.rt }) (K.nx ρ1) := by
  simp only [wWhl, wE, whileN, wp_toS]
  congr
  funext v ρ1
  cases v with
  | f d =>
    cases d with
    | bl k =>
      cases k
      · simp [wB, wK, SOut.wp]
      · simp only [wB_bl, wK_t, wSs]
        cases exs T x ρ1 <;> rfl
    | _ => rfl
  | _ => rfl
/-- a while by what holds between two turns, and a number that falls -/
theorem wWhl_inv {x : CSs} (I : Nat → Env → Prop) {m : Nat} (h0 : I m ρ)
    (hs : ∀ m ρ, I m ρ → wE T c ρ fun v ρ1 => wB v fun k => wK k (wSs T x ρ1 { nx := fun ρ => ∃ m', m' < m ∧ I m' ρ, ct := fun ρ => ∃ m', m' < m ∧ I m' ρ, br := K.nx, rt := K.rt }) (K.nx ρ1)) {n : Nat} (hm : m < n) : wWhl T c x n ρ K := by
  induction n generalizing m ρ with
  | zero => omega
  | succ n ih =>
    rw [wWhl_succ]
    refine wE_imp (hs m ρ h0) fun v ρ1 h => ?_
    cases v with
    | f d =>
      cases d with
      | bl k =>
        simp only [wB_bl] at h ⊢
        refine ⟨fun e => wSs_imp (h.1 e) ⟨?_, fun _ _ h => h, fun _ h => h, ?_⟩, h.2⟩
        · rintro ρ ⟨m', lt, i⟩; exact ih i (by omega)
        · rintro ρ ⟨m', lt, i⟩; exact ih i (by omega)
      | _ => exact h
    | _ => exact h
/-! ### calls -/
/-- what a body's end gives its caller -/
def kOf (np : Nat) (Q : Val → List Slot → Prop) : Kn where
  nx := fun ρ => Q (.f .non) ((ρ.take np).map outS)
  rt := fun v ρ => notV v ∧ Q v ((ρ.take np).map outS)
  br := fun _ => False
  ct := fun _ => False
theorem kOf_nx {np : Nat} {Q : Val → List Slot → Prop} : (kOf np Q).nx ρ = Q (.f .non) ((ρ.take np).map outS) := rfl
theorem kOf_rt {np : Nat} {Q : Val → List Slot → Prop} {v : Val} : (kOf np Q).rt v ρ = (notV v ∧ Q v ((ρ.take np).map outS)) := rfl
theorem wp_fok {v : Val} {os : List Slot} {Q : Val → List Slot → Prop} : (FOut.ok v os).wp Q = Q v os := rfl
theorem wp_run {nl : Nat} {bd : CSs} {as : List Slot} {Q : Val → List Slot → Prop} (h : wSs T bd (as.map inS ++ List.replicate (nl - as.length) .no) (kOf as.length Q)) : (run T nl bd as).wp Q := by
  unfold run
  unfold wSs at h
  cases q : exs T bd (as.map inS ++ List.replicate (nl - as.length) .no) with
  | rt v ρ =>
    rw [q] at h
    cases v with
    | v i => exact h.1.elim
    | f d => exact h.2
    | n d => exact h.2
    | t _ => exact h.2
  | nx ρ => rw [q] at h; exact h
  | _ => rw [q] at h; exact h.elim
theorem wp_runF {P : Pg} {n f np nl : Nat} {bd : CSs} {as : List Slot} {Q : Val → List Slot → Prop} (hf : P.fd f = some (.body np nl bd)) (hl : as.length = np)
    (h : wSs ⟨runF P n, P.gl, P.mt, P.fl⟩ bd (as.map inS ++ List.replicate (nl - as.length) .no) (kOf as.length Q)) : (runF P (n + 1) f as).wp Q := by
  simp only [runF, hf, hl, if_true]
  exact wp_run h
/-! ### own lists of own lists -/
def wOd (s : Slot) (F : List (List D) → Prop) : Prop := match s with
  | .od ⟨none, ks⟩ => F ks
  | _ => False
theorem wOd_od {ks : List (List D)} {F : List (List D) → Prop} : wOd (.od ⟨none, ks⟩) F = F ks := rfl
/-- the same, of any kind -/
def wOx (s : Slot) (F : Od → Prop) : Prop := match s with
  | .od o => F o
  | _ => False
theorem wOx_od {o : Od} {F : Od → Prop} : wOx (.od o) F = F o := rfl
def wFd (v : Val) (F : D → Prop) : Prop := match v with
  | .f d => F d
  | _ => False
theorem wFd_f {d : D} {F : D → Prop} : wFd (.f d) F = F d := rfl
theorem dat_l {ks : List (List D)} : (Od.mk none ks).dat = .lst (ks.map .lst) := rfl
theorem dat_k {keys : List Key} {ks : List (List D)} : (Od.mk (some keys) ks).dat = .dct (keys.zip (ks.map .lst)) := rfl
theorem wE_odx {i : Nat} {k j : CE} : wE T (.odx i k j) ρ Q = wOd (slotAt ρ i) fun _ => wE T k ρ fun v ρ1 => wOd (slotAt ρ1 i) fun ks => wInt v fun a => wO (at? ks a) fun ds => wE T j ρ1 fun w ρ2 => wInt w fun b => wO (at? ds b) fun d => Q (.f d) ρ2 := by
  simp only [wE, ev]
  cases slotAt ρ i with
  | od o =>
    obtain ⟨q, ks⟩ := o
    cases q with
    | some _ => rfl
    | none =>
    simp only [wOd_od, wp_bind]
    congr
    funext v ρ1
    cases slotAt ρ1 i with
    | od o =>
      obtain ⟨q, ks⟩ := o
      cases q with
      | some _ => cases v <;> rfl
      | none =>
      cases v with
      | f d =>
        cases d with
        | int a =>
          simp only [wOd_od, wInt_int]
          cases at? ks a with
          | none => rfl
          | some ds =>
            simp only [wO_some, wp_bind]
            congr
            funext w ρ2
            cases w with
            | f d =>
              cases d with
              | int b =>
                simp only [wInt_int]
                cases at? ds b <;> rfl
              | _ => rfl
            | _ => rfl
        | _ => rfl
      | _ => rfl
    | _ => cases v <;> rfl
  | _ => rfl
theorem wE_odxK {i : Nat} {k j : CE} : wE T (.odxK i k j) ρ Q = wOx (slotAt ρ i) fun _ => wE T k ρ fun v ρ1 => wOx (slotAt ρ1 i) fun o => wFd v fun a => wO (o.ix true a) fun m => wO o.ks[m]? fun ds => wE T j ρ1 fun w ρ2 => wInt w fun b => wO (at? ds b) fun d => Q (.f d) ρ2 := by
  simp only [wE, ev]
  cases slotAt ρ i with
  | od o =>
    simp only [wOx_od, wp_bind]
    congr
    funext v ρ1
    cases slotAt ρ1 i with
    | od o =>
      cases v with
      | f d =>
        simp only [wOx_od, wFd_f]
        cases o.ix true d with
        | none => rfl
        | some m =>
          simp only [wO_some, Option.bind_some]
          cases o.ks[m]? with
          | none => rfl
          | some ds =>
            simp only [wO_some, wp_bind]
            congr
            funext w ρ2
            cases w with
            | f d =>
              cases d with
              | int b =>
                simp only [wInt_int]
                cases at? ds b <;> rfl
              | _ => rfl
            | _ => rfl
      | _ => rfl
    | _ => cases v <;> rfl
  | _ => rfl
theorem wS_oda {i : Nat} {k : CE} : wS T (.oda i k e) ρ K = wOd (slotAt ρ i) fun _ => wE T k ρ fun v ρ1 => wOd (slotAt ρ1 i) fun ks => wInt v fun a => wO (ixOf ks.length a) fun m => wO ks[m]? fun ds => wE T e ρ1 fun w ρ2 => wD w ρ2 fun d ρ3 => ds.length < LIM ∧ K.nx (ρ3.set i (.od ⟨none, ks.set m (ds ++ [d])⟩)) := by
  simp only [wS, wE, ex]
  cases slotAt ρ i with
  | od o =>
    obtain ⟨q, ks⟩ := o
    cases q with
    | some _ => rfl
    | none =>
    simp only [wOd_od, wp_toS]
    congr
    funext v ρ1
    cases slotAt ρ1 i with
    | od o =>
      obtain ⟨q, ks⟩ := o
      cases q with
      | some _ => cases v <;> rfl
      | none =>
      cases v with
      | f d =>
        cases d with
        | int a =>
          simp only [wOd_od, wInt_int]
          cases ixOf ks.length a with
          | none => rfl
          | some m =>
            simp only [wO_some]
            cases ks[m]? with
            | none => rfl
            | some ds =>
              simp only [wO_some, wp_toS, wp_okD]
              congr
              funext w ρ2
              congr
              funext d ρ3
              by_cases h : ds.length < LIM
              · rw [if_pos h]; simp only [h, true_and]; rfl
              · rw [if_neg h]; simp only [h, false_and]; rfl
        | _ => rfl
      | _ => rfl
    | _ => cases v <;> rfl
  | _ => rfl
theorem wS_ods {dk : Bool} {i : Nat} {k j : CE} : wS T (.ods dk i k j e) ρ K = wOx (slotAt ρ i) fun _ => wE T e ρ fun w ρ1 => wE T k ρ1 fun v ρ2 => wOx (slotAt ρ2 i) fun o => wFd v fun a => wO (o.ix dk a) fun m => wO o.ks[m]? fun ds => wE T j ρ2 fun u ρ3 => wFd w fun d => wInt u fun b => wO (ixOf ds.length b) fun l => K.nx (ρ3.set i (.od ⟨o.q, o.ks.set m (ds.set l d)⟩)) := by
  simp only [wS, wE, ex]
  cases slotAt ρ i with
  | od o =>
    simp only [wOx_od, wp_toS]
    congr
    funext w ρ1
    congr
    funext v ρ2
    cases slotAt ρ2 i with
    | od o =>
      cases v with
      | f d =>
        simp only [wOx_od, wFd_f]
        cases o.ix dk d with
        | none => rfl
        | some m =>
          simp only [wO_some]
          cases o.ks[m]? with
          | none => rfl
          | some ds =>
            simp only [wO_some, wp_toS]
            congr
            funext u ρ3
            cases w with
            | f d =>
              cases u with
              | f b =>
                cases b with
                | int b =>
                  simp only [wFd_f, wInt_int]
                  cases ixOf ds.length b <;> rfl
                | _ => rfl
              | _ => rfl
            | _ => cases u <;> rfl
      | _ => rfl
    | _ => cases v <;> rfl
  | _ => rfl
theorem wS_frz {i : Nat} : wS T (.frz i) ρ K = wOx (slotAt ρ i) fun o => K.nx (ρ.set i (.fz o.dat)) := by
  simp only [wS, ex]
  cases slotAt ρ i <;> rfl
/-- the turns of a list of new lists -/
@[irreducible] def wGo (T : Tb) (e : CE) (t : CT) (own : List Nat) (items : List D) (ρ : Env) (Q : List (List D) → Env → Prop) : Prop := (gather (fun x ρ => match tgt ρ t x with
    | none => .bad
    | some ρ => (ev T e ρ).bind fun v ρ => match v with
      | .n (.lst ds) => .ok [ds] (wipeE ρ own)
      | _ => .bad) items ρ).wp Q
def wNl (v : Val) (F : List D → Prop) : Prop := match v with
  | .n (.lst ds) => F ds
  | _ => False
theorem wNl_n {ds : List D} {F : List D → Prop} : wNl (.n (.lst ds)) F = F ds := rfl
theorem wS_odl {i j : Nat} {t : CT} {it : CI} {own : List Nat} : wS T (.odl i j e t it own) ρ K = wI T it ρ fun items ρ1 => wGo T e t own items (wipeE ρ1 own) fun kss ρ2 => (kss.length ≤ LIM ∧ i ≠ j) ∧ wO (setS (unwipe ρ1 ρ2 own) i (.od ⟨none, kss⟩)) fun ρ3 => wO (setS ρ3 j (.ow (.lst []))) K.nx := by
  unfold wGo
  simp only [wS, wI, ex, wp_toS, wp_calm]
  congr
  funext items ρ1
  congr
  funext kss ρ2
  by_cases h : kss.length ≤ LIM ∧ i ≠ j
  · rw [if_pos h, wp_nxt, wO_bind]
    exact propext ⟨fun q => ⟨h, q⟩, fun q => q.2⟩
  · rw [if_neg h]; simp only [h, false_and]; rfl
/-- the turns of a dict of new lists -/
@[irreducible] def wGk (T : Tb) (es : CEs) (t : CT) (own : List Nat) (items : List D) (ρ : Env) (Q : List (Key × List D) → Env → Prop) : Prop := (gather (fun x ρ => match tgt ρ t x with
    | none => .bad
    | some ρ => (evs T es ρ).bind fun vs ρ => match keyed vs with
      | some p => .ok [p] (wipeE ρ own)
      | none => .bad) items ρ).wp Q
theorem wGk_nil {t : CT} {own : List Nat} {Q : List (Key × List D) → Env → Prop} : wGk T es t own [] ρ Q = Q [] ρ := by
  unfold wGk
  rfl
theorem wS_odd {i : Nat} {t : CT} {it : CI} {own : List Nat} : wS T (.odd i es t it own) ρ K = wI T it ρ fun items ρ1 => wGk T es t own items (wipeE ρ1 own) fun ps ρ2 => (ps.length ≤ LIM ∧ (ps.map (·.1)).Nodup) ∧ wO (setS (unwipe ρ1 ρ2 own) i (.od ⟨some (ps.map (·.1)), ps.map (·.2)⟩)) K.nx := by
  unfold wGk
  simp only [wS, wI, ex, wp_toS, wp_calm]
  congr
  funext items ρ1
  congr
  funext ps ρ2
  by_cases h : ps.length ≤ LIM ∧ (ps.map (·.1)).Nodup
  · rw [if_pos h, wp_nxt]
    exact propext ⟨fun q => ⟨h, q⟩, fun q => q.2⟩
  · rw [if_neg h]; simp only [h, false_and]; rfl
end
end PV

set_option Elab.async false
set_option linter.all false
set_option maxRecDepth 100000
set_option maxHeartbeats 1000000
/-! WpB: slots, calls, operations: rules for simp; the bundles pvE (expressions), pvS (statements), pvO (operations). -/
namespace PV
open PySem L2
section
variable {T : Tb} {α β : Type} {ρ : Env} {Q : Val → Env → Prop} {K : Kn} {a b c e : CE} {es : CEs} {i j : Nat} {s : Slot} {d : D} {x : Val} {r vs : List Val}
theorem slotAt_nil : slotAt [] i = .no := rfl
theorem slotAt_zero : slotAt (s :: ρ) 0 = s := rfl
theorem slotAt_succ : slotAt (s :: ρ) (i + 1) = slotAt ρ i := rfl
theorem set_zero {t : Slot} : List.set (s :: ρ) 0 t = t :: ρ := rfl
theorem set_succ {t : Slot} : List.set (s :: ρ) (i + 1) t = s :: List.set ρ i t := rfl
theorem set_nil {t : Slot} : List.set ([] : Env) i t = [] := rfl
def rdS : Slot → Option D
  | .ow d => some d | .pw d => some d | .fz d => some d | _ => none
theorem rd_f : rd ρ (.f d) = some d := rfl
theorem rd_n : rd ρ (.n d) = some d := rfl
theorem rd_v : rd ρ (.v i) = rdS (slotAt ρ i) := by
  simp only [rd]
  cases slotAt ρ i <;> rfl
theorem rdS_ow : rdS (.ow d) = some d := rfl
theorem rdS_pw : rdS (.pw d) = some d := rfl
theorem rdS_fz : rdS (.fz d) = some d := rfl
theorem rds_nil {F : List D → Prop} : wO (rds ρ []) F = F [] := rfl
theorem rds_cons {F : List D → Prop} : wO (rds ρ (x :: r)) F = wO (rd ρ x) fun d => wO (rds ρ r) fun ds => F (d :: ds) := by
  simp only [rds]
  cases rd ρ x with
  | none => rfl
  | some d => cases rds ρ r <;> rfl
def ownS : Slot → Option D
  | .ow d => some d | .pw d => some d | _ => none
theorem ownAt_eq : ownAt ρ i = ownS (slotAt ρ i) := by
  unfold ownAt ownS
  cases slotAt ρ i <;> rfl
theorem ownS_ow : ownS (.ow d) = some d := rfl
theorem ownS_pw : ownS (.pw d) = some d := rfl
def putS (s : Slot) (ρ : Env) (i : Nat) (d : D) (F : Env → Prop) : Prop := match s with
  | .ow _ => F (ρ.set i (.ow d))
  | .pw _ => F (ρ.set i (.pw d))
  | _ => False
theorem putOwn_eq {F : Env → Prop} : wO (putOwn ρ i d) F = putS (slotAt ρ i) ρ i d F := by
  unfold putOwn putS
  cases slotAt ρ i <;> rfl
theorem putS_ow {e : D} {F : Env → Prop} : putS (.ow e) ρ i d F = F (ρ.set i (.ow d)) := rfl
theorem putS_pw {e : D} {F : Env → Prop} : putS (.pw e) ρ i d F = F (ρ.set i (.pw d)) := rfl
theorem setS_eq {F : Env → Prop} : wO (setS ρ i s) F = ((npw (slotAt ρ i) ∧ i < ρ.length) ∧ F (ρ.set i s)) := by
  unfold setS
  cases slotAt ρ i <;> simp only [npw, true_and, false_and] <;> first | rfl | (split <;> rename_i h <;> simp [h, wO])
theorem npw_fz : npw (.fz d) = True := rfl
theorem npw_ow : npw (.ow d) = True := rfl
theorem npw_no : npw .no = True := rfl
theorem npw_pw : npw (.pw d) = False := rfl
theorem store_n {F : Env → Prop} : wO (store ρ i true (.n d)) F = wO (setS ρ i (.ow d)) F := rfl
theorem store_f {w : Bool} {F : Env → Prop} : wO (store ρ i w (.f d)) F = wO (setS ρ i (.fz d)) F := by cases w <;> rfl
theorem store_nf {F : Env → Prop} : wO (store ρ i false (.n d)) F = wO (setS ρ i (.fz d)) F := rfl
theorem store_v {w : Bool} {F : Env → Prop} : wO (store ρ i w (.v j)) F = wD (.v j) ρ fun d ρ1 => wO (setS ρ1 i (.fz d)) F := by
  unfold wD
  cases w <;> (show wO ((fr ρ (.v j)).bind _) F = _; rw [wO_bind])
theorem tgt_nm {F : Env → Prop} : wO (tgt ρ (.nm i) d) F = wO (setS ρ i (.fz d)) F := rfl
theorem tgt_tp {is : List Nat} {xs : List D} {F : Env → Prop} : wO (tgt ρ (.tp is) (.tup xs)) F = wO (setMany ρ is xs) F := rfl
theorem tgt_tpl {is : List Nat} {xs : List D} {F : Env → Prop} : wO (tgt ρ (.tp is) (.lst xs)) F = wO (setMany ρ is xs) F := rfl
theorem tgt_tq {is : List (List Nat)} {xs : List D} {F : Env → Prop} : wO (tgt ρ (.tq is) (.tup xs)) F = wO (setQ ρ is xs) F := rfl
theorem setMany_nil {F : Env → Prop} : wO (setMany ρ [] []) F = F ρ := rfl
theorem setMany_cons {is : List Nat} {xs : List D} {F : Env → Prop} : wO (setMany ρ (i :: is) (d :: xs)) F = wO (setS ρ i (.fz d)) fun ρ1 => wO (setMany ρ1 is xs) F := by simp only [setMany, wO_bind]
theorem setQ_nil {F : Env → Prop} : wO (setQ ρ [] []) F = F ρ := rfl
theorem setQ_cons {is : List (List Nat)} {xs : List D} {F : Env → Prop} : wO (setQ ρ ([i] :: is) (d :: xs)) F = wO (setS ρ i (.fz d)) fun ρ1 => wO (setQ ρ1 is xs) F := by simp only [setQ, wO_bind]
theorem setQ_tup {is : List (List Nat)} {k l : Nat} {js : List Nat} {xs ds : List D} {F : Env → Prop} : wO (setQ ρ ((k :: l :: js) :: is) (.tup ds :: xs)) F = wO (setMany ρ (k :: l :: js) ds) fun ρ1 => wO (setQ ρ1 is xs) F := by simp only [setQ, wO_bind]
def mvS (s : Slot) (ρ : Env) (i : Nat) (r : List Val) (F : List (Bool × D) × Env → Prop) : Prop := match s with
  | .ow d => wO (moveAll (ρ.set i .no) r) fun p => F ((true, d) :: p.1, p.2)
  | .fz d => wO (moveAll ρ r) fun p => F ((false, d) :: p.1, p.2)
  | _ => False
theorem mvS_ow {F : List (Bool × D) × Env → Prop} : mvS (.ow d) ρ i r F = wO (moveAll (ρ.set i .no) r) fun p => F ((true, d) :: p.1, p.2) := rfl
theorem mvS_fz {F : List (Bool × D) × Env → Prop} : mvS (.fz d) ρ i r F = wO (moveAll ρ r) fun p => F ((false, d) :: p.1, p.2) := rfl
theorem move_nil {F : List (Bool × D) × Env → Prop} : wO (moveAll ρ []) F = F ([], ρ) := rfl
theorem move_f {F : List (Bool × D) × Env → Prop} : wO (moveAll ρ (.f d :: r)) F = wO (moveAll ρ r) fun p => F ((false, d) :: p.1, p.2) := by simp only [moveAll, wO_map]
theorem move_n {F : List (Bool × D) × Env → Prop} : wO (moveAll ρ (.n d :: r)) F = wO (moveAll ρ r) fun p => F ((true, d) :: p.1, p.2) := by simp only [moveAll, wO_map]
theorem move_v {F : List (Bool × D) × Env → Prop} : wO (moveAll ρ (.v i :: r)) F = mvS (slotAt ρ i) ρ i r F := by
  simp only [moveAll]
  cases slotAt ρ i <;> simp only [mvS, wO_map] <;> rfl
theorem prep_nil {k : List Bool} {F : List Val × Env → Prop} : wO (prep ρ k []) F = F ([], ρ) := rfl
theorem prep_nt {k : List Bool} {F : List Val × Env → Prop} : wO (prep ρ (true :: k) (.n d :: r)) F = wO (prep ρ k r) fun p => F (.n d :: p.1, p.2) := by simp only [prep, List.headD_cons, if_true, List.tail_cons, wO_map]
theorem prep_nf {k : List Bool} {F : List Val × Env → Prop} : wO (prep ρ (false :: k) (.n d :: r)) F = wO (prep ρ k r) fun p => F (.f d :: p.1, p.2) := by
  show wO ((prep ρ k r).map fun p => (.f d :: p.1, p.2)) F = _
  rw [wO_map]
theorem prep_f {w : Bool} {k : List Bool} {F : List Val × Env → Prop} : wO (prep ρ (w :: k) (.f d :: r)) F = wO (prep ρ k r) fun p => F (.f d :: p.1, p.2) := by
  show wO ((fr ρ (.f d)).bind fun q => (prep q.2 k r).map fun p => (.f q.1 :: p.1, p.2)) F = _
  simp only [fr, Option.bind, wO_map]
theorem prep_v {w : Bool} {k : List Bool} {F : List Val × Env → Prop} : wO (prep ρ (w :: k) (.v i :: r)) F = wD (.v i) ρ fun d ρ1 => wO (prep ρ1 k r) fun p => F (.f d :: p.1, p.2) := by
  show wO ((fr ρ (.v i)).bind fun q => (prep q.2 k r).map fun p => (.f q.1 :: p.1, p.2)) F = _
  simp only [wO_bind, wO_map]; rfl
theorem storeAll_nil {F : Env → Prop} : wO (storeAll ρ [] []) F = F ρ := rfl
theorem storeAll_f {is : List Nat} {F : Env → Prop} : wO (storeAll ρ (i :: is) (.f d :: r)) F = wO (setS ρ i (.fz d)) fun ρ1 => wO (storeAll ρ1 is r) F := by simp only [storeAll, put1, wO_bind]
theorem storeAll_n {is : List Nat} {F : Env → Prop} : wO (storeAll ρ (i :: is) (.n d :: r)) F = wO (setS ρ i (.ow d)) fun ρ1 => wO (storeAll ρ1 is r) F := by simp only [storeAll, put1, wO_bind]
/-! ### calls -/
theorem lend_nil {u : List Nat} {k : List Bool} {F : List Slot × Env → Prop} : wO (lend ρ u k []) F = F ([], ρ) := by cases k <;> rfl
theorem lend_f {u : List Nat} {k : List Bool} {F : List Slot × Env → Prop} : wO (lend ρ u k (.f d :: r)) F = wO (lend ρ u k.tail r) fun p => F (.fz d :: p.1, p.2) := by
  rw [lend, wO_map]
theorem lend_n {u : List Nat} {k : List Bool} {F : List Slot × Env → Prop} : wO (lend ρ u k (.n d :: r)) F = wO (lend ρ u k.tail r) fun p => F (.fz d :: p.1, p.2) := by
  rw [lend, wO_map]
def lendS (s : Slot) (ρ : Env) (u : List Nat) (k : List Bool) (i : Nat) (r : List Val) (F : List Slot × Env → Prop) : Prop := match s with
  | .ow d => i ∉ u ∧ wO (lend ρ (i :: u) k r) fun p => F (.ow d :: p.1, p.2)
  | .pw d => i ∉ u ∧ wO (lend ρ (i :: u) k r) fun p => F (.ow d :: p.1, p.2)
  | .fz d => wO (lend ρ u k r) fun p => F (.fz d :: p.1, p.2)
  | _ => False
theorem lend_vt {u : List Nat} {k : List Bool} {F : List Slot × Env → Prop} : wO (lend ρ u (true :: k) (.v i :: r)) F = lendS (slotAt ρ i) ρ u k i r F := by
  show wO (match slotAt ρ i with
      | .ow d => if i ∈ u then none else (lend ρ (i :: u) k r).map fun p => (.ow d :: p.1, p.2)
      | .pw d => if i ∈ u then none else (lend ρ (i :: u) k r).map fun p => (.ow d :: p.1, p.2)
      | .fz d => (lend ρ u k r).map fun p => (.fz d :: p.1, p.2)
      | _ => none) F = _
  unfold lendS
  cases slotAt ρ i with
  | ow d => by_cases h : i ∈ u <;> simp [h, wO_map, wO_none]
  | pw d => by_cases h : i ∈ u <;> simp [h, wO_map, wO_none]
  | fz d => simp [wO_map]
  | no => rfl
  | od d => rfl
theorem lend_vx {u : List Nat} {k : List Bool} {F : List Slot × Env → Prop} : wO (if i ∈ u then none else match fr ρ (.v i) with
      | some (d, ρ1) => (lend ρ1 u k r).map fun p => (.fz d :: p.1, p.2)
      | none => none) F = (i ∉ u ∧ wD (.v i) ρ fun d ρ1 => wO (lend ρ1 u k r) fun p => F (.fz d :: p.1, p.2)) := by
  by_cases h : i ∈ u
  · simp [h, wO_none]
  · simp only [h, if_false, not_false_eq_true, true_and]
    unfold wD
    cases fr ρ (.v i) with
    | none => rfl
    | some p => simp only [wO_map, wO_some]
theorem lend_vf {u : List Nat} {k : List Bool} {F : List Slot × Env → Prop} : wO (lend ρ u (false :: k) (.v i :: r)) F = (i ∉ u ∧ wD (.v i) ρ fun d ρ1 => wO (lend ρ1 u k r) fun p => F (.fz d :: p.1, p.2)) := lend_vx
theorem lend_v0 {u : List Nat} {F : List Slot × Env → Prop} : wO (lend ρ u [] (.v i :: r)) F = (i ∉ u ∧ wD (.v i) ρ fun d ρ1 => wO (lend ρ1 u [] r) fun p => F (.fz d :: p.1, p.2)) := lend_vx
theorem lendS_ow {u : List Nat} {k : List Bool} {F : List Slot × Env → Prop} : lendS (.ow d) ρ u k i r F = (i ∉ u ∧ wO (lend ρ (i :: u) k r) fun p => F (.ow d :: p.1, p.2)) := rfl
theorem lendS_pw {u : List Nat} {k : List Bool} {F : List Slot × Env → Prop} : lendS (.pw d) ρ u k i r F = (i ∉ u ∧ wO (lend ρ (i :: u) k r) fun p => F (.ow d :: p.1, p.2)) := rfl
theorem lendS_fz {u : List Nat} {k : List Bool} {F : List Slot × Env → Prop} : lendS (.fz d) ρ u k i r F = wO (lend ρ u k r) fun p => F (.fz d :: p.1, p.2) := rfl
theorem back_nil {as os : List Slot} : back ρ [] as os = ρ := by cases as <;> cases os <;> rfl
theorem back_f {a o : Slot} {as os : List Slot} : back ρ (.f d :: r) (a :: as) (o :: os) = back ρ r as os := by cases a <;> rfl
theorem back_n {a o : Slot} {as os : List Slot} : back ρ (.n d :: r) (a :: as) (o :: os) = back ρ r as os := by cases a <;> rfl
theorem back_vf {o : Slot} {as os : List Slot} : back ρ (.v i :: r) (.fz d :: as) (o :: os) = back ρ r as os := rfl
theorem back_vo {o : Slot} {as os : List Slot} : back ρ (.v i :: r) (.ow d :: as) (o :: os) = back (backS ρ i o) r as os := rfl
def backT (s : Slot) (ρ : Env) (i : Nat) (d : D) : Env := match s with
  | .ow _ => ρ.set i (.ow d)
  | .pw _ => ρ.set i (.pw d)
  | _ => ρ
theorem backS_ow : backS ρ i (.ow d) = backT (slotAt ρ i) ρ i d := by
  unfold backS backT
  cases slotAt ρ i <;> rfl
theorem backT_ow {e : D} : backT (.ow e) ρ i d = ρ.set i (.ow d) := rfl
theorem backT_pw {e : D} : backT (.pw e) ρ i d = ρ.set i (.pw d) := rfl
theorem outS_fz : outS (.fz d) = .fz d := rfl
theorem outS_ow : outS (.ow d) = .ow d := rfl
theorem outS_pw : outS (.pw d) = .ow d := rfl
theorem outS_no : outS .no = .no := rfl
theorem inS_fz : inS (.fz d) = .fz d := rfl
theorem inS_ow : inS (.ow d) = .pw d := rfl
theorem isLst_lst {xs : List D} : isLst (some (.lst xs)) = True := rfl
/-! ### operations -/
theorem opAug_int {o : Op} {m n : Int} : opAug o (.int m) (.int n) = opD o [.int m, .int n] := rfl
theorem oEq_int {neg : Bool} {m n : Int} : oEq neg (.int m) (.int n) = some (.f (.bl (neg ^^ decide (m = n)))) := by
  simp only [oEq, D.eq3, D.eq2, flatE, D.flat, D.eqf, Option.bind, fD]
  rfl
theorem oEq_str {neg : Bool} {m n : Str} : oEq neg (.str m) (.str n) = some (.f (.bl (neg ^^ decide (m = n)))) := by
  simp only [oEq, D.eq3, D.eq2, flatE, D.flat, D.eqf, Option.bind, fD]
  rfl
theorem oEq_lnil {neg : Bool} {xs : List D} : oEq neg (.lst xs) (.lst []) = some (.f (.bl (neg ^^ xs.isEmpty))) := by
  cases xs with
  | nil => rfl
  | cons x r => rfl
theorem oEq_bl {neg p q : Bool} : oEq neg (.bl p) (.bl q) = some (.f (.bl (neg ^^ (p == q)))) := by
  simp only [oEq, D.eq3, D.eq2, flatE, D.flat, D.eqf, Option.bind, fD]
  rfl
end
theorem oq_add_int {m n : Int} : opD .add [.int m, .int n] = some (.f (.int (m + n))) := rfl
theorem oq_add_str {m n : Str} : opD .add [.str m, .str n] = if m.length + n.length ≤ LIM then some (.f (.str (m ++ n))) else none := rfl
theorem oq_add_lst {m n : List D} : opD .add [.lst m, .lst n] = if m.length + n.length ≤ LIM then some (.n (.lst (m ++ n))) else none := rfl
theorem oq_add_tup {m n : List D} : opD .add [.tup m, .tup n] = if m.length + n.length ≤ LIM then some (.f (.tup (m ++ n))) else none := rfl
theorem oq_sub_int {m n : Int} : opD .sub [.int m, .int n] = some (.f (.int (m - n))) := rfl
theorem oq_mul_int {m n : Int} : opD .mul [.int m, .int n] = if mulOk m n = true then some (.f (.int (m * n))) else none := rfl
theorem oq_mul_lst {m : List D} {n : Int} : opD .mul [.lst m, .int n] = if m.length * n.toNat ≤ LIM ∧ small n = true then some (.n (.lst (List.replicate n.toNat m).flatten)) else none := rfl
theorem oq_fdv_int {m n : Int} : opD .fdv [.int m, .int n] = if 0 < n ∧ n.natAbs.log2 < 9000 then some (.f (.int (m / n))) else none := rfl
theorem oq_mod_int {m n : Int} : opD .mod [.int m, .int n] = if 0 < n then some (.f (.int (m % n))) else none := rfl
theorem oq_pow_int {m n : Int} : opD .pow [.int m, .int n] = if 0 ≤ n ∧ ((m.natAbs.log2 + 1 : Nat) : Int) * n ≤ 1000000 then some (.f (.int (m ^ n.toNat))) else none := rfl
theorem oq_shl_int {m n : Int} : opD .shl [.int m, .int n] = if 0 ≤ n ∧ n ≤ 1000000 ∧ m.natAbs < 2 ^ 64 then some (.f (.int (m * 2 ^ n.toNat))) else none := rfl
theorem oq_neg_int {m : Int} : opD .neg [.int m] = some (.f (.int (-m))) := rfl
theorem oq_lt_int {m n : Int} : opD .lt [.int m, .int n] = some (.f (.bl (decide (m < n)))) := rfl
theorem oq_le_int {m n : Int} : opD .le [.int m, .int n] = some (.f (.bl (decide (m ≤ n)))) := rfl
theorem oq_gt_int {m n : Int} : opD .gt [.int m, .int n] = some (.f (.bl (decide (n < m)))) := rfl
theorem oq_ge_int {m n : Int} : opD .ge [.int m, .int n] = some (.f (.bl (decide (n ≤ m)))) := rfl
theorem oq_repr {m : D} : opD .repr_ [m] = oRepr m := rfl
theorem oq_str_int {i : Int} : opD .str_ [.int i] = if i.natAbs.log2 < 1920 then some (.f (.str (toString i))) else none := rfl
theorem oq_str_str {x : Str} : opD .str_ [.str x] = some (.f (.str x)) := rfl
theorem oq_eq {m n : D} : opD .eq [m, n] = oEq false m n := rfl
theorem oq_ne {m n : D} : opD .ne [m, n] = oEq true m n := rfl
theorem oq_isN {m : D} : opD .isN [m] = some (.f (.bl (isNone m))) := rfl
theorem oq_isnN {m : D} : opD .isnN [m] = some (.f (.bl (!isNone m))) := rfl
theorem oq_in {m n : D} : opD .inn [m, n] = oIn false m n := rfl
theorem oq_nin {m n : D} : opD .nin [m, n] = oIn true m n := rfl
theorem oIn_lst {neg : Bool} {m : D} {xs : List D} : oIn neg m (.lst xs) = if (D.flat m && xs.all D.flat) = true then some (.f (.bl (neg ^^ xs.any fun x => D.eqf x m))) else none := by cases m <;> rfl
theorem oIn_tup {neg : Bool} {m : D} {xs : List D} : oIn neg m (.tup xs) = if (D.flat m && xs.all D.flat) = true then some (.f (.bl (neg ^^ xs.any fun x => D.eqf x m))) else none := by cases m <;> rfl
theorem oIn_dct {neg : Bool} {m : D} {kvs : List (Key × D)} : oIn neg m (.dct kvs) = (keyOf m).bind fun k => some (.f (.bl (neg ^^ (look kvs k).isSome))) := by cases m <;> rfl
theorem oIn_str {neg : Bool} {y z : Str} : oIn neg (.str y) (.str z) = if isSign y = true then some (.f (.bl (neg ^^ decide (y.cps.getD 0 0 ∈ z.cps.toList)))) else none := rfl
theorem keyOf_int {m : Int} : keyOf (.int m) = some (.inl m) := rfl
theorem keyOf_str {m : Str} : keyOf (.str m) = some (.inr m) := rfl
theorem oq_idx_lst {xs : List D} {m : Int} : opD .idx [.lst xs, .int m] = (at? xs m).map .f := rfl
theorem oq_idx_tup {xs : List D} {m : Int} : opD .idx [.tup xs, .int m] = (at? xs m).map .f := rfl
theorem oq_idx_dct {kvs : List (Key × D)} {m : D} : opD .idx [.dct kvs, m] = ((keyOf m).bind (look kvs)).map .f := by cases m <;> rfl
theorem oq_idx_str {z : Str} {m : Int} : opD .idx [.str z, .int m] = if z.length ≤ LIM then (at? z.cps.toList m).map fun c => .f (.str ⟨#[c]⟩) else none := rfl
theorem oq_rev_lst {xs : List D} : opD .rev [.lst xs] = some (.n (.lst xs.reverse)) := rfl
theorem oq_rev_tup {xs : List D} : opD .rev [.tup xs] = some (.f (.tup xs.reverse)) := rfl
theorem oq_join_lst {z : Str} {xs : List D} : opD (.join z) [.lst xs] = (strsOf xs).bind fun ys => if (ys.map (·.length)).sum + ys.length * z.length ≤ LIM then some (.f (.str (Str.join z ys))) else none := rfl
theorem oq_len_lst {xs : List D} : opD .len [.lst xs] = some (.f (.int xs.length)) := rfl
theorem oq_len_tup {xs : List D} : opD .len [.tup xs] = some (.f (.int xs.length)) := rfl
theorem oq_len_dct {xs : List (Key × D)} : opD .len [.dct xs] = some (.f (.int xs.length)) := rfl
theorem oq_len_str {z : Str} : opD .len [.str z] = if z.length ≤ LIM then some (.f (.int z.length)) else none := rfl
theorem oq_int_int {m : Int} : opD .int_ [.int m] = some (.f (.int m)) := rfl
theorem oq_int_bl {m : Bool} : opD .int_ [.bl m] = some (.f (.int (if m then 1 else 0))) := rfl
theorem oq_max2 {m n : Int} : opD .max2 [.int m, .int n] = some (.f (.int (if n > m then n else m))) := rfl
theorem oq_min2 {m n : Int} : opD .min2 [.int m, .int n] = some (.f (.int (if n < m then n else m))) := rfl
theorem oq_sum {xs : List D} : opD .sum [.lst xs] = (intsOf xs).map fun is => .f (.int is.sum) := by
  show (intsOf xs).bind _ = _
  cases intsOf xs <;> rfl
theorem oq_list_lst {xs : List D} : opD .list_ [.lst xs] = some (.n (.lst xs)) := rfl
theorem oq_list_tup {xs : List D} : opD .list_ [.tup xs] = some (.n (.lst xs)) := rfl
theorem oq_list_dct {kvs : List (Key × D)} : opD .list_ [.dct kvs] = some (.n (.lst (kvs.map fun p => keyD p.1))) := rfl
theorem oq_tuple_lst {xs : List D} : opD .tuple_ [.lst xs] = some (.f (.tup xs)) := rfl
theorem oq_tuple_tup {xs : List D} : opD .tuple_ [.tup xs] = some (.f (.tup xs)) := rfl
theorem oq_sorted_dct {kvs : List (Key × D)} : opD .sorted_ [.dct kvs] = (sortD (kvs.map fun p => keyD p.1)).map fun ys => .n (.lst ys) := by
  show (sortD _).bind _ = _
  cases sortD (kvs.map fun p => keyD p.1) <;> rfl
theorem oq_sorted_lst {xs : List D} : opD .sorted_ [.lst xs] = (sortD xs).map fun ys => .n (.lst ys) := by
  show (sortD _).bind _ = _
  cases sortD xs <;> rfl
theorem oq_all {xs : List D} : opD .all_ [.lst xs] = (boolsOf xs).map fun is => .f (.bl (is.all id)) := by
  show (boolsOf xs).bind _ = _
  cases boolsOf xs <;> rfl
theorem oq_any {xs : List D} : opD .any_ [.lst xs] = (boolsOf xs).map fun is => .f (.bl (is.any id)) := by
  show (boolsOf xs).bind _ = _
  cases boolsOf xs <;> rfl
theorem oq_abs {m : Int} : opD .abs_ [.int m] = some (.f (.int (if m < 0 then -m else m))) := rfl
theorem oq_dvm {m n : Int} : opD .dvm [.int m, .int n] = if 0 < n ∧ n.natAbs.log2 < 9000 then some (.f (.tup [.int (m / n), .int (m % n)])) else none := rfl
theorem oq_dictP_lst {xs : List D} : opD .dictP [.lst xs] = (pairsOf xs).map fun ps => .n (.dct (putAll [] ps)) := by
  show (pairsOf xs).bind _ = _
  cases pairsOf xs <;> rfl
theorem oq_dictP_dct {kvs : List (Key × D)} : opD .dictP [.dct kvs] = some (.n (.dct kvs)) := rfl
theorem oq_isInt {m : D} : opD .isInt [m] = oTy dInt m := rfl
theorem oq_isBool {m : D} : opD .isBool [m] = oTy dBool m := rfl
theorem oq_isStr {m : D} : opD .isStr [m] = oTy dStr m := rfl
theorem oq_isList {m : D} : opD .isList [m] = oTy dList m := rfl
theorem oq_isTuple {m : D} : opD .isTuple [m] = oTy dTuple m := rfl
theorem oq_isDict {m : D} : opD .isDict [m] = oTy dDict m := rfl
theorem oq_isObj {C : Nat} {m : D} : opD (.isObj C) [m] = oObj C m := rfl
theorem oObj_obj {B C : Nat} {fs : List (Nat × D)} : oObj C (.obj B fs) = if B = C then some (.f (.bl true)) else none := rfl
section
variable {p : D → Bool}
theorem oTy_non : oTy p .non = some (.f (.bl (p .non))) := rfl
theorem oTy_int {m : Int} : oTy p (.int m) = some (.f (.bl (p (.int m)))) := rfl
theorem oTy_bl {m : Bool} : oTy p (.bl m) = some (.f (.bl (p (.bl m)))) := rfl
theorem oTy_str {m : Str} : oTy p (.str m) = some (.f (.bl (p (.str m)))) := rfl
theorem oTy_lst {m : List D} : oTy p (.lst m) = some (.f (.bl (p (.lst m)))) := rfl
theorem oTy_tup {m : List D} : oTy p (.tup m) = some (.f (.bl (p (.tup m)))) := rfl
theorem oTy_dct {m : List (Key × D)} : oTy p (.dct m) = some (.f (.bl (p (.dct m)))) := rfl
end
theorem dInt_int {m : Int} : dInt (.int m) = true := rfl
theorem dInt_bl {m : Bool} : dInt (.bl m) = true := rfl
theorem dInt_str {m : Str} : dInt (.str m) = false := rfl
theorem dInt_lst {m : List D} : dInt (.lst m) = false := rfl
theorem dInt_non : dInt .non = false := rfl
theorem dBool_int {m : Int} : dBool (.int m) = false := rfl
theorem dBool_bl {m : Bool} : dBool (.bl m) = true := rfl
theorem dStr_str {m : Str} : dStr (.str m) = true := rfl
theorem dStr_int {m : Int} : dStr (.int m) = false := rfl
theorem dList_lst {m : List D} : dList (.lst m) = true := rfl
theorem dList_tup {m : List D} : dList (.tup m) = false := rfl
theorem dTuple_tup {m : List D} : dTuple (.tup m) = true := rfl
theorem dTuple_lst {m : List D} : dTuple (.lst m) = false := rfl
theorem dDict_dct {m : List (Key × D)} : dDict (.dct m) = true := rfl
theorem isNone_non : isNone .non = true := rfl
theorem isNone_int {m : Int} : isNone (.int m) = false := rfl
theorem isNone_lst {m : List D} : isNone (.lst m) = false := rfl
theorem isNone_tup {m : List D} : isNone (.tup m) = false := rfl
theorem isNone_str {m : Str} : isNone (.str m) = false := rfl
theorem at_0 {α : Type} {xs : List α} : at? xs 0 = xs[0]? := by
  cases xs with
  | nil => rfl
  | cons x r => simp [at?, ixOf]
theorem at_nat {α : Type} {xs : List α} {n : Nat} : at? xs (n : Int) = xs[n]? := by
  unfold at? ixOf
  rw [if_pos (by omega)]
  by_cases h : n < xs.length
  · rw [if_pos (by omega)]; rfl
  · rw [if_neg (by omega)]; simp at h; simp [h]
theorem at_1 {α : Type} {xs : List α} : at? xs 1 = xs[1]? := at_nat (n := 1)
theorem at_2 {α : Type} {xs : List α} : at? xs 2 = xs[2]? := at_nat (n := 2)
theorem at_3 {α : Type} {xs : List α} : at? xs 3 = xs[3]? := at_nat (n := 3)
theorem at_4 {α : Type} {xs : List α} : at? xs 4 = xs[4]? := at_nat (n := 4)
theorem at_m1 {α : Type} {xs : List α} : at? xs (-1) = xs.getLast? := by
  unfold at? ixOf
  rw [if_neg (by omega)]
  cases xs with
  | nil => rfl
  | cons x r =>
    rw [if_pos (by simp only [List.length_cons]; omega), List.getLast?_eq_getElem?]
    simp only [Option.bind]
    congr 1
    simp only [List.length_cons]
    omega
/-- o[k] = x by a written place -/
theorem ixOf_nat {n m : Nat} : ixOf n (m : Int) = if m < n then some m else none := by
  unfold ixOf
  rw [if_pos (by omega)]
  by_cases h : m < n
  · rw [if_pos (by omega), if_pos h]; rfl
  · rw [if_neg (by omega), if_neg h]
theorem ixOf_0 {n : Nat} : ixOf n 0 = if 0 < n then some 0 else none := ixOf_nat (m := 0)
theorem ixOf_1 {n : Nat} : ixOf n 1 = if 1 < n then some 1 else none := ixOf_nat (m := 1)
theorem ixOf_2 {n : Nat} : ixOf n 2 = if 2 < n then some 2 else none := ixOf_nat (m := 2)
theorem setD_lst {xs : List D} {m : Int} {y : D} : setD (.lst xs) (.int m) y = (ixOf xs.length m).map fun k => .lst (xs.set k y) := rfl
theorem setD_dct {kvs : List (Key × D)} {m y : D} : setD (.dct kvs) m y = (keyOf m).bind fun k => if kvs.length < LIM then some (.dct (putD k y kvs)) else none := rfl
theorem mut_append {xs : List D} {y : D} : mutD .append (.lst xs) [y] = if xs.length < LIM then some (.non, .lst (xs ++ [y])) else none := rfl
theorem mut_extend {xs ys : List D} : mutD .extend (.lst xs) [.lst ys] = if xs.length + ys.length ≤ LIM then some (.non, .lst (xs ++ ys)) else none := rfl
theorem mut_pop {xs : List D} : mutD .pop (.lst xs) [] = (xs[xs.length - 1]?).map fun x => (x, .lst xs.dropLast) := rfl
theorem mut_popAt {xs : List D} {m : Int} : mutD .popAt (.lst xs) [.int m] = if small m = true then (ixOf xs.length m).bind fun k => (xs[k]?).map fun x => (x, .lst (xs.eraseIdx k)) else none := rfl
theorem mut_clear {xs : List D} : mutD .clear (.lst xs) [] = some (.non, .lst []) := rfl
theorem spread_f {d : D} : spread false d = some [d] := rfl
theorem spread_lst {xs : List D} : spread true (.lst xs) = some xs := rfl
theorem spread_tup {xs : List D} : spread true (.tup xs) = some xs := rfl
theorem sliD_lst {lo hi : Option Int} {xs : List D} : sliD lo hi (.lst xs) = some (.n (.lst (cut xs lo hi))) := rfl
theorem sliD_str {lo hi : Option Int} {z : Str} : sliD lo hi (.str z) = if z.length ≤ LIM then some (.f (.str ⟨(cut z.cps.toList lo hi).toArray⟩)) else none := rfl
theorem sliD_tup {lo hi : Option Int} {xs : List D} : sliD lo hi (.tup xs) = some (.f (.tup (cut xs lo hi))) := rfl
theorem wipeE_nil {ρ : Env} : wipeE ρ [] = ρ := rfl
theorem wipeE_cons {ρ : Env} {i : Nat} {r : List Nat} : wipeE ρ (i :: r) = (wipeE ρ r).set i .no := rfl
theorem unwipe_nil {ρ ρ' : Env} : unwipe ρ ρ' [] = ρ' := rfl
theorem unwipe_cons {ρ ρ' : Env} {i : Nat} {r : List Nat} : unwipe ρ ρ' (i :: r) = (unwipe ρ ρ' r).set i (slotAt ρ i) := rfl
theorem wMut_eq {o : MOp} {i : Nat} {ds : List D} {ρ : Env} {Q : Val → Env → Prop} : wMut o i ds ρ Q = wO (ownAt ρ i) fun d => wO (mutD o d ds) fun p => putS (slotAt ρ i) ρ i p.2 fun ρ1 => Q (.f p.1) ρ1 := by
  unfold wMut
  simp only [putOwn_eq]
end PV

set_option Elab.async false
set_option linter.all false
set_option maxRecDepth 100000
set_option maxHeartbeats 4000000
namespace LN
open PV
/-- 0: is_int(value) -/
abbrev c_is_int : CSs := (.cons (.ret (.and_ (.op .isInt (.cons (.var 0) .nil)) (.not_ (.op .isBool (.cons (.var 0) .nil))))) .nil)
/-- 1: is_whole(value, low, high) -/
abbrev c_is_whole : CSs := (.cons (.ret (.and_ (.call 0 [] (.cons (.var 0) .nil)) (.chn .le .le (.var 1) (.var 0) (.var 2)))) .nil)
/-- 2: is_time(value) -/
abbrev c_is_time : CSs := (.cons (.ret (.call 1 [] (.cons (.var 0) (.cons (.cst (.int 0)) (.cons (.glb 0) .nil))))) .nil)
/-- 3: is_name(value, letter) -/
abbrev c_is_name : CSs := (.cons (.ifs (.or_ (.not_ (.op .isStr (.cons (.var 0) .nil))) (.not_ (.chn .le .le (.cst (.int 1)) (.op .len (.cons (.var 0) .nil)) (.cst (.int 8))))) (.cons (.ret (.cst (.bl false))) .nil) .nil) (.cons (.ret (.op .all_ (.cons (.lc (.op .inn (.cons (.var 1) (.cons (.cst (.str "abcdefghijklmnopqrstuvwxyz")) .nil))) (.nm 1) (.seq (.var 0)) (.cst (.bl true)) [1]) .nil))) .nil))
/-- 4: valid_places(value, number) -/
abbrev c_valid_places : CSs := (.cons (.ifs (.or_ (.not_ (.op .isList (.cons (.var 0) .nil))) (.op .ge (.cons (.op .len (.cons (.var 0) .nil)) (.cons (.glb 1) .nil)))) (.cons (.ret (.cst (.bl false))) .nil) .nil) (.cons (.ifs (.not_ (.op .all_ (.cons (.lc (.call 1 [] (.cons (.var 1) (.cons (.cst (.int 0)) (.cons (.glb 2) .nil)))) (.nm 1) (.seq (.var 0)) (.cst (.bl true)) [1]) .nil))) (.cons (.ret (.cst (.bl false))) .nil) .nil) (.cons (.ret (.op .le (.cons (.op .add (.cons (.op .add (.cons (.op .len (.cons (.var 0) .nil)) (.cons (.cst (.int 1)) .nil))) (.cons (.op .sum (.cons (.var 0) .nil)) .nil))) (.cons (.glb 3) .nil)))) .nil)))
/-- 5: require_kinds(value, stations, key, times, time) -/
abbrev c_require_kinds : CSs := (.cons (.ifs (.or_ (.not_ (.op .isDict (.cons (.var 0) .nil))) (.not_ (.chn .le .le (.cst (.int 1)) (.op .len (.cons (.var 0) .nil)) (.glb 4)))) (.cons .wall .nil) .nil) (.cons (.fors (.tp [2, 3]) (.itm (.var 0)) (.cons (.ifs (.or_ (.not_ (.call 3 [] (.cons (.var 2) .nil))) (.or_ (.not_ (.op .isList (.cons (.var 3) .nil))) (.op .ne (.cons (.op .len (.cons (.var 3) .nil)) (.cons (.var 1) .nil))))) (.cons .wall .nil) .nil) (.cons (.ifs (.not_ (.op .all_ (.cons (.lc (.call 2 [] (.cons (.var 4) .nil)) (.nm 4) (.seq (.var 3)) (.cst (.bl true)) [4]) .nil))) (.cons .wall .nil) .nil) .nil))) .nil))
/-- 6: Line.__init__(self, places, kinds, name, times) -/
abbrev c_Line_init : CSs := (.cons (.ifs (.not_ (.call 4 [] (.cons (.var 1) .nil))) (.cons .wall .nil) .nil) (.cons (.exp (.call 5 [] (.cons (.var 2) (.cons (.op .add (.cons (.op .len (.cons (.var 1) .nil)) (.cons (.cst (.int 1)) .nil))) .nil)))) (.cons (.fset 0 0 (.op .tuple_ (.cons (.var 1) .nil))) (.cons (.fset 0 1 (.dc (.var 3) (.op .tuple_ (.cons (.var 4) .nil)) (.tp [3, 4]) (.itm (.var 2)) (.cst (.bl true)) [3, 4])) .nil))))
/-- 7: Line.places(self) -/
abbrev c_Line_places : CSs := (.cons (.ret (.op .list_ (.cons (.fld 0 (.var 0)) .nil))) .nil)
/-- 8: Line.kinds(self, name, times) -/
abbrev c_Line_kinds : CSs := (.cons (.ret (.dc (.var 1) (.op .list_ (.cons (.var 2) .nil)) (.tp [1, 2]) (.itm (.fld 1 (.var 0))) (.cst (.bl true)) [1, 2])) .nil)
/-- 11: Line.__eq__(self, other) -/
abbrev c_Line_eq : CSs := (.cons (.ifs (.not_ (.op (.isObj 0) (.cons (.var 1) .nil))) (.cons (.ret (.cst (.bl false))) .nil) .nil) (.cons (.ret (.and_ (.op .eq (.cons (.fld 0 (.var 0)) (.cons (.fld 0 (.var 1)) .nil))) (.op .eq (.cons (.fld 1 (.var 0)) (.cons (.fld 1 (.var 1)) .nil))))) .nil))
/-- 26: require_line(value) -/
abbrev c_require_line : CSs := (.cons (.ifs (.not_ (.op (.isObj 0) (.cons (.var 0) .nil))) (.cons .wall .nil) .nil) .nil)
/-- 9: Line.names(self) -/
abbrev c_Line_names : CSs := (.cons (.ret (.op .sorted_ (.cons (.fld 1 (.var 0)) .nil))) .nil)
/-- 10: Line.stations(self) -/
abbrev c_Line_stations : CSs := (.cons (.ret (.op .add (.cons (.op .len (.cons (.fld 0 (.var 0)) .nil)) (.cons (.cst (.int 1)) .nil)))) .nil)
/-- the defs stand in the program -/
structure Has (P : Pg) : Prop where
  is_int : P.fd 0 = some (.body 1 1 c_is_int)
  is_whole : P.fd 1 = some (.body 3 3 c_is_whole)
  is_time : P.fd 2 = some (.body 1 1 c_is_time)
  is_name : P.fd 3 = some (.body 1 2 c_is_name)
  valid_places : P.fd 4 = some (.body 1 2 c_valid_places)
  require_kinds : P.fd 5 = some (.body 2 5 c_require_kinds)
  Line_init : P.fd 6 = some (.body 3 5 c_Line_init)
  Line_places : P.fd 7 = some (.body 1 1 c_Line_places)
  Line_kinds : P.fd 8 = some (.body 1 3 c_Line_kinds)
  Line_eq : P.fd 11 = some (.body 2 2 c_Line_eq)
  require_line : P.fd 26 = some (.body 1 1 c_require_line)
end LN

set_option Elab.async false
set_option linter.all false
set_option maxRecDepth 100000
set_option maxHeartbeats 4000000
namespace RL
open PV
/-- 16: _law_wound(_law_script, _law_k, _law_cell) -/
abbrev c_law_wound : CSs := (.cons (.asg (.nm 2) false (.cst (.int 0))) (.cons (.ifs (.op .lt (.cons (.var 1) (.cons (.op .len (.cons (.var 0) .nil)) .nil))) (.cons (.asg (.nm 2) false (.op .idx (.cons (.var 0) (.cons (.var 1) .nil)))) .nil) .nil) (.cons (.ret (.lst (.cons (.op .max2 (.cons (.cst (.int 0)) (.cons (.op .sub (.cons (.var 2) (.cons (.op .pow (.cons (.cst (.int 10)) (.cons (.cst (.int 18)) .nil))) .nil))) .nil))) (.cons (.op .add (.cons (.op .add (.cons (.op .mul (.cons (.op .mod (.cons (.op .int_ (.cons (.var 2) .nil)) (.cons (.op .add (.cons (.op .pow (.cons (.cst (.int 10)) (.cons (.cst (.int 38)) .nil))) (.cons (.cst (.int 133)) .nil))) .nil))) (.cons (.cst (.int 67)) .nil))) (.cons (.op .mul (.cons (.cst (.int 141650939)) (.cons (.var 1) .nil))) .nil))) (.cons (.cst (.int 23)) .nil))) (.cons (.cst (.int 0)) .nil))))) .nil)))
/-- 17: _law_spin(_law_reel, _law_many, _law_drawn, _law_mixed_here) -/
abbrev c_law_spin : CSs := (.cons (.ifs (.op .gt (.cons (.op .idx (.cons (.var 0) (.cons (.cst (.int 0)) .nil))) (.cons (.cst (.int 0)) .nil))) (.cons (.asg (.nm 2) false (.op .mod (.cons (.op .int_ (.cons (.op .idx (.cons (.var 0) (.cons (.cst (.int 0)) .nil))) .nil)) (.cons (.var 1) .nil)))) (.cons (.sset 0 (.cst (.int 0)) (.op .fdv (.cons (.op .idx (.cons (.var 0) (.cons (.cst (.int 0)) .nil))) (.cons (.var 1) .nil)))) (.cons (.ret (.var 2)) .nil))) .nil) (.cons (.sset 0 (.cst (.int 2)) (.op .add (.cons (.op .idx (.cons (.var 0) (.cons (.cst (.int 2)) .nil))) (.cons (.cst (.int 1)) .nil)))) (.cons (.asg (.nm 3) false (.op .mod (.cons (.op .int_ (.cons (.op .pow (.cons (.op .add (.cons (.op .idx (.cons (.var 0) (.cons (.cst (.int 1)) .nil))) (.cons (.op .mul (.cons (.cst (.int 86028121)) (.cons (.op .idx (.cons (.var 0) (.cons (.cst (.int 2)) .nil))) .nil))) .nil))) (.cons (.cst (.int 3)) .nil))) .nil)) (.cons (.op .add (.cons (.op .pow (.cons (.cst (.int 10)) (.cons (.cst (.int 42)) .nil))) (.cons (.cst (.int 63)) .nil))) .nil)))) (.cons (.asg (.nm 3) false (.op .mod (.cons (.op .int_ (.cons (.op .pow (.cons (.op .add (.cons (.var 3) (.cons (.op .mul (.cons (.cst (.int 67867967)) (.cons (.op .idx (.cons (.var 0) (.cons (.cst (.int 2)) .nil))) .nil))) .nil))) (.cons (.cst (.int 3)) .nil))) .nil)) (.cons (.op .add (.cons (.op .pow (.cons (.cst (.int 10)) (.cons (.cst (.int 44)) .nil))) (.cons (.cst (.int 57)) .nil))) .nil)))) (.cons (.ret (.op .mod (.cons (.op .int_ (.cons (.op .fdv (.cons (.var 3) (.cons (.cst (.int 655331)) .nil))) .nil)) (.cons (.var 1) .nil)))) .nil)))))
/-- 18: _law_mixed(_law_reel, _law_items, _law_left, _law_found) -/
abbrev c_law_mixed : CSs := (.cons (.par [2, 3] [true, true] (.cons (.op .list_ (.cons (.var 1) .nil)) (.cons (.lst .nil) .nil))) (.cons (.whl (.op .ne (.cons (.var 2) (.cons (.lst .nil) .nil))) (.cons (.exp (.mut .append 3 (.cons (.mut .popAt 2 (.cons (.call 17 [true, false] (.cons (.var 0) (.cons (.op .len (.cons (.var 2) .nil)) .nil))) .nil)) .nil))) .nil)) (.cons (.ret (.var 3)) .nil)))
/-- 19: _law_some_room(_law_reel, _law_many, _law_found, _law_turn) -/
abbrev c_law_some_room : CSs := (.cons (.asg (.nm 2) true (.lst .nil)) (.cons (.fors (.nm 3) (.rng (.op .sub (.cons (.var 1) (.cons (.cst (.int 1)) .nil)))) (.cons (.exp (.mut .append 2 (.cons (.op .min2 (.cons (.op .idx (.cons (.lst (.cons (.cst (.int 0)) (.cons (.cst (.int 1)) (.cons (.cst (.int 0)) (.cons (.cst (.int 2)) (.cons (.cst (.int 3)) .nil)))))) (.cons (.call 17 [true, false] (.cons (.var 0) (.cons (.cst (.int 5)) .nil))) .nil))) (.cons (.op .sub (.cons (.op .sub (.cons (.cst (.int 10)) (.cons (.var 1) .nil))) (.cons (.op .sum (.cons (.var 2) .nil)) .nil))) .nil))) .nil))) .nil)) (.cons (.ret (.var 2)) .nil)))
/-- 20: _law_some_kinds(_law_reel, _law_many, _law_wide, _law_found, _law_name, _law_turn) -/
abbrev c_law_some_kinds : CSs := (.cons (.asg (.nm 3) true (.dctN false)) (.cons (.fors (.nm 4) (.seq (.sli (.call 18 [true, false] (.cons (.var 0) (.cons (.lst (.cons (.cst (.str "a")) (.cons (.cst (.str "b")) (.cons (.cst (.str "x")) (.cons (.cst (.str "places")) (.cons (.cst (.str "abcdefgh")) .nil)))))) .nil))) (.cst .non) (.op .add (.cons (.cst (.int 1)) (.cons (.call 17 [true, false] (.cons (.var 0) (.cons (.cst (.int 3)) .nil))) .nil))))) (.cons (.sset 3 (.var 4) (.lc (.op .idx (.cons (.lst (.cons (.cst (.int 0)) (.cons (.cst (.int 1)) (.cons (.cst (.int 2)) (.cons (.call 17 [true, false] (.cons (.var 0) (.cons (.cst (.int 6)) .nil))) (.cons (.call 17 [true, false] (.cons (.var 0) (.cons (.var 2) .nil))) .nil)))))) (.cons (.call 17 [true, false] (.cons (.var 0) (.cons (.cst (.int 5)) .nil))) .nil))) (.nm 5) (.rng (.var 1)) (.cst (.bl true)) [5])) .nil)) (.cons (.ret (.var 3)) .nil)))
/-- the defs stand in the program -/
structure Has (P : Pg) : Prop where
  law_wound : P.fd 16 = some (.body 2 3 c_law_wound)
  law_spin : P.fd 17 = some (.body 2 4 c_law_spin)
  law_mixed : P.fd 18 = some (.body 2 4 c_law_mixed)
  law_some_room : P.fd 19 = some (.body 2 4 c_law_some_room)
  law_some_kinds : P.fd 20 = some (.body 3 6 c_law_some_kinds)
end RL

set_option Elab.async false
set_option linter.all false
set_option maxRecDepth 100000
set_option maxHeartbeats 1000000
/-! WpC: comprehensions by their items; lists of ints and bools. -/
namespace PV
open PySem
open L2 (Key)
section
variable {T : Tb} {ρ : Env} {QD : List D → Env → Prop} {e c k : CE} {t : CT} {own : List Nat} {items : List D}
theorem wG_imp {QD' : List D → Env → Prop} (h : wG T e c t own items ρ QD) (i : ∀ ds ρ, QD ds ρ → QD' ds ρ) : wG T e c t own items ρ QD' := by
  unfold wG at h ⊢
  exact Out.imp h i
/-- every item gives one value, nothing changes -/
theorem wG_map (g : D → D) (hx : ∀ x ∈ items, wO (tgt ρ t x) fun ρ1 => wE T c ρ1 fun b ρ2 => wB b fun k => k = true ∧ wE T e ρ2 fun v ρ3 => wD v ρ3 fun d ρ4 => d = g x ∧ wipeE ρ4 own = ρ) (hq : QD (items.map g) ρ) : wG T e c t own items ρ QD := by
  induction items generalizing QD with
  | nil => rw [wG_nil]; exact hq
  | cons x r ih =>
    rw [wG_cons]
    refine wO_imp (hx x List.mem_cons_self) fun ρ1 h => ?_
    refine wE_imp h fun b ρ2 h => ?_
    cases b with
    | f d =>
      cases d with
      | bl k =>
        simp only [wB_bl] at h ⊢
        obtain ⟨rfl, h⟩ := h
        rw [wK_t]
        refine wE_imp h fun v ρ3 h => ?_
        refine wO_imp h fun p ⟨h1, h2⟩ => ?_
        show wG _ _ _ _ _ _ (wipeE p.2 own) _
        rw [h2]
        exact ih (fun y hy => hx y (List.mem_cons_of_mem _ hy)) (by rw [h1]; exact hq)
      | _ => exact h.elim
    | _ => exact h.elim
theorem wG_mapL {β : Type} {l : List β} {f : β → D} (g : β → D) (hx : ∀ y ∈ l, wO (tgt ρ t (f y)) fun ρ1 => wE T c ρ1 fun b ρ2 => wB b fun k => k = true ∧ wE T e ρ2 fun v ρ3 => wD v ρ3 fun d ρ4 => d = g y ∧ wipeE ρ4 own = ρ) (hq : QD (l.map g) ρ) : wG T e c t own (l.map f) ρ QD := by
  induction l generalizing QD with
  | nil => rw [List.map_nil, wG_nil]; exact hq
  | cons x r ih =>
    rw [List.map_cons, wG_cons]
    refine wO_imp (hx x List.mem_cons_self) fun ρ1 h => ?_
    refine wE_imp h fun b ρ2 h => ?_
    cases b with
    | f d =>
      cases d with
      | bl k =>
        simp only [wB_bl] at h ⊢
        obtain ⟨rfl, h⟩ := h
        rw [wK_t]
        refine wE_imp h fun v ρ3 h => ?_
        refine wO_imp h fun p ⟨h1, h2⟩ => ?_
        show wG _ _ _ _ _ _ (wipeE p.2 own) _
        rw [h2]
        exact ih (fun y hy => hx y (List.mem_cons_of_mem _ hy)) (by rw [h1]; exact hq)
      | _ => exact h.elim
    | _ => exact h.elim
/-- every item gives True -/
theorem wG_all (hx : ∀ x ∈ items, wO (tgt ρ t x) fun ρ1 => wE T c ρ1 fun b ρ2 => wB b fun k => k = true ∧ wE T e ρ2 fun v ρ3 => wD v ρ3 fun d ρ4 => d = .bl true ∧ wipeE ρ4 own = ρ) (hq : QD (List.replicate items.length (.bl true)) ρ) : wG T e c t own items ρ QD :=
  wG_map (fun _ => .bl true) hx (by rw [List.map_const']; exact hq)
/-- by what holds between two turns: what is left, what is made, the frame -/
theorem wG_inv (I : List D → List D → Env → Prop) (h0 : I items [] ρ) (hs : ∀ x r acc ρ, I (x :: r) acc ρ → wO (tgt ρ t x) fun ρ1 => wE T c ρ1 fun b ρ2 => wB b fun k => wK k (wE T e ρ2 fun v ρ3 => wD v ρ3 fun d ρ4 => I r (acc ++ [d]) (wipeE ρ4 own)) (I r acc (wipeE ρ2 own)))
    (h1 : ∀ acc ρ, I [] acc ρ → QD acc ρ) : wG T e c t own items ρ QD := by
  suffices h : ∀ (items acc : List D) (ρ : Env), I items acc ρ → wG T e c t own items ρ fun ds ρ => I [] (acc ++ ds) ρ from wG_imp (h items [] ρ h0) fun ds ρ h => h1 ds ρ h
  intro items
  induction items with
  | nil => intro acc ρ h; rw [wG_nil]; simpa using h
  | cons x r ih =>
    intro acc ρ h
    rw [wG_cons]
    refine wO_imp (hs x r acc ρ h) fun ρ1 h => ?_
    refine wE_imp h fun b ρ2 h => ?_
    cases b with
    | f d =>
      cases d with
      | bl k =>
        simp only [wB_bl] at h ⊢
        refine ⟨fun q => wE_imp (h.1 q) fun v ρ3 h => wO_imp h fun p h => ?_, fun q => ih _ _ (h.2 q)⟩
        exact wG_imp (ih _ _ h) fun ds ρ h => by simpa using h
      | _ => exact h.elim
    | _ => exact h.elim
end
section
variable {T : Tb} {ρ : Env} {K : Kn} {t : CT} {x : CSs} {items : List D}
/-- a for whose turns keep J -/
theorem wFor_all (J : Env → Prop) (h0 : J ρ) (hs : ∀ d ∈ items, ∀ ρ, J ρ → wO (tgt ρ t d) fun ρ1 => wSs T x ρ1 { nx := J, ct := J, br := fun _ => False, rt := fun _ _ => False }) (h1 : ∀ ρ, J ρ → K.nx ρ) : wFor T t x items ρ K := by
  induction items generalizing ρ with
  | nil => rw [wFor_nil]; exact h1 ρ h0
  | cons d r ih =>
    rw [wFor_cons]
    exact wO_imp (hs d List.mem_cons_self ρ h0) fun ρ1 h => wSs_imp h ⟨fun ρ h => ih h fun d hd => hs d (List.mem_cons_of_mem _ hd), fun _ _ h => h.elim, fun _ h => h.elim, fun ρ h => ih h fun d hd => hs d (List.mem_cons_of_mem _ hd)⟩
end
/-! ### lists of ints, bools, texts -/
theorem intsOf_map (xs : List Int) : intsOf (xs.map .int) = some xs := by
  induction xs with
  | nil => rfl
  | cons x r ih => simp [intsOf, ih]
theorem strsOf_map (xs : List Str) : strsOf (xs.map .str) = some xs := by
  induction xs with
  | nil => rfl
  | cons x r ih => simp [strsOf, ih]
theorem boolsOf_rep : ∀ n : Nat, boolsOf (List.replicate n (.bl true)) = some (List.replicate n true)
  | 0 => rfl
  | n + 1 => by simp [List.replicate_succ, boolsOf, boolsOf_rep n]
theorem all_rep (n : Nat) : ((List.replicate n true).all id) = true := by simp
theorem keyD_inl {i : Int} : keyD (.inl i) = .int i := rfl
theorem keyD_inr {i : Str} : keyD (.inr i) = .str i := rfl
theorem rev_map_ {α β : Type} {f : α → β} {l : List α} : (l.map f).reverse = l.reverse.map f := List.map_reverse.symm
/-! ### dicts of distinct keys -/
end PV

set_option Elab.async false
set_option linter.all false
set_option maxRecDepth 100000
set_option maxHeartbeats 1000000
/-! WpD: == of plain data. -/
namespace PV
open PySem
open L2 (Key)
/-- None, an int, a text -/
def flt : D → Prop
  | .non => True
  | .int _ => True
  | .str _ => True
  | _ => False
/-- two data of like form, without bools, dicts, objects; nested at most n deep -/
def like : Nat → D → D → Prop
  | 0, a, b => flt a ∧ flt b
  | n + 1, .lst xs, .lst ys => ∀ x ∈ xs, ∀ y ∈ ys, like n x y
  | n + 1, .tup xs, .tup ys => ∀ x ∈ xs, ∀ y ∈ ys, like n x y
  | n + 1, a, b => flt a ∧ flt b
theorem like_flt {n : Nat} {a b : D} (ha : flt a) (hb : flt b) : like n a b := by
  cases n with
  | zero => exact ⟨ha, hb⟩
  | succ n => cases a <;> first | exact ha.elim | (cases b <;> first | exact hb.elim | exact ⟨ha, hb⟩)
theorem like_str {n : Nat} {i j : Str} : like n (.str i) (.str j) := like_flt trivial trivial
theorem like_lst {n : Nat} {xs ys : List D} (h : ∀ x ∈ xs, ∀ y ∈ ys, like n x y) : like (n + 1) (.lst xs) (.lst ys) := h
theorem like_tup {n : Nat} {xs ys : List D} (h : ∀ x ∈ xs, ∀ y ∈ ys, like n x y) : like (n + 1) (.tup xs) (.tup ys) := h
theorem like_strs {n : Nat} {xs ys : List Str} : like (n + 1) (.lst (xs.map .str)) (.lst (ys.map .str)) := like_lst fun x hx y hy => by
  obtain ⟨i, _, rfl⟩ := List.mem_map.1 hx
  obtain ⟨j, _, rfl⟩ := List.mem_map.1 hy
  exact like_str
/-- says whether a = b -/
def Says (o : Option Bool) (p : Prop) : Prop := ∃ k, o = some k ∧ (k = true ↔ p)
theorem flatE_says {a b : D} (ha : flt a) (hb : flt b) : Says (flatE a b) (a = b) := by
  cases a <;> first | exact ha.elim | (cases b <;> first | exact hb.elim | (refine ⟨_, rfl, ?_⟩; simp [D.eqf]))
theorem allO_says {f : D → D → Option Bool} : ∀ {xs ys : List D}, xs.length = ys.length → (∀ x ∈ xs, ∀ y ∈ ys, Says (f x y) (x = y)) → Says (allO (List.zipWith f xs ys)) (xs = ys)
  | [], [], _, _ => ⟨true, rfl, by simp⟩
  | x :: xs, y :: ys, h, hs => by
    obtain ⟨k, e, i⟩ := hs x List.mem_cons_self y List.mem_cons_self
    obtain ⟨l, e', i'⟩ := allO_says (xs := xs) (ys := ys) (by simpa using h) fun x hx y hy => hs x (List.mem_cons_of_mem _ hx) y (List.mem_cons_of_mem _ hy)
    refine ⟨k && l, ?_, ?_⟩
    · simp [allO, e, e']
    · simp [i, i']
theorem allO_some {f : D → D → Option Bool} : ∀ {xs ys : List D}, (∀ x ∈ xs, ∀ y ∈ ys, Says (f x y) (x = y)) → ∃ k, allO (List.zipWith f xs ys) = some k
  | [], _, _ => ⟨true, rfl⟩
  | _ :: _, [], _ => ⟨true, rfl⟩
  | x :: xs, y :: ys, hs => by
    obtain ⟨k, e, i⟩ := hs x List.mem_cons_self y List.mem_cons_self
    obtain ⟨l, e'⟩ := allO_some (xs := xs) (ys := ys) fun x hx y hy => hs x (List.mem_cons_of_mem _ hx) y (List.mem_cons_of_mem _ hy)
    exact ⟨k && l, by simp [allO, e, e']⟩
theorem zip_says {f : D → D → Option Bool} {xs ys : List D} (hs : ∀ x ∈ xs, ∀ y ∈ ys, Says (f x y) (x = y)) : Says (if xs.length = ys.length then allO (List.zipWith f xs ys) else some false) (xs = ys) := by
  by_cases h : xs.length = ys.length
  · rw [if_pos h]
    exact allO_says h hs
  · rw [if_neg h]
    exact ⟨false, rfl, by simp; exact fun e => h (by rw [e])⟩
theorem zip_says2 {f : D → D → Option Bool} {xs ys : List D} (hs : ∀ x ∈ xs, ∀ y ∈ ys, Says (f x y) (x = y)) : Says (if xs.length = ys.length then allO (List.zipWith f xs ys) else (allO (List.zipWith f xs ys)).map fun _ => false) (xs = ys) := by
  by_cases h : xs.length = ys.length
  · rw [if_pos h]
    exact allO_says h hs
  · rw [if_neg h]
    obtain ⟨k, e⟩ := allO_some hs
    rw [e]
    exact ⟨false, rfl, by simp; exact fun e => h (by rw [e])⟩
theorem eq2_says : ∀ (n : Nat) {a b : D}, like n a b → Says (D.eq2 n a b) (a = b)
  | 0, a, b, h => flatE_says h.1 h.2
  | n + 1, a, b, h => by
    cases a with
    | lst xs =>
      cases b with
      | lst ys =>
        obtain ⟨k, e, i⟩ := zip_says fun x hx y hy => eq2_says n (h x hx y hy)
        exact ⟨k, e, by rw [i]; simp⟩
      | _ => exact h.1.elim
    | tup xs =>
      cases b with
      | tup ys =>
        obtain ⟨k, e, i⟩ := zip_says2 fun x hx y hy => eq2_says n (h x hx y hy)
        exact ⟨k, e, by rw [i]; simp⟩
      | _ => exact h.1.elim
    | bl _ => exact h.1.elim
    | dct _ => exact h.1.elim
    | dcT _ => exact h.1.elim
    | obj _ _ => exact h.1.elim
    | _ => cases b <;> first | exact h.2.elim | exact flatE_says h.1 h.2
theorem eq3_says : ∀ (n : Nat) {a b : D}, like n a b → Says (D.eq3 (n + 1) a b) (a = b)
  | 0, a, b, h => by
    cases a <;> first | exact h.1.elim | (cases b <;> first | exact h.2.elim | exact flatE_says h.1 h.2)
  | n + 1, a, b, h => by
    cases a with
    | lst xs =>
      cases b with
      | lst ys =>
        obtain ⟨k, e, i⟩ := zip_says fun x hx y hy => eq3_says n (h x hx y hy)
        exact ⟨k, e, by rw [i]; simp⟩
      | _ => exact h.1.elim
    | tup xs =>
      cases b with
      | tup ys => exact eq2_says (n + 1) h
      | _ => exact h.1.elim
    | bl _ => exact h.1.elim
    | dct _ => exact h.1.elim
    | dcT _ => exact h.1.elim
    | obj _ _ => exact h.1.elim
    | _ => cases b <;> first | exact h.2.elim | exact eq2_says (n + 1) h
/-- == of like data -/
theorem oEq_like {neg : Bool} {a b : D} (h : like 39 a b) : ∃ k, oEq neg a b = some (.f (.bl (neg ^^ k))) ∧ (k = true ↔ a = b) := by
  obtain ⟨k, e, i⟩ := eq3_says 39 h
  exact ⟨k, by unfold oEq; rw [e]; rfl, i⟩
theorem strs_inj {xs ys : List Str} : xs.map D.str = ys.map D.str ↔ xs = ys := by
  constructor
  · intro e
    have := congrArg strsOf e
    rw [strsOf_map, strsOf_map] at this
    simpa using this
  · rintro rfl; rfl
theorem oEq_strs {neg : Bool} {xs ys : List Str} : oEq neg (.lst (xs.map .str)) (.lst (ys.map .str)) = some (.f (.bl (neg ^^ decide (xs = ys)))) := by
  obtain ⟨k, e, i⟩ := oEq_like (neg := neg) (like_strs (n := 38) (xs := xs) (ys := ys))
  rw [D.lst.injEq, strs_inj] at i
  rw [e, show k = decide (xs = ys) from by cases k <;> simp_all]
theorem sortD_strs {xs : List Str} (h : xs.length < 64) : sortD (xs.map .str) = some ((sortStr xs).map .str) := by
  unfold sortD
  rw [strsOf_map]
  simp [h]
/-! ### dicts -/
/-- the value at a key -/
def lk {β : Type} (ks : List (Str × β)) (k : Str) : Option β := (ks.find? fun p => decide (p.1 = k)).map (·.2)
/-- the same dict -/
def sameD {β : Type} [DecidableEq β] (ks ls : List (Str × β)) : Bool := decide (ks.length = ls.length) && ks.all fun p => decide (lk ls p.1 = some p.2)
/-! ### sorted texts -/
end PV

set_option Elab.async false
set_option linter.all false
set_option maxRecDepth 100000
set_option maxHeartbeats 4000000
namespace TB
open PV
/-- 46: is_many(value) -/
abbrev c_is_many : CSs := (.cons (.ret (.call 1 [] (.cons (.var 0) (.cons (.cst (.int 1)) (.cons (.glb 0) .nil))))) .nil)
/-- 47: is_lot(value) -/
abbrev c_is_lot : CSs := (.cons (.ret (.and_ (.op .isTuple (.cons (.var 0) .nil)) (.and_ (.op .eq (.cons (.op .len (.cons (.var 0) .nil)) (.cons (.cst (.int 2)) .nil))) (.and_ (.call 3 [] (.cons (.op .idx (.cons (.var 0) (.cons (.cst (.int 0)) .nil))) .nil)) (.call 46 [] (.cons (.op .idx (.cons (.var 0) (.cons (.cst (.int 1)) .nil))) .nil)))))) .nil)
/-- 48: require_lots(value, most, index, lot) -/
abbrev c_require_lots : CSs := (.cons (.ifs (.or_ (.not_ (.op .isList (.cons (.var 0) .nil))) (.not_ (.chn .le .le (.cst (.int 1)) (.op .len (.cons (.var 0) .nil)) (.var 1)))) (.cons .wall .nil) .nil) (.cons (.forE (.tp [2, 3]) 0 (.cons (.ifs (.not_ (.call 47 [] (.cons (.var 3) .nil))) (.cons .wall .nil) .nil) .nil)) .nil))
/-- 49: runs_of(lots, found, name, many) -/
abbrev c_runs_of : CSs := (.cons (.asg (.nm 1) true (.lst .nil)) (.cons (.fors (.tp [2, 3]) (.seq (.var 0)) (.cons (.ifs (.and_ (.op .ne (.cons (.var 1) (.cons (.lst .nil) .nil))) (.op .eq (.cons (.op .idx (.cons (.op .idx (.cons (.var 1) (.cons (.op .neg (.cons (.cst (.int 1)) .nil)) .nil))) (.cons (.cst (.int 0)) .nil))) (.cons (.var 2) .nil)))) (.cons (.sset 1 (.op .neg (.cons (.cst (.int 1)) .nil)) (.tup (.cons (.var 2) (.cons (.op .add (.cons (.op .idx (.cons (.op .idx (.cons (.var 1) (.cons (.op .neg (.cons (.cst (.int 1)) .nil)) .nil))) (.cons (.cst (.int 1)) .nil))) (.cons (.var 3) .nil))) .nil)))) .nil) (.cons (.exp (.mut .append 1 (.cons (.tup (.cons (.var 2) (.cons (.var 3) .nil))) .nil))) .nil)) .nil)) (.cons (.ret (.var 1)) .nil)))
/-- 50: Plan.__init__(self, lots, rounds) -/
abbrev c_Plan_init : CSs := (.cons (.exp (.call 48 [true, false] (.cons (.var 1) (.cons (.glb 5) .nil)))) (.cons (.ifs (.not_ (.call 46 [] (.cons (.var 2) .nil))) (.cons .wall .nil) .nil) (.cons (.fset 0 2 (.op .tuple_ (.cons (.var 1) .nil))) (.cons (.fset 0 3 (.var 2)) .nil))))
/-- 53: Plan.pieces(self, name, many) -/
abbrev c_Plan_pieces : CSs := (.cons (.ret (.op .mul (.cons (.fld 3 (.var 0)) (.cons (.op .sum (.cons (.lc (.var 2) (.tp [1, 2]) (.seq (.fld 2 (.var 0))) (.cst (.bl true)) [1, 2]) .nil)) .nil)))) .nil)
/-- 55: Plan.__eq__(self, other) -/
abbrev c_Plan_eq : CSs := (.cons (.ifs (.or_ (.not_ (.op (.isObj 1) (.cons (.var 1) .nil))) (.op .ne (.cons (.prp 10 (.var 0)) (.cons (.prp 10 (.var 1)) .nil)))) (.cons (.ret (.cst (.bl false))) .nil) .nil) (.cons (.ret (.op .eq (.cons (.call 49 [] (.cons (.op .add (.cons (.fld 2 (.var 0)) (.cons (.fld 2 (.var 1)) .nil))) .nil)) (.cons (.call 49 [] (.cons (.op .add (.cons (.fld 2 (.var 1)) (.cons (.fld 2 (.var 0)) .nil))) .nil)) .nil)))) .nil))
/-- 80: require_plan(line, value, name, many) -/
abbrev c_require_plan : CSs := (.cons (.ifs (.or_ (.not_ (.op (.isObj 1) (.cons (.var 1) .nil))) (.not_ (.op .all_ (.cons (.lc (.op .inn (.cons (.var 2) (.cons (.fld 1 (.var 0)) .nil))) (.tp [2, 3]) (.seq (.fld 2 (.var 1))) (.cst (.bl true)) [2, 3]) .nil)))) (.cons .wall .nil) .nil) .nil)
/-- 81: spots(line, found, station, places, age) -/
abbrev c_spots : CSs := (.cons (.asg (.nm 1) true (.lst (.cons (.tup (.cons (.cst (.int 0)) (.cons (.cst (.int 0)) .nil))) .nil))) (.cons (.fors (.tp [2, 3]) (.enm (.fld 0 (.var 0))) (.cons (.exp (.mut .extend 1 (.cons (.lc (.tup (.cons (.op .add (.cons (.var 2) (.cons (.cst (.int 1)) .nil))) (.cons (.var 4) .nil))) (.nm 4) (.rng (.op .add (.cons (.var 3) (.cons (.cst (.int 1)) .nil)))) (.cst (.bl true)) [4]) .nil))) .nil)) (.cons (.ret (.var 1)) .nil)))
/-- 82: greatest(numbers) -/
abbrev c_greatest : CSs := (.cons (.ret (.ite (.op .ne (.cons (.var 0) (.cons (.lst .nil) .nil))) (.op .max1 (.cons (.var 0) .nil)) (.cst .non))) .nil)
/-- 83: unit(size, row, column) -/
abbrev c_unit : CSs := (.cons (.ret (.lc (.lc (.ite (.op .eq (.cons (.var 1) (.cons (.var 2) .nil))) (.cst (.int 0)) (.cst .non)) (.nm 2) (.rng (.var 0)) (.cst (.bl true)) [2]) (.nm 1) (.rng (.var 0)) (.cst (.bl true)) [1])) .nil)
/-- 84: later_row(row, other, pair, number) -/
abbrev c_later_row : CSs := (.cons (.ret (.lc (.call 82 [] (.cons (.lc (.var 3) (.nm 3) (.seq (.var 2)) (.op .isnN (.cons (.var 3) .nil)) [3]) .nil)) (.nm 2) (.zip (.var 0) (.var 1)) (.cst (.bl true)) [2])) .nil)
/-- 85: row_behind_time(row, time, number) -/
abbrev c_row_behind_time : CSs := (.cons (.ret (.lc (.ite (.op .isN (.cons (.var 2) .nil)) (.cst .non) (.op .add (.cons (.var 2) (.cons (.var 1) .nil)))) (.nm 2) (.seq (.var 0)) (.cst (.bl true)) [2])) .nil)
/-- 86: piece_table(line, name, every, units, leaves, station, time, row, age) -/
abbrev c_piece_table : CSs := (.cons (.asg (.nm 2) false (.call 81 [] (.cons (.var 0) .nil))) (.cons (.asg (.nm 3) false (.op .dictZ (.cons (.var 2) (.cons (.call 83 [] (.cons (.op .len (.cons (.var 2) .nil)) .nil)) .nil)))) (.cons (.asg (.nm 4) true (.lst .nil)) (.cons (.fors (.tp [5, 6]) (.enm (.op .idx (.cons (.fld 1 (.var 0)) (.cons (.var 1) .nil)))) (.cons (.asg (.nm 7) false (.op .idx (.cons (.var 3) (.cons (.tup (.cons (.var 5) (.cons (.cst (.int 0)) .nil))) .nil)))) (.cons (.ifs (.op .gt (.cons (.var 5) (.cons (.cst (.int 0)) .nil))) (.cons (.asg (.nm 7) false (.call 84 [] (.cons (.var 7) (.cons (.op .idx (.cons (.var 4) (.cons (.op .sub (.cons (.var 5) (.cons (.cst (.int 1)) .nil))) .nil))) .nil)))) .nil) .nil) (.cons (.asg (.nm 7) false (.call 85 [] (.cons (.var 7) (.cons (.var 6) .nil)))) (.cons (.ifs (.op .lt (.cons (.var 5) (.cons (.op .len (.cons (.fld 0 (.var 0)) .nil)) .nil))) (.cons (.asg (.nm 7) false (.call 84 [] (.cons (.var 7) (.cons (.op .idx (.cons (.var 3) (.cons (.tup (.cons (.op .add (.cons (.var 5) (.cons (.cst (.int 1)) .nil))) (.cons (.op .idx (.cons (.fld 0 (.var 0)) (.cons (.var 5) .nil))) .nil))) .nil))) .nil)))) .nil) .nil) (.cons (.exp (.mut .append 4 (.cons (.var 7) .nil))) .nil)))))) (.cons (.ret (.lc (.ite (.op .eq (.cons (.var 8) (.cons (.cst (.int 0)) .nil))) (.op .idx (.cons (.var 4) (.cons (.var 5) .nil))) (.op .idx (.cons (.var 3) (.cons (.tup (.cons (.var 5) (.cons (.op .sub (.cons (.var 8) (.cons (.cst (.int 1)) .nil))) .nil))) .nil)))) (.tp [5, 8]) (.seq (.var 2)) (.cst (.bl true)) [5, 8])) .nil)))))
/-- 87: row_product(row, table, pairs, found, column, number, other) -/
abbrev c_row_product : CSs := (.cons (.asg (.nm 2) false (.lc (.tup (.cons (.var 5) (.cons (.var 6) .nil))) (.tp [5, 6]) (.zip (.var 0) (.var 1)) (.op .isnN (.cons (.var 5) .nil)) [5, 6])) (.cons (.asg (.nm 3) true (.lst .nil)) (.cons (.fors (.nm 4) (.rng (.op .len (.cons (.op .idx (.cons (.var 1) (.cons (.cst (.int 0)) .nil))) .nil))) (.cons (.exp (.mut .append 3 (.cons (.call 82 [] (.cons (.lc (.op .add (.cons (.var 5) (.cons (.op .idx (.cons (.var 6) (.cons (.var 4) .nil))) .nil))) (.tp [5, 6]) (.seq (.var 2)) (.op .isnN (.cons (.op .idx (.cons (.var 6) (.cons (.var 4) .nil))) .nil)) [5, 6]) .nil)) .nil))) .nil)) (.cons (.ret (.var 3)) .nil))))
/-- 88: product(second, first, row) -/
abbrev c_product : CSs := (.cons (.ret (.lc (.call 87 [] (.cons (.var 2) (.cons (.var 1) .nil))) (.nm 2) (.seq (.var 0)) (.cst (.bl true)) [2])) .nil)
/-- 89: power(table, times, found, square, left) -/
abbrev c_power : CSs := (.cons (.par [2, 3] [false, false] (.cons (.call 83 [] (.cons (.op .len (.cons (.var 0) .nil)) .nil)) (.cons (.var 0) .nil))) (.cons (.asg (.nm 4) false (.var 1)) (.cons (.whl (.op .gt (.cons (.var 4) (.cons (.cst (.int 0)) .nil))) (.cons (.ifs (.op .eq (.cons (.op .mod (.cons (.var 4) (.cons (.cst (.int 2)) .nil))) (.cons (.cst (.int 1)) .nil))) (.cons (.asg (.nm 2) false (.call 88 [] (.cons (.var 3) (.cons (.var 2) .nil)))) .nil) .nil) (.cons (.asg (.nm 4) false (.op .fdv (.cons (.var 4) (.cons (.cst (.int 2)) .nil)))) (.cons (.ifs (.op .gt (.cons (.var 4) (.cons (.cst (.int 0)) .nil))) (.cons (.asg (.nm 3) false (.call 88 [] (.cons (.var 3) (.cons (.var 3) .nil)))) .nil) .nil) .nil)))) (.cons (.ret (.var 2)) .nil))))
/-- 90: applied(table, vector, found, row, number, moment) -/
abbrev c_applied : CSs := (.cons (.asg (.nm 2) true (.lst .nil)) (.cons (.fors (.nm 3) (.seq (.var 0)) (.cons (.exp (.mut .append 2 (.cons (.op .max1 (.cons (.lc (.op .add (.cons (.var 4) (.cons (.var 5) .nil))) (.tp [4, 5]) (.zip (.var 3) (.var 1)) (.op .isnN (.cons (.var 4) .nil)) [4, 5]) .nil)) .nil))) .nil)) (.cons (.ret (.var 2)) .nil)))
/-- 91: ground(line, every, one, other) -/
abbrev c_ground : CSs := (.cons (.asg (.nm 1) false (.call 81 [] (.cons (.var 0) .nil))) (.cons (.ret (.lc (.lc (.ite (.and_ (.op .ge (.cons (.op .idx (.cons (.var 2) (.cons (.cst (.int 0)) .nil))) (.cons (.op .idx (.cons (.var 3) (.cons (.cst (.int 0)) .nil))) .nil))) (.op .le (.cons (.op .idx (.cons (.var 2) (.cons (.cst (.int 1)) .nil))) (.cons (.op .idx (.cons (.var 3) (.cons (.cst (.int 1)) .nil))) .nil)))) (.cst (.int 0)) (.cst .non)) (.nm 3) (.seq (.var 1)) (.cst (.bl true)) [3]) (.nm 2) (.seq (.var 1)) (.cst (.bl true)) [2])) .nil))
/-- 92: lot_table(line, lot, name, many) -/
abbrev c_lot_table : CSs := (.cons (.asg (.tp [2, 3]) false (.var 1)) (.cons (.ret (.call 89 [] (.cons (.call 86 [] (.cons (.var 0) (.cons (.var 2) .nil))) (.cons (.var 3) .nil)))) .nil))
/-- 93: lots_table(line, lots, found, lot) -/
abbrev c_lots_table : CSs := (.cons (.asg (.nm 2) false (.call 83 [] (.cons (.op .len (.cons (.call 81 [] (.cons (.var 0) .nil)) .nil)) .nil))) (.cons (.fors (.nm 3) (.seq (.var 1)) (.cons (.asg (.nm 2) false (.call 88 [] (.cons (.call 92 [] (.cons (.var 0) (.cons (.var 3) .nil))) (.cons (.var 2) .nil)))) .nil)) (.cons (.ret (.var 2)) .nil)))
/-- 94: round_table(line, plan) -/
abbrev c_round_table : CSs := (.cons (.ret (.call 93 [] (.cons (.var 0) (.cons (.fld 2 (.var 1)) .nil)))) .nil)
/-- 95: plan_table(line, plan) -/
abbrev c_plan_table : CSs := (.cons (.ret (.call 89 [] (.cons (.call 94 [] (.cons (.var 0) (.cons (.var 1) .nil))) (.cons (.fld 3 (.var 1)) .nil)))) .nil)
/-- 96: vector_of(state, found, moments) -/
abbrev c_vector_of : CSs := (.cons (.asg (.nm 1) true (.lst .nil)) (.cons (.fors (.nm 2) (.seq (.var 0)) (.cons (.exp (.mut .extend 1 (.cons (.var 2) .nil))) .nil)) (.cons (.ret (.var 1)) .nil)))
/-- 97: state_of(line, vector, found, begin, places) -/
abbrev c_state_of : CSs := (.cons (.par [2, 3] [true, false] (.cons (.lst (.cons (.sli (.var 1) (.cst .non) (.cst (.int 1))) .nil)) (.cons (.cst (.int 1)) .nil))) (.cons (.fors (.nm 4) (.seq (.fld 0 (.var 0))) (.cons (.exp (.mut .append 2 (.cons (.sli (.var 1) (.var 3) (.op .add (.cons (.op .add (.cons (.var 3) (.cons (.var 4) .nil))) (.cons (.cst (.int 1)) .nil)))) .nil))) (.cons (.asg (.nm 3) false (.op .add (.cons (.op .add (.cons (.var 3) (.cons (.var 4) .nil))) (.cons (.cst (.int 1)) .nil)))) .nil))) (.cons (.ret (.var 2)) .nil)))
/-- 98: is_state(line, value, moments, places, vector, moment) -/
abbrev c_is_state : CSs := (.cons (.ifs (.or_ (.not_ (.op .isList (.cons (.var 1) .nil))) (.op .ne (.cons (.op .len (.cons (.var 1) .nil)) (.cons (.op .add (.cons (.op .len (.cons (.fld 0 (.var 0)) .nil)) (.cons (.cst (.int 1)) .nil))) .nil)))) (.cons (.ret (.cst (.bl false))) .nil) .nil) (.cons (.fors (.tp [2, 3]) (.zip (.var 1) (.lstS (.cons (.cst (.int 0)) (.cons (.fld 0 (.var 0)) .nil)) (false :: (true :: [])))) (.cons (.ifs (.or_ (.not_ (.op .isList (.cons (.var 2) .nil))) (.op .ne (.cons (.op .len (.cons (.var 2) .nil)) (.cons (.op .add (.cons (.var 3) (.cons (.cst (.int 1)) .nil))) .nil)))) (.cons (.ret (.cst (.bl false))) .nil) .nil) (.cons (.ifs (.not_ (.op .all_ (.cons (.lc (.call 0 [] (.cons (.var 5) .nil)) (.nm 5) (.seq (.var 2)) (.cst (.bl true)) [5]) .nil))) (.cons (.ret (.cst (.bl false))) .nil) .nil) .nil))) (.cons (.asg (.nm 4) false (.call 96 [] (.cons (.var 1) .nil))) (.cons (.ret (.op .eq (.cons (.call 90 [] (.cons (.call 91 [] (.cons (.var 0) .nil)) (.cons (.var 4) .nil))) (.cons (.var 4) .nil)))) .nil))))
/-- 99: require_state(line, value) -/
abbrev c_require_state : CSs := (.cons (.ifs (.not_ (.call 98 [] (.cons (.var 0) (.cons (.var 1) .nil)))) (.cons .wall .nil) .nil) .nil)
/-- 100: Effect.__init__(self, line, table) -/
abbrev c_Effect_init : CSs := (.cons (.fset 0 4 (.var 1)) (.cons (.fset 0 5 (.var 2)) .nil))
/-- 101: Effect.rows(self, row) -/
abbrev c_Effect_rows : CSs := (.cons (.ret (.lc (.op .list_ (.cons (.var 1) .nil)) (.nm 1) (.seq (.fld 5 (.var 0))) (.cst (.bl true)) [1])) .nil)
/-- 102: Effect.__eq__(self, other) -/
abbrev c_Effect_eq : CSs := (.cons (.ret (.and_ (.op (.isObj 2) (.cons (.var 1) .nil)) (.op .eq (.cons (.fld 5 (.var 0)) (.cons (.fld 5 (.var 1)) .nil))))) .nil)
/-- 103: Effect.behind(self, state) -/
abbrev c_Effect_behind : CSs := (.cons (.exp (.call 99 [] (.cons (.fld 4 (.var 0)) (.cons (.var 1) .nil)))) (.cons (.ret (.call 97 [] (.cons (.fld 4 (.var 0)) (.cons (.call 90 [] (.cons (.fld 5 (.var 0)) (.cons (.call 96 [] (.cons (.var 1) .nil)) .nil))) .nil)))) .nil))
/-- 114: Effect.then(self, second) -/
abbrev c_Effect_then : CSs := (.cons (.exp (.call 116 [] (.cons (.var 0) (.cons (.var 1) .nil)))) (.cons (.ret (.new 2 [] (.cons (.fld 4 (.var 0)) (.cons (.call 88 [] (.cons (.fld 5 (.var 1)) (.cons (.fld 5 (.var 0)) .nil))) .nil)))) .nil))
/-- 115: Effect.repeated(self, times) -/
abbrev c_Effect_repeated : CSs := (.cons (.ifs (.not_ (.call 46 [] (.cons (.var 1) .nil))) (.cons .wall .nil) .nil) (.cons (.ret (.new 2 [] (.cons (.fld 4 (.var 0)) (.cons (.call 89 [] (.cons (.fld 5 (.var 0)) (.cons (.var 1) .nil))) .nil)))) .nil))
/-- 116: require_effect(effect, value) -/
abbrev c_require_effect : CSs := (.cons (.ifs (.or_ (.not_ (.op (.isObj 2) (.cons (.var 1) .nil))) (.op .ne (.cons (.fld 0 (.fld 4 (.var 1))) (.cons (.fld 0 (.fld 4 (.var 0))) .nil)))) (.cons .wall .nil) .nil) .nil)
/-- 104: closed_table(line, plan) -/
abbrev c_closed_table : CSs := (.cons (.ret (.call 88 [] (.cons (.call 95 [] (.cons (.var 0) (.cons (.var 1) .nil))) (.cons (.call 91 [] (.cons (.var 0) .nil)) .nil)))) .nil)
/-- 105: effect(line, plan) -/
abbrev c_effect : CSs := (.cons (.exp (.call 26 [] (.cons (.var 0) .nil))) (.cons (.exp (.call 80 [] (.cons (.var 0) (.cons (.var 1) .nil)))) (.cons (.ret (.new 2 [] (.cons (.var 0) (.cons (.call 104 [] (.cons (.var 0) (.cons (.var 1) .nil))) .nil)))) .nil)))
/-- 15: require_station(line, value) -/
abbrev c_require_station : CSs := (.cons (.ifs (.not_ (.call 1 [] (.cons (.var 1) (.cons (.cst (.int 0)) (.cons (.op .len (.cons (.fld 0 (.var 0)) .nil)) .nil))))) (.cons .wall .nil) .nil) .nil)
/-- 56: Plan.kind_of(self, piece) -/
abbrev c_Plan_kind_of : CSs := (.cons (.exp (.call 60 [] (.cons (.var 0) (.cons (.var 1) .nil)))) (.cons (.ret (.op .idx (.cons (.op .idx (.cons (.fld 2 (.var 0)) (.cons (.op .idx (.cons (.call 59 [] (.cons (.var 0) (.cons (.var 1) .nil))) (.cons (.cst (.int 1)) .nil))) .nil))) (.cons (.cst (.int 0)) .nil)))) .nil))
/-- 59: lot_at(plan, piece, turn, rest, index) -/
abbrev c_lot_at : CSs := (.cons (.asg (.tp [2, 3]) false (.op .dvm (.cons (.op .sub (.cons (.var 1) (.cons (.cst (.int 1)) .nil))) (.cons (.op .fdv (.cons (.prp 10 (.var 0)) (.cons (.fld 3 (.var 0)) .nil))) .nil)))) (.cons (.asg (.nm 4) false (.cst (.int 0))) (.cons (.whl (.op .ge (.cons (.var 3) (.cons (.op .idx (.cons (.op .idx (.cons (.fld 2 (.var 0)) (.cons (.var 4) .nil))) (.cons (.cst (.int 1)) .nil))) .nil))) (.cons (.aug 3 .sub (.op .idx (.cons (.op .idx (.cons (.fld 2 (.var 0)) (.cons (.var 4) .nil))) (.cons (.cst (.int 1)) .nil)))) (.cons (.aug 4 .add (.cst (.int 1))) .nil))) (.cons (.ret (.tup (.cons (.var 2) (.cons (.var 4) (.cons (.var 3) .nil))))) .nil))))
/-- 60: require_piece(plan, value) -/
abbrev c_require_piece : CSs := (.cons (.ifs (.not_ (.call 1 [] (.cons (.var 1) (.cons (.cst (.int 1)) (.cons (.prp 10 (.var 0)) .nil))))) (.cons .wall .nil) .nil) .nil)
/-- 125: applied_times(table, times, vector, square, left) -/
abbrev c_applied_times : CSs := (.cons (.par [3, 4] [false, false] (.cons (.var 0) (.cons (.var 1) .nil))) (.cons (.whl (.op .gt (.cons (.var 4) (.cons (.cst (.int 0)) .nil))) (.cons (.ifs (.op .eq (.cons (.op .mod (.cons (.var 4) (.cons (.cst (.int 2)) .nil))) (.cons (.cst (.int 1)) .nil))) (.cons (.asg (.nm 2) false (.call 90 [] (.cons (.var 3) (.cons (.var 2) .nil)))) .nil) .nil) (.cons (.asg (.nm 4) false (.op .fdv (.cons (.var 4) (.cons (.cst (.int 2)) .nil)))) (.cons (.ifs (.op .gt (.cons (.var 4) (.cons (.cst (.int 0)) .nil))) (.cons (.asg (.nm 3) false (.call 88 [] (.cons (.var 3) (.cons (.var 3) .nil)))) .nil) .nil) .nil)))) (.cons (.ret (.var 2)) .nil)))
/-- 126: parts_of(plan, pieces, whole, rounds, left, found, name, many) -/
abbrev c_parts_of : CSs := (.cons (.asg (.nm 2) false (.op .sum (.cons (.lc (.var 7) (.tp [6, 7]) (.seq (.fld 2 (.var 0))) (.cst (.bl true)) [6, 7]) .nil))) (.cons (.par [3, 4] [false, false] (.cons (.op .fdv (.cons (.var 1) (.cons (.var 2) .nil))) (.cons (.op .mod (.cons (.var 1) (.cons (.var 2) .nil))) .nil))) (.cons (.asg (.nm 5) true (.lst .nil)) (.cons (.fors (.tp [6, 7]) (.seq (.fld 2 (.var 0))) (.cons (.ifs (.op .gt (.cons (.var 4) (.cons (.cst (.int 0)) .nil))) (.cons (.exp (.mut .append 5 (.cons (.tup (.cons (.var 6) (.cons (.op .min2 (.cons (.var 7) (.cons (.var 4) .nil))) .nil))) .nil))) .nil) .nil) (.cons (.asg (.nm 4) false (.op .sub (.cons (.var 4) (.cons (.var 7) .nil)))) .nil))) (.cons (.ret (.tup (.cons (.var 3) (.cons (.var 5) .nil)))) .nil)))))
/-- 127: vector_behind(line, plan, vector, pieces, rounds, lots, name, many) -/
abbrev c_vector_behind : CSs := (.cons (.asg (.tp [4, 5]) false (.call 126 [] (.cons (.var 1) (.cons (.var 3) .nil)))) (.cons (.ifs (.op .gt (.cons (.var 4) (.cons (.cst (.int 0)) .nil))) (.cons (.asg (.nm 2) false (.call 125 [] (.cons (.call 94 [] (.cons (.var 0) (.cons (.var 1) .nil))) (.cons (.var 4) (.cons (.var 2) .nil))))) .nil) .nil) (.cons (.fors (.tp [6, 7]) (.seq (.var 5)) (.cons (.asg (.nm 2) false (.call 125 [] (.cons (.call 86 [] (.cons (.var 0) (.cons (.var 6) .nil))) (.cons (.var 7) (.cons (.var 2) .nil))))) .nil)) (.cons (.ret (.var 2)) .nil))))
/-- 128: moments_of(line, name, vector, state, found, station, time, start, leave) -/
abbrev c_moments_of : CSs := (.cons (.asg (.nm 3) false (.call 97 [] (.cons (.var 0) (.cons (.var 2) .nil)))) (.cons (.asg (.nm 4) true (.lst .nil)) (.cons (.fors (.tp [5, 6]) (.enm (.op .idx (.cons (.fld 1 (.var 0)) (.cons (.var 1) .nil)))) (.cons (.asg (.nm 7) false (.op .idx (.cons (.op .idx (.cons (.var 3) (.cons (.var 5) .nil))) (.cons (.cst (.int 0)) .nil)))) (.cons (.ifs (.op .gt (.cons (.var 5) (.cons (.cst (.int 0)) .nil))) (.cons (.asg (.nm 7) false (.op .max2 (.cons (.var 7) (.cons (.op .idx (.cons (.op .idx (.cons (.var 4) (.cons (.op .sub (.cons (.var 5) (.cons (.cst (.int 1)) .nil))) .nil))) (.cons (.cst (.int 2)) .nil))) .nil)))) .nil) .nil) (.cons (.asg (.nm 8) false (.op .add (.cons (.var 7) (.cons (.var 6) .nil)))) (.cons (.ifs (.op .lt (.cons (.var 5) (.cons (.op .len (.cons (.fld 0 (.var 0)) .nil)) .nil))) (.cons (.asg (.nm 8) false (.op .max2 (.cons (.var 8) (.cons (.op .idx (.cons (.op .idx (.cons (.var 3) (.cons (.op .add (.cons (.var 5) (.cons (.cst (.int 1)) .nil))) .nil))) (.cons (.op .neg (.cons (.cst (.int 1)) .nil)) .nil))) .nil)))) .nil) .nil) (.cons (.exp (.mut .append 4 (.cons (.tup (.cons (.var 7) (.cons (.op .add (.cons (.var 7) (.cons (.var 6) .nil))) (.cons (.var 8) .nil)))) .nil))) .nil)))))) (.cons (.ret (.var 4)) .nil))))
/-- 129: require_all(line, plan, state) -/
abbrev c_require_all : CSs := (.cons (.exp (.call 26 [] (.cons (.var 0) .nil))) (.cons (.exp (.call 80 [] (.cons (.var 0) (.cons (.var 1) .nil)))) (.cons (.exp (.call 99 [] (.cons (.var 0) (.cons (.var 2) .nil)))) .nil)))
/-- 130: operation(line, plan, state, piece, station, vector) -/
abbrev c_operation : CSs := (.cons (.exp (.call 129 [] (.cons (.var 0) (.cons (.var 1) (.cons (.var 2) .nil))))) (.cons (.exp (.call 60 [] (.cons (.var 1) (.cons (.var 3) .nil)))) (.cons (.exp (.call 15 [] (.cons (.var 0) (.cons (.var 4) .nil)))) (.cons (.asg (.nm 5) false (.call 127 [] (.cons (.var 0) (.cons (.var 1) (.cons (.call 96 [] (.cons (.var 2) .nil)) (.cons (.op .sub (.cons (.var 3) (.cons (.cst (.int 1)) .nil))) .nil)))))) (.cons (.ret (.op .idx (.cons (.call 128 [] (.cons (.var 0) (.cons (.mth 12 (.var 1) [] (.cons (.var 3) .nil)) (.cons (.var 5) .nil)))) (.cons (.var 4) .nil)))) .nil)))))
/-- 131: start_of(line, plan, state, piece, station) -/
abbrev c_start_of : CSs := (.cons (.ret (.op .idx (.cons (.call 130 [] (.cons (.var 0) (.cons (.var 1) (.cons (.var 2) (.cons (.var 3) (.cons (.var 4) .nil)))))) (.cons (.cst (.int 0)) .nil)))) .nil)
/-- 133: leave_of(line, plan, state, piece, station) -/
abbrev c_leave_of : CSs := (.cons (.ret (.op .idx (.cons (.call 130 [] (.cons (.var 0) (.cons (.var 1) (.cons (.var 2) (.cons (.var 3) (.cons (.var 4) .nil)))))) (.cons (.cst (.int 2)) .nil)))) .nil)
/-- 134: state_behind(line, plan, state, piece) -/
abbrev c_state_behind : CSs := (.cons (.exp (.call 129 [] (.cons (.var 0) (.cons (.var 1) (.cons (.var 2) .nil))))) (.cons (.ifs (.not_ (.call 1 [] (.cons (.var 3) (.cons (.cst (.int 0)) (.cons (.prp 10 (.var 1)) .nil))))) (.cons .wall .nil) .nil) (.cons (.ret (.call 97 [] (.cons (.var 0) (.cons (.call 127 [] (.cons (.var 0) (.cons (.var 1) (.cons (.call 96 [] (.cons (.var 2) .nil)) (.cons (.var 3) .nil))))) .nil)))) .nil)))
/-- 135: end_of(line, plan, state) -/
abbrev c_end_of : CSs := (.cons (.exp (.call 129 [] (.cons (.var 0) (.cons (.var 1) (.cons (.var 2) .nil))))) (.cons (.ret (.op .idx (.cons (.op .idx (.cons (.call 97 [] (.cons (.var 0) (.cons (.call 127 [] (.cons (.var 0) (.cons (.var 1) (.cons (.call 96 [] (.cons (.var 2) .nil)) (.cons (.prp 10 (.var 1)) .nil))))) .nil))) (.cons (.op .neg (.cons (.cst (.int 1)) .nil)) .nil))) (.cons (.cst (.int 0)) .nil)))) .nil))
/-- 106: no_pieces(line) -/
abbrev c_no_pieces : CSs := (.cons (.exp (.call 26 [] (.cons (.var 0) .nil))) (.cons (.ret (.new 2 [] (.cons (.var 0) (.cons (.call 91 [] (.cons (.var 0) .nil)) .nil)))) .nil))
/-- 148: two_tables(line, plan, other) -/
abbrev c_two_tables : CSs := (.cons (.exp (.call 26 [] (.cons (.var 0) .nil))) (.cons (.exp (.call 80 [] (.cons (.var 0) (.cons (.var 1) .nil)))) (.cons (.exp (.call 80 [] (.cons (.var 0) (.cons (.var 2) .nil)))) (.cons (.ret (.tup (.cons (.call 104 [] (.cons (.var 0) (.cons (.var 1) .nil))) (.cons (.call 104 [] (.cons (.var 0) (.cons (.var 2) .nil))) .nil)))) .nil))))
/-- 149: alike(line, plan, other, one, two) -/
abbrev c_alike : CSs := (.cons (.asg (.tp [3, 4]) false (.call 148 [] (.cons (.var 0) (.cons (.var 1) (.cons (.var 2) .nil))))) (.cons (.ret (.op .eq (.cons (.var 3) (.cons (.var 4) .nil)))) .nil))
/-- the defs stand in the program -/
structure Has (P : Pg) : Prop where
  is_many : P.fd 46 = some (.body 1 1 c_is_many)
  is_lot : P.fd 47 = some (.body 1 1 c_is_lot)
  require_lots : P.fd 48 = some (.body 2 4 c_require_lots)
  runs_of : P.fd 49 = some (.body 1 4 c_runs_of)
  Plan_init : P.fd 50 = some (.body 3 3 c_Plan_init)
  Plan_pieces : P.fd 53 = some (.body 1 3 c_Plan_pieces)
  Plan_eq : P.fd 55 = some (.body 2 2 c_Plan_eq)
  require_plan : P.fd 80 = some (.body 2 4 c_require_plan)
  spots : P.fd 81 = some (.body 1 5 c_spots)
  greatest : P.fd 82 = some (.body 1 1 c_greatest)
  unit : P.fd 83 = some (.body 1 3 c_unit)
  later_row : P.fd 84 = some (.body 2 4 c_later_row)
  row_behind_time : P.fd 85 = some (.body 2 3 c_row_behind_time)
  piece_table : P.fd 86 = some (.body 2 9 c_piece_table)
  row_product : P.fd 87 = some (.body 2 7 c_row_product)
  product : P.fd 88 = some (.body 2 3 c_product)
  power : P.fd 89 = some (.body 2 5 c_power)
  applied : P.fd 90 = some (.body 2 6 c_applied)
  ground : P.fd 91 = some (.body 1 4 c_ground)
  lot_table : P.fd 92 = some (.body 2 4 c_lot_table)
  lots_table : P.fd 93 = some (.body 2 4 c_lots_table)
  round_table : P.fd 94 = some (.body 2 2 c_round_table)
  plan_table : P.fd 95 = some (.body 2 2 c_plan_table)
  vector_of : P.fd 96 = some (.body 1 3 c_vector_of)
  state_of : P.fd 97 = some (.body 2 5 c_state_of)
  is_state : P.fd 98 = some (.body 2 6 c_is_state)
  require_state : P.fd 99 = some (.body 2 2 c_require_state)
  Effect_init : P.fd 100 = some (.body 3 3 c_Effect_init)
  Effect_rows : P.fd 101 = some (.body 1 2 c_Effect_rows)
  Effect_eq : P.fd 102 = some (.body 2 2 c_Effect_eq)
  Effect_behind : P.fd 103 = some (.body 2 2 c_Effect_behind)
  Effect_then : P.fd 114 = some (.body 2 2 c_Effect_then)
  Effect_repeated : P.fd 115 = some (.body 2 2 c_Effect_repeated)
  require_effect : P.fd 116 = some (.body 2 2 c_require_effect)
  closed_table : P.fd 104 = some (.body 2 2 c_closed_table)
  effect : P.fd 105 = some (.body 2 2 c_effect)
  require_station : P.fd 15 = some (.body 2 2 c_require_station)
  Plan_kind_of : P.fd 56 = some (.body 2 2 c_Plan_kind_of)
  lot_at : P.fd 59 = some (.body 2 5 c_lot_at)
  require_piece : P.fd 60 = some (.body 2 2 c_require_piece)
  applied_times : P.fd 125 = some (.body 3 5 c_applied_times)
  parts_of : P.fd 126 = some (.body 2 8 c_parts_of)
  vector_behind : P.fd 127 = some (.body 4 8 c_vector_behind)
  moments_of : P.fd 128 = some (.body 3 9 c_moments_of)
  require_all : P.fd 129 = some (.body 3 3 c_require_all)
  operation : P.fd 130 = some (.body 5 6 c_operation)
  start_of : P.fd 131 = some (.body 5 5 c_start_of)
  leave_of : P.fd 133 = some (.body 5 5 c_leave_of)
  state_behind : P.fd 134 = some (.body 4 4 c_state_behind)
  end_of : P.fd 135 = some (.body 3 3 c_end_of)
  no_pieces : P.fd 106 = some (.body 1 1 c_no_pieces)
  two_tables : P.fd 148 = some (.body 3 3 c_two_tables)
  alike : P.fd 149 = some (.body 3 5 c_alike)
end TB

set_option Elab.async false
set_option linter.all false
set_option maxRecDepth 100000
set_option maxHeartbeats 4000000
namespace DR
open PV
/-- 107: _law_some_lots(_law_reel, _law_names, _law_many, _law_most, _law_turn) -/
abbrev c_law_some_lots : CSs := (.cons (.ret (.lc (.tup (.cons (.op .idx (.cons (.var 1) (.cons (.call 17 [true, false] (.cons (.var 0) (.cons (.op .len (.cons (.var 1) .nil)) .nil))) .nil))) (.cons (.op .add (.cons (.cst (.int 1)) (.cons (.call 17 [true, false] (.cons (.var 0) (.cons (.var 3) .nil))) .nil))) .nil))) (.nm 4) (.rng (.var 2)) (.cst (.bl true)) [4])) .nil)
/-- 109: _law_some_state(_law_reel, _law_room, _law_wide, _law_drawn, _law_found, _law_number, _law_row, _law_age, _law_numbers, _law_earlier, _law_turn) -/
abbrev c_law_some_state : CSs := (.cons (.ifs (.op .eq (.cons (.call 17 [true, false] (.cons (.var 0) (.cons (.cst (.int 3)) .nil))) (.cons (.cst (.int 0)) .nil))) (.cons (.ret (.op .add (.cons (.lst (.cons (.lst (.cons (.cst (.int 0)) .nil)) .nil)) (.cons (.lc (.op .mul (.cons (.lst (.cons (.cst (.int 0)) .nil)) (.cons (.op .add (.cons (.var 5) (.cons (.cst (.int 1)) .nil))) .nil))) (.nm 5) (.seq (.var 1)) (.cst (.bl true)) [5]) .nil)))) .nil) .nil) (.cons (.par [3, 4] [true, true] (.cons (.lst .nil) (.cons (.lst .nil) .nil))) (.cons (.fors (.nm 5) (.seq (.op .add (.cons (.lst (.cons (.cst (.int 0)) .nil)) (.cons (.var 1) .nil)))) (.cons (.exp (.mut .append 3 (.cons (.lc (.op .sub (.cons (.call 17 [true, false] (.cons (.var 0) (.cons (.var 2) .nil))) (.cons (.op .fdv (.cons (.var 2) (.cons (.cst (.int 2)) .nil))) .nil))) (.nm 10) (.rng (.op .add (.cons (.var 5) (.cons (.cst (.int 1)) .nil)))) (.cst (.bl true)) [10]) .nil))) (.cons (.asg (.nm 6) true (.lst .nil)) (.cons (.fors (.nm 7) (.rng (.op .add (.cons (.var 5) (.cons (.cst (.int 1)) .nil)))) (.cons (.asg (.nm 8) false (.lst .nil)) (.cons (.forO (.nm 9) 3 (.cons (.asg (.nm 8) false (.op .add (.cons (.var 8) (.cons (.sli (.var 9) (.var 7) (.cst .non)) .nil)))) .nil)) (.cons (.exp (.mut .append 6 (.cons (.op .max1 (.cons (.var 8) .nil)) .nil))) .nil)))) (.cons (.exp (.mut .append 4 (.cons (.var 6) .nil))) .nil))))) (.cons (.ret (.var 4)) .nil))))
/-- 136: _law_setting(_law_reel, _law_many, _law_wide, _law_most, _law_room, _law_kinds, _law_lots) -/
abbrev c_law_setting : CSs := (.cons (.par [4, 5] [false, false] (.cons (.call 19 [true, false] (.cons (.var 0) (.cons (.var 1) .nil))) (.cons (.call 20 [true, false, false] (.cons (.var 0) (.cons (.var 1) (.cons (.var 2) .nil)))) .nil))) (.cons (.asg (.nm 6) false (.call 107 [true, false, false, false] (.cons (.var 0) (.cons (.op .sorted_ (.cons (.var 5) .nil)) (.cons (.op .add (.cons (.cst (.int 1)) (.cons (.call 17 [true, false] (.cons (.var 0) (.cons (.cst (.int 3)) .nil))) .nil))) (.cons (.var 3) .nil)))))) (.cons (.ret (.tup (.cons (.var 4) (.cons (.var 5) (.cons (.call 109 [true, false, false] (.cons (.var 0) (.cons (.var 4) (.cons (.op .add (.cons (.op .mul (.cons (.cst (.int 2)) (.cons (.var 2) .nil))) (.cons (.cst (.int 9)) .nil))) .nil)))) (.cons (.var 6) (.cons (.op .add (.cons (.cst (.int 1)) (.cons (.call 17 [true, false] (.cons (.var 0) (.cons (.cst (.int 3)) .nil))) .nil))) .nil))))))) .nil)))
/-- the defs stand in the program -/
structure Has (P : Pg) : Prop where
  law_some_lots : P.fd 107 = some (.body 4 5 c_law_some_lots)
  law_some_state : P.fd 109 = some (.body 3 11 c_law_some_state)
  law_setting : P.fd 136 = some (.body 4 7 c_law_setting)
end DR

set_option Elab.async false
set_option linter.all false
set_option maxRecDepth 100000
set_option maxHeartbeats 4000000
namespace PL
open PV
/-- 57: Plan.how_many(self, name, own, many) -/
abbrev c_Plan_how_many : CSs := (.cons (.ifs (.not_ (.call 3 [] (.cons (.var 1) .nil))) (.cons .wall .nil) .nil) (.cons (.ret (.op .mul (.cons (.fld 3 (.var 0)) (.cons (.op .sum (.cons (.lc (.var 3) (.tp [2, 3]) (.seq (.fld 2 (.var 0))) (.op .eq (.cons (.var 2) (.cons (.var 1) .nil))) [2, 3]) .nil)) .nil)))) .nil))
/-- 58: Plan.backwards(self) -/
abbrev c_Plan_backwards : CSs := (.cons (.ret (.new 1 [true, false] (.cons (.op .list_ (.cons (.op .rev (.cons (.fld 2 (.var 0)) .nil)) .nil)) (.cons (.fld 3 (.var 0)) .nil)))) .nil)
/-- the defs stand in the program -/
structure Has (P : Pg) : Prop where
  Plan_how_many : P.fd 57 = some (.body 2 4 c_Plan_how_many)
  Plan_backwards : P.fd 58 = some (.body 1 1 c_Plan_backwards)
end PL

set_option Elab.async false
set_option linter.all false
set_option maxRecDepth 100000
set_option maxHeartbeats 4000000
namespace BG
open PV
/-- 61: _law_bag(_law_cell) -/
abbrev c_law_bag : CSs := (.cons (.ret (.lst (.cons (.op .max2 (.cons (.cst (.int 0)) (.cons (.op .sub (.cons (.var 0) (.cons (.op .pow (.cons (.cst (.int 10)) (.cons (.cst (.int 18)) .nil))) .nil))) .nil))) (.cons (.var 0) (.cons (.cst (.int 0)) .nil))))) .nil)
/-- 62: _law_pick(_law_bag_here, _law_many_here, _law_told, _law_seed, _law_turn, _law_first, _law_second, _law_drawn) -/
abbrev c_law_pick : CSs := (.cons (.sset 0 (.cst (.int 2)) (.op .add (.cons (.op .idx (.cons (.var 0) (.cons (.cst (.int 2)) .nil))) (.cons (.cst (.int 1)) .nil)))) (.cons (.ifs (.op .gt (.cons (.op .idx (.cons (.var 0) (.cons (.cst (.int 0)) .nil))) (.cons (.cst (.int 0)) .nil))) (.cons (.asg (.nm 2) false (.op .mod (.cons (.op .int_ (.cons (.op .idx (.cons (.var 0) (.cons (.cst (.int 0)) .nil))) .nil)) (.cons (.var 1) .nil)))) (.cons (.sset 0 (.cst (.int 0)) (.op .fdv (.cons (.op .int_ (.cons (.op .idx (.cons (.var 0) (.cons (.cst (.int 0)) .nil))) .nil)) (.cons (.var 1) .nil)))) (.cons (.ret (.var 2)) .nil))) .nil) (.cons (.par [3, 4] [false, false] (.cons (.op .int_ (.cons (.op .idx (.cons (.var 0) (.cons (.cst (.int 1)) .nil))) .nil)) (.cons (.op .int_ (.cons (.op .idx (.cons (.var 0) (.cons (.cst (.int 2)) .nil))) .nil)) .nil))) (.cons (.asg (.nm 5) false (.op .mod (.cons (.op .int_ (.cons (.op .add (.cons (.op .add (.cons (.op .mul (.cons (.op .mod (.cons (.var 3) (.cons (.cst (.int 2147483629)) .nil))) (.cons (.cst (.int 48271)) .nil))) (.cons (.op .mul (.cons (.var 4) (.cons (.cst (.int 69621)) .nil))) .nil))) (.cons (.cst (.int 12345)) .nil))) .nil)) (.cons (.cst (.int 2147483647)) .nil)))) (.cons (.asg (.nm 6) false (.op .mod (.cons (.op .int_ (.cons (.op .add (.cons (.op .mul (.cons (.var 5) (.cons (.var 5) .nil))) (.cons (.op .mul (.cons (.var 4) (.cons (.cst (.int 40692)) .nil))) .nil))) .nil)) (.cons (.cst (.int 2147483587)) .nil)))) (.cons (.asg (.nm 7) false (.op .fdv (.cons (.op .int_ (.cons (.op .add (.cons (.op .mul (.cons (.var 5) (.cons (.cst (.int 2147483587)) .nil))) (.cons (.var 6) .nil))) .nil)) (.cons (.cst (.int 32)) .nil)))) (.cons (.ifs (.op .gt (.cons (.var 1) (.cons (.op .pow (.cons (.cst (.int 10)) (.cons (.cst (.int 15)) .nil))) .nil))) (.cons (.asg (.nm 7) false (.op .add (.cons (.op .pow (.cons (.var 7) (.cons (.cst (.int 8)) .nil))) (.cons (.var 6) .nil)))) .nil) .nil) (.cons (.ret (.op .mod (.cons (.op .int_ (.cons (.var 7) .nil)) (.cons (.var 1) .nil)))) .nil))))))))
/-- 63: _law_names(_law_bag_here, _law_many_here, _law_found, _law_turn, _law_letters, _law_word, _law_spot, _law_spare) -/
abbrev c_law_names : CSs := (.cons (.asg (.nm 2) true (.lst .nil)) (.cons (.fors (.nm 3) (.rng (.var 1)) (.cons (.asg (.nm 4) false (.lc (.op .idx (.cons (.cst (.str "abcdefghijklmnopqrstuvwxyz")) (.cons (.call 62 [true, false] (.cons (.var 0) (.cons (.cst (.int 26)) .nil))) .nil))) (.nm 6) (.rng (.op .add (.cons (.cst (.int 1)) (.cons (.call 62 [true, false] (.cons (.var 0) (.cons (.cst (.int 8)) .nil))) .nil)))) (.cst (.bl true)) [6])) (.cons (.asg (.nm 5) false (.sli (.op (.join "") (.cons (.var 4) .nil)) (.cst .non) (.op .idx (.cons (.lst (.cons (.cst (.int 1)) (.cons (.cst (.int 1)) (.cons (.cst (.int 2)) (.cons (.cst (.int 8)) .nil))))) (.cons (.call 62 [true, false] (.cons (.var 0) (.cons (.cst (.int 4)) .nil))) .nil))))) (.cons (.exp (.mut .append 2 (.cons (.op .idx (.cons (.lc (.var 7) (.nm 7) (.seq (.lst (.cons (.var 5) (.cons (.cst (.str "i")) (.cons (.cst (.str "j")) (.cons (.cst (.str "k")) (.cons (.cst (.str "l")) (.cons (.cst (.str "m")) (.cons (.cst (.str "n")) .nil))))))))) (.op .nin (.cons (.var 7) (.cons (.var 2) .nil))) [7]) (.cons (.cst (.int 0)) .nil))) .nil))) .nil)))) (.cons (.ret (.var 2)) .nil)))
/-- 66: _law_is(_law_told, _law_due) -/
abbrev c_law_is : CSs := (.cons (.ret (.and_ (.op .isInt (.cons (.var 0) .nil)) (.and_ (.not_ (.op .isBool (.cons (.var 0) .nil))) (.op .eq (.cons (.var 0) (.cons (.var 1) .nil)))))) .nil)
/-- 74: _law_many(_law_bag_here) -/
abbrev c_law_many : CSs := (.cons (.ret (.op .add (.cons (.cst (.int 1)) (.cons (.call 62 [true, false] (.cons (.var 0) (.cons (.op .idx (.cons (.lst (.cons (.cst (.int 1)) (.cons (.cst (.int 3)) (.cons (.op .pow (.cons (.cst (.int 10)) (.cons (.cst (.int 9)) .nil))) (.cons (.op .pow (.cons (.cst (.int 10)) (.cons (.cst (.int 30)) .nil))) .nil))))) (.cons (.call 62 [true, false] (.cons (.var 0) (.cons (.cst (.int 4)) .nil))) .nil))) .nil))) .nil)))) .nil)
/-- the defs stand in the program -/
structure Has (P : Pg) : Prop where
  law_bag : P.fd 61 = some (.body 1 1 c_law_bag)
  law_pick : P.fd 62 = some (.body 2 8 c_law_pick)
  law_names : P.fd 63 = some (.body 2 8 c_law_names)
  law_is : P.fd 66 = some (.body 2 2 c_law_is)
  law_many : P.fd 74 = some (.body 1 1 c_law_many)
end BG

set_option Elab.async false
set_option linter.all false
set_option maxRecDepth 100000
set_option maxHeartbeats 4000000
namespace ST
open PV
/-- 108: _law_all_names(_law_lots, _law_rounds, _law_found, _law_name, _law_many) -/
abbrev c_law_all_names : CSs := (.cons (.asg (.nm 2) false (.lst .nil)) (.cons (.fors (.tp [3, 4]) (.seq (.var 0)) (.cons (.asg (.nm 2) false (.op .add (.cons (.var 2) (.cons (.op .mul (.cons (.lst (.cons (.var 3) .nil)) (.cons (.var 4) .nil))) .nil)))) .nil)) (.cons (.ret (.op .mul (.cons (.var 2) (.cons (.var 1) .nil)))) .nil)))
/-- 110: _law_stepped(_law_room, _law_kinds, _law_state, _law_queue, _law_past, _law_found, _law_name, _law_row, _law_station, _law_time, _law_start, _law_leave, _law_told, _law_sizes, _law_moments, _law_number, _law_size) -/
abbrev c_law_stepped : CSs := (.cons (.odl 4 5 (.op .list_ (.cons (.op .rev (.cons (.var 14) .nil)) .nil)) (.nm 14) (.seq (.var 2)) [14]) (.cons (.fors (.nm 6) (.seq (.var 3)) (.cons (.asg (.nm 7) true (.lst .nil)) (.cons (.fors (.tp [8, 9]) (.enm (.op .idx (.cons (.var 1) (.cons (.var 6) .nil)))) (.cons (.asg (.nm 10) false (.odx 4 (.var 8) (.op .neg (.cons (.cst (.int 1)) .nil)))) (.cons (.ifs (.op .gt (.cons (.var 8) (.cons (.cst (.int 0)) .nil))) (.cons (.asg (.nm 10) false (.op .max2 (.cons (.var 10) (.cons (.op .idx (.cons (.op .idx (.cons (.var 7) (.cons (.op .sub (.cons (.var 8) (.cons (.cst (.int 1)) .nil))) .nil))) (.cons (.cst (.int 2)) .nil))) .nil)))) .nil) .nil) (.cons (.asg (.nm 11) false (.op .add (.cons (.var 10) (.cons (.var 9) .nil)))) (.cons (.ifs (.op .lt (.cons (.var 8) (.cons (.op .len (.cons (.var 0) .nil)) .nil))) (.cons (.asg (.nm 11) false (.op .max2 (.cons (.var 11) (.cons (.odx 4 (.op .add (.cons (.var 8) (.cons (.cst (.int 1)) .nil))) (.op .sub (.cons (.op .neg (.cons (.cst (.int 1)) .nil)) (.cons (.op .idx (.cons (.var 0) (.cons (.var 8) .nil))) .nil)))) .nil)))) .nil) .nil) (.cons (.exp (.mut .append 7 (.cons (.tup (.cons (.var 10) (.cons (.op .add (.cons (.var 10) (.cons (.var 9) .nil))) (.cons (.var 11) .nil)))) .nil))) .nil)))))) (.cons (.fors (.tp [8, 12]) (.enm (.var 7)) (.cons (.oda 4 (.var 8) (.op .idx (.cons (.var 12) (.cons (.cst (.int 2)) .nil)))) .nil)) (.cons (.exp (.mut .append 5 (.cons (.var 7) .nil))) .nil))))) (.cons (.asg (.nm 13) false (.op .add (.cons (.lst (.cons (.cst (.int 1)) .nil)) (.cons (.lc (.op .add (.cons (.var 15) (.cons (.cst (.int 1)) .nil))) (.nm 15) (.seq (.var 0)) (.cst (.bl true)) [15]) .nil)))) (.cons (.frz 4) (.cons (.ret (.tup (.cons (.var 5) (.cons (.lc (.sli (.op .rev (.cons (.var 14) .nil)) (.cst .non) (.var 16)) (.tp [14, 16]) (.zip (.var 4) (.var 13)) (.cst (.bl true)) [14, 16]) .nil)))) .nil)))))
/-- 111: _law_flattened(_law_state, _law_found, _law_moments) -/
abbrev c_law_flattened : CSs := (.cons (.asg (.nm 1) false (.lst .nil)) (.cons (.fors (.nm 2) (.seq (.var 0)) (.cons (.asg (.nm 1) false (.op .add (.cons (.var 1) (.cons (.var 2) .nil)))) .nil)) (.cons (.ret (.var 1)) .nil)))
/-- 112: _law_distant_states(_law_room, _law_far, _law_found, _law_station, _law_number, _law_age, _law_some, _law_later, _law_more, _law_old) -/
abbrev c_law_distant_states : CSs := (.cons (.asg (.nm 2) true (.lst .nil)) (.cons (.fors (.tp [3, 4]) (.enm (.op .add (.cons (.lst (.cons (.cst (.int 0)) .nil)) (.cons (.var 0) .nil)))) (.cons (.fors (.nm 5) (.rng (.op .add (.cons (.var 4) (.cons (.cst (.int 1)) .nil)))) (.cons (.asg (.nm 6) true (.lst .nil)) (.cons (.fors (.tp [7, 8]) (.enm (.op .add (.cons (.lst (.cons (.cst (.int 0)) .nil)) (.cons (.var 0) .nil)))) (.cons (.exp (.mut .append 6 (.cons (.lc (.op .mul (.cons (.var 1) (.cons (.op .int_ (.cons (.and_ (.op .ge (.cons (.var 7) (.cons (.var 3) .nil))) (.op .le (.cons (.var 9) (.cons (.var 5) .nil)))) .nil)) .nil))) (.nm 9) (.rng (.op .add (.cons (.var 8) (.cons (.cst (.int 1)) .nil)))) (.cst (.bl true)) [9]) .nil))) .nil)) (.cons (.exp (.mut .append 2 (.cons (.var 6) .nil))) .nil)))) .nil)) (.cons (.ret (.var 2)) .nil)))
/-- 113: _law_effect_table(_law_room, _law_kinds, _law_queue, _law_far, _law_columns, _law_some, _law_behind, _law_moment, _law_row, _law_column) -/
abbrev c_law_effect_table : CSs := (.cons (.par [3, 4] [false, true] (.cons (.op .pow (.cons (.cst (.int 10)) (.cons (.cst (.int 60)) .nil))) (.cons (.lst .nil) .nil))) (.cons (.fors (.nm 5) (.seq (.call 112 [] (.cons (.var 0) (.cons (.var 3) .nil)))) (.cons (.asg (.nm 6) false (.call 111 [] (.cons (.op .idx (.cons (.call 110 [] (.cons (.var 0) (.cons (.var 1) (.cons (.var 5) (.cons (.var 2) .nil))))) (.cons (.cst (.int 1)) .nil))) .nil))) (.cons (.exp (.mut .append 4 (.cons (.lc (.ite (.op .gt (.cons (.op .mul (.cons (.cst (.int 2)) (.cons (.var 7) .nil))) (.cons (.var 3) .nil))) (.op .sub (.cons (.var 7) (.cons (.var 3) .nil))) (.cst .non)) (.nm 7) (.seq (.var 6)) (.cst (.bl true)) [7]) .nil))) .nil))) (.cons (.ret (.lc (.lc (.op .idx (.cons (.var 9) (.cons (.var 8) .nil))) (.nm 9) (.seq (.var 4)) (.cst (.bl true)) [9]) (.nm 8) (.rng (.op .len (.cons (.var 4) .nil))) (.cst (.bl true)) [8])) .nil)))
/-- 151: _law_other_lots(_law_reel, _law_kinds, _law_lots, _law_name, _law_many, _law_way) -/
abbrev c_law_other_lots : CSs := (.cons (.asg (.tp [3, 4]) false (.op .idx (.cons (.var 2) (.cons (.cst (.int 0)) .nil)))) (.cons (.asg (.nm 5) false (.call 17 [true, false] (.cons (.var 0) (.cons (.cst (.int 6)) .nil)))) (.cons (.ifs (.op .eq (.cons (.var 5) (.cons (.cst (.int 0)) .nil))) (.cons (.ret (.ite (.op .gt (.cons (.var 4) (.cons (.cst (.int 1)) .nil))) (.op .add (.cons (.lst (.cons (.tup (.cons (.var 3) (.cons (.cst (.int 1)) .nil))) (.cons (.tup (.cons (.var 3) (.cons (.var 4) .nil))) .nil))) (.cons (.sli (.var 2) (.cst (.int 1)) (.cst .non)) .nil))) (.op .list_ (.cons (.var 2) .nil)))) .nil) .nil) (.cons (.ifs (.op .eq (.cons (.var 5) (.cons (.cst (.int 1)) .nil))) (.cons (.ret (.op .rev (.cons (.var 2) .nil))) .nil) .nil) (.cons (.ifs (.op .eq (.cons (.var 5) (.cons (.cst (.int 2)) .nil))) (.cons (.ret (.op .add (.cons (.var 2) (.cons (.sli (.var 2) (.cst .non) (.cst (.int 1))) .nil)))) .nil) .nil) (.cons (.ifs (.and_ (.op .eq (.cons (.var 5) (.cons (.cst (.int 3)) .nil))) (.op .gt (.cons (.var 4) (.cons (.cst (.int 1)) .nil)))) (.cons (.ret (.op .add (.cons (.lst (.cons (.tup (.cons (.var 3) (.cons (.cst (.int 1)) .nil))) (.cons (.tup (.cons (.var 3) (.cons (.op .sub (.cons (.var 4) (.cons (.cst (.int 1)) .nil))) .nil))) .nil))) (.cons (.sli (.var 2) (.cst (.int 1)) (.cst .non)) .nil)))) .nil) .nil) (.cons (.ret (.call 107 [true, false, false, false] (.cons (.var 0) (.cons (.op .sorted_ (.cons (.var 1) .nil)) (.cons (.op .add (.cons (.cst (.int 1)) (.cons (.call 17 [true, false] (.cons (.var 0) (.cons (.cst (.int 2)) .nil))) .nil))) (.cons (.cst (.int 3)) .nil)))))) .nil)))))))
/-- 148: two_tables(line, plan, other) -/
abbrev c_two_tables : CSs := (.cons (.exp (.call 26 [] (.cons (.var 0) .nil))) (.cons (.exp (.call 80 [] (.cons (.var 0) (.cons (.var 1) .nil)))) (.cons (.exp (.call 80 [] (.cons (.var 0) (.cons (.var 2) .nil)))) (.cons (.ret (.tup (.cons (.call 104 [] (.cons (.var 0) (.cons (.var 1) .nil))) (.cons (.call 104 [] (.cons (.var 0) (.cons (.var 2) .nil))) .nil)))) .nil))))
/-- 154: may_exchange(line, plan, other, one, two) -/
abbrev c_may_exchange : CSs := (.cons (.asg (.tp [3, 4]) false (.call 148 [] (.cons (.var 0) (.cons (.var 1) (.cons (.var 2) .nil))))) (.cons (.ret (.op .eq (.cons (.call 88 [] (.cons (.var 4) (.cons (.var 3) .nil))) (.cons (.call 88 [] (.cons (.var 3) (.cons (.var 4) .nil))) .nil)))) .nil))
/-- 149: alike(line, plan, other, one, two) -/
abbrev c_alike : CSs := (.cons (.asg (.tp [3, 4]) false (.call 148 [] (.cons (.var 0) (.cons (.var 1) (.cons (.var 2) .nil))))) (.cons (.ret (.op .eq (.cons (.var 3) (.cons (.var 4) .nil)))) .nil))
/-- 153: never_later(line, plan, other, one, two, row, more) -/
abbrev c_never_later : CSs := (.cons (.asg (.tp [3, 4]) false (.call 148 [] (.cons (.var 0) (.cons (.var 1) (.cons (.var 2) .nil))))) (.cons (.ret (.op .all_ (.cons (.lc (.call 122 [] (.cons (.var 5) (.cons (.var 6) .nil))) (.tp [5, 6]) (.zip (.var 3) (.var 4)) (.cst (.bl true)) [5, 6]) .nil))) .nil))
/-- 122: is_below(row, other, number, more) -/
abbrev c_is_below : CSs := (.cons (.fors (.tp [2, 3]) (.zip (.var 0) (.var 1)) (.cons (.ifs (.and_ (.op .isnN (.cons (.var 2) .nil)) (.or_ (.op .isN (.cons (.var 3) .nil)) (.op .gt (.cons (.var 2) (.cons (.var 3) .nil))))) (.cons (.ret (.cst (.bl false))) .nil) .nil) .nil)) (.cons (.ret (.cst (.bl true))) .nil))
/-- 123: _law_below(_law_table, _law_other, _law_row, _law_more, _law_a, _law_b) -/
abbrev c_law_below : CSs := (.cons (.fors (.tp [2, 3]) (.zip (.var 0) (.var 1)) (.cons (.ifs (.op .ne (.cons (.lc (.cst (.int 1)) (.tp [4, 5]) (.zip (.var 2) (.var 3)) (.and_ (.op .isnN (.cons (.var 4) .nil)) (.or_ (.op .isN (.cons (.var 5) .nil)) (.op .gt (.cons (.var 4) (.cons (.var 5) .nil))))) [4, 5]) (.cons (.lst .nil) .nil))) (.cons (.ret (.cst (.bl false))) .nil) .nil) .nil)) (.cons (.ret (.cst (.bl true))) .nil))
/-- the defs stand in the program -/
structure Has (P : Pg) : Prop where
  law_all_names : P.fd 108 = some (.body 2 5 c_law_all_names)
  law_stepped : P.fd 110 = some (.body 4 17 c_law_stepped)
  law_flattened : P.fd 111 = some (.body 1 3 c_law_flattened)
  law_distant_states : P.fd 112 = some (.body 2 10 c_law_distant_states)
  law_effect_table : P.fd 113 = some (.body 3 10 c_law_effect_table)
  law_other_lots : P.fd 151 = some (.body 3 6 c_law_other_lots)
  two_tables : P.fd 148 = some (.body 3 3 c_two_tables)
  may_exchange : P.fd 154 = some (.body 3 5 c_may_exchange)
  alike : P.fd 149 = some (.body 3 5 c_alike)
  never_later : P.fd 153 = some (.body 3 7 c_never_later)
  is_below : P.fd 122 = some (.body 2 4 c_is_below)
  law_below : P.fd 123 = some (.body 2 6 c_law_below)
end ST

set_option Elab.async false
set_option linter.all false
set_option maxRecDepth 100000
set_option maxHeartbeats 4000000
namespace L05
open PySem L2 PV
abbrev c_is_int : CSs := (.cons (.ret (.and_ (.op .isInt (.cons (.var 0) .nil)) (.not_ (.op .isBool (.cons (.var 0) .nil))))) .nil)
abbrev c_is_whole : CSs := (.cons (.ret (.and_ (.call 0 [] (.cons (.var 0) .nil)) (.chn .le .le (.var 1) (.var 0) (.var 2)))) .nil)
abbrev c_is_many : CSs := (.cons (.ret (.call 1 [] (.cons (.var 0) (.cons (.cst (.int 1)) (.cons (.glb 0) .nil))))) .nil)
abbrev c_is_name : CSs := (.cons (.ifs (.or_ (.not_ (.op .isStr (.cons (.var 0) .nil))) (.not_ (.chn .le .le (.cst (.int 1)) (.op .len (.cons (.var 0) .nil)) (.cst (.int 8))))) (.cons (.ret (.cst (.bl false))) .nil) .nil) (.cons (.ret (.op .all_ (.cons (.lc (.op .inn (.cons (.var 1) (.cons (.cst (.str "abcdefghijklmnopqrstuvwxyz")) .nil))) (.nm 1) (.seq (.var 0)) (.cst (.bl true)) [1]) .nil))) .nil))
abbrev c_is_lot : CSs := (.cons (.ret (.and_ (.op .isTuple (.cons (.var 0) .nil)) (.and_ (.op .eq (.cons (.op .len (.cons (.var 0) .nil)) (.cons (.cst (.int 2)) .nil))) (.and_ (.call 3 [] (.cons (.op .idx (.cons (.var 0) (.cons (.cst (.int 0)) .nil))) .nil)) (.call 46 [] (.cons (.op .idx (.cons (.var 0) (.cons (.cst (.int 1)) .nil))) .nil)))))) .nil)
abbrev c_require_lots : CSs := (.cons (.ifs (.or_ (.not_ (.op .isList (.cons (.var 0) .nil))) (.not_ (.chn .le .le (.cst (.int 1)) (.op .len (.cons (.var 0) .nil)) (.var 1)))) (.cons .wall .nil) .nil) (.cons (.forE (.tp [2, 3]) 0 (.cons (.ifs (.not_ (.call 47 [] (.cons (.var 3) .nil))) (.cons .wall .nil) .nil) .nil)) .nil))
abbrev c_Plan_init : CSs := (.cons (.exp (.call 48 [true, false] (.cons (.var 1) (.cons (.glb 5) .nil)))) (.cons (.ifs (.not_ (.call 46 [] (.cons (.var 2) .nil))) (.cons .wall .nil) .nil) (.cons (.fset 0 2 (.op .tuple_ (.cons (.var 1) .nil))) (.cons (.fset 0 3 (.var 2)) .nil))))
abbrev c_Plan_lots : CSs := (.cons (.ret (.op .list_ (.cons (.fld 2 (.var 0)) .nil))) .nil)
abbrev c_Plan_rounds : CSs := (.cons (.ret (.fld 3 (.var 0))) .nil)
abbrev c_Plan_pieces : CSs := (.cons (.ret (.op .mul (.cons (.fld 3 (.var 0)) (.cons (.op .sum (.cons (.lc (.var 2) (.tp [1, 2]) (.seq (.fld 2 (.var 0))) (.cst (.bl true)) [1, 2]) .nil)) .nil)))) .nil)
abbrev c_Plan_names : CSs := (.cons (.ret (.op .sset (.cons (.lc (.var 1) (.tp [1, 2]) (.seq (.fld 2 (.var 0))) (.cst (.bl true)) [1, 2]) .nil))) .nil)
abbrev c_Plan_kind_of : CSs := (.cons (.exp (.call 60 [] (.cons (.var 0) (.cons (.var 1) .nil)))) (.cons (.ret (.op .idx (.cons (.op .idx (.cons (.fld 2 (.var 0)) (.cons (.op .idx (.cons (.call 59 [] (.cons (.var 0) (.cons (.var 1) .nil))) (.cons (.cst (.int 1)) .nil))) .nil))) (.cons (.cst (.int 0)) .nil)))) .nil))
abbrev c_Plan_how_many : CSs := (.cons (.ifs (.not_ (.call 3 [] (.cons (.var 1) .nil))) (.cons .wall .nil) .nil) (.cons (.ret (.op .mul (.cons (.fld 3 (.var 0)) (.cons (.op .sum (.cons (.lc (.var 3) (.tp [2, 3]) (.seq (.fld 2 (.var 0))) (.op .eq (.cons (.var 2) (.cons (.var 1) .nil))) [2, 3]) .nil)) .nil)))) .nil))
abbrev c_Plan_backwards : CSs := (.cons (.ret (.new 1 [true, false] (.cons (.op .list_ (.cons (.op .rev (.cons (.fld 2 (.var 0)) .nil)) .nil)) (.cons (.fld 3 (.var 0)) .nil)))) .nil)
abbrev c_lot_at : CSs := (.cons (.asg (.tp [2, 3]) false (.op .dvm (.cons (.op .sub (.cons (.var 1) (.cons (.cst (.int 1)) .nil))) (.cons (.op .fdv (.cons (.prp 10 (.var 0)) (.cons (.fld 3 (.var 0)) .nil))) .nil)))) (.cons (.asg (.nm 4) false (.cst (.int 0))) (.cons (.whl (.op .ge (.cons (.var 3) (.cons (.op .idx (.cons (.op .idx (.cons (.fld 2 (.var 0)) (.cons (.var 4) .nil))) (.cons (.cst (.int 1)) .nil))) .nil))) (.cons (.aug 3 .sub (.op .idx (.cons (.op .idx (.cons (.fld 2 (.var 0)) (.cons (.var 4) .nil))) (.cons (.cst (.int 1)) .nil)))) (.cons (.aug 4 .add (.cst (.int 1))) .nil))) (.cons (.ret (.tup (.cons (.var 2) (.cons (.var 4) (.cons (.var 3) .nil))))) .nil))))
abbrev c_require_piece : CSs := (.cons (.ifs (.not_ (.call 1 [] (.cons (.var 1) (.cons (.cst (.int 1)) (.cons (.prp 10 (.var 0)) .nil))))) (.cons .wall .nil) .nil) .nil)
abbrev c_law_bag : CSs := (.cons (.ret (.lst (.cons (.op .max2 (.cons (.cst (.int 0)) (.cons (.op .sub (.cons (.var 0) (.cons (.op .pow (.cons (.cst (.int 10)) (.cons (.cst (.int 18)) .nil))) .nil))) .nil))) (.cons (.var 0) (.cons (.cst (.int 0)) .nil))))) .nil)
abbrev c_law_pick : CSs := (.cons (.sset 0 (.cst (.int 2)) (.op .add (.cons (.op .idx (.cons (.var 0) (.cons (.cst (.int 2)) .nil))) (.cons (.cst (.int 1)) .nil)))) (.cons (.ifs (.op .gt (.cons (.op .idx (.cons (.var 0) (.cons (.cst (.int 0)) .nil))) (.cons (.cst (.int 0)) .nil))) (.cons (.asg (.nm 2) false (.op .mod (.cons (.op .int_ (.cons (.op .idx (.cons (.var 0) (.cons (.cst (.int 0)) .nil))) .nil)) (.cons (.var 1) .nil)))) (.cons (.sset 0 (.cst (.int 0)) (.op .fdv (.cons (.op .int_ (.cons (.op .idx (.cons (.var 0) (.cons (.cst (.int 0)) .nil))) .nil)) (.cons (.var 1) .nil)))) (.cons (.ret (.var 2)) .nil))) .nil) (.cons (.par [3, 4] [false, false] (.cons (.op .int_ (.cons (.op .idx (.cons (.var 0) (.cons (.cst (.int 1)) .nil))) .nil)) (.cons (.op .int_ (.cons (.op .idx (.cons (.var 0) (.cons (.cst (.int 2)) .nil))) .nil)) .nil))) (.cons (.asg (.nm 5) false (.op .mod (.cons (.op .int_ (.cons (.op .add (.cons (.op .add (.cons (.op .mul (.cons (.op .mod (.cons (.var 3) (.cons (.cst (.int 2147483629)) .nil))) (.cons (.cst (.int 48271)) .nil))) (.cons (.op .mul (.cons (.var 4) (.cons (.cst (.int 69621)) .nil))) .nil))) (.cons (.cst (.int 12345)) .nil))) .nil)) (.cons (.cst (.int 2147483647)) .nil)))) (.cons (.asg (.nm 6) false (.op .mod (.cons (.op .int_ (.cons (.op .add (.cons (.op .mul (.cons (.var 5) (.cons (.var 5) .nil))) (.cons (.op .mul (.cons (.var 4) (.cons (.cst (.int 40692)) .nil))) .nil))) .nil)) (.cons (.cst (.int 2147483587)) .nil)))) (.cons (.asg (.nm 7) false (.op .fdv (.cons (.op .int_ (.cons (.op .add (.cons (.op .mul (.cons (.var 5) (.cons (.cst (.int 2147483587)) .nil))) (.cons (.var 6) .nil))) .nil)) (.cons (.cst (.int 32)) .nil)))) (.cons (.ifs (.op .gt (.cons (.var 1) (.cons (.op .pow (.cons (.cst (.int 10)) (.cons (.cst (.int 15)) .nil))) .nil))) (.cons (.asg (.nm 7) false (.op .add (.cons (.op .pow (.cons (.var 7) (.cons (.cst (.int 8)) .nil))) (.cons (.var 6) .nil)))) .nil) .nil) (.cons (.ret (.op .mod (.cons (.op .int_ (.cons (.var 7) .nil)) (.cons (.var 1) .nil)))) .nil))))))))
abbrev c_law_names : CSs := (.cons (.asg (.nm 2) true (.lst .nil)) (.cons (.fors (.nm 3) (.rng (.var 1)) (.cons (.asg (.nm 4) false (.lc (.op .idx (.cons (.cst (.str "abcdefghijklmnopqrstuvwxyz")) (.cons (.call 62 [true, false] (.cons (.var 0) (.cons (.cst (.int 26)) .nil))) .nil))) (.nm 6) (.rng (.op .add (.cons (.cst (.int 1)) (.cons (.call 62 [true, false] (.cons (.var 0) (.cons (.cst (.int 8)) .nil))) .nil)))) (.cst (.bl true)) [6])) (.cons (.asg (.nm 5) false (.sli (.op (.join "") (.cons (.var 4) .nil)) (.cst .non) (.op .idx (.cons (.lst (.cons (.cst (.int 1)) (.cons (.cst (.int 1)) (.cons (.cst (.int 2)) (.cons (.cst (.int 8)) .nil))))) (.cons (.call 62 [true, false] (.cons (.var 0) (.cons (.cst (.int 4)) .nil))) .nil))))) (.cons (.exp (.mut .append 2 (.cons (.op .idx (.cons (.lc (.var 7) (.nm 7) (.seq (.lst (.cons (.var 5) (.cons (.cst (.str "i")) (.cons (.cst (.str "j")) (.cons (.cst (.str "k")) (.cons (.cst (.str "l")) (.cons (.cst (.str "m")) (.cons (.cst (.str "n")) .nil))))))))) (.op .nin (.cons (.var 7) (.cons (.var 2) .nil))) [7]) (.cons (.cst (.int 0)) .nil))) .nil))) .nil)))) (.cons (.ret (.var 2)) .nil)))
abbrev c_law_lots : CSs := (.cons (.asg (.nm 4) false (.op .sorted_ (.cons (.var 1) .nil))) (.cons (.ret (.lc (.tup (.cons (.op .idx (.cons (.var 4) (.cons (.call 62 [true, false] (.cons (.var 0) (.cons (.op .len (.cons (.var 4) .nil)) .nil))) .nil))) (.cons (.op .add (.cons (.cst (.int 1)) (.cons (.call 62 [true, false] (.cons (.var 0) (.cons (.var 3) .nil))) .nil))) .nil))) (.nm 5) (.rng (.op .add (.cons (.cst (.int 1)) (.cons (.call 62 [true, false] (.cons (.var 0) (.cons (.var 2) .nil))) .nil)))) (.cst (.bl true)) [5])) .nil))
abbrev c_law_pieces : CSs := (.cons (.asg (.nm 2) true (.lst .nil)) (.cons (.fors (.tp [3, 4]) (.seq (.var 0)) (.cons (.exp (.mut .extend 2 (.cons (.op .mul (.cons (.lst (.cons (.var 3) .nil)) (.cons (.var 4) .nil))) .nil))) .nil)) (.cons (.ret (.op .mul (.cons (.var 2) (.cons (.var 1) .nil)))) .nil)))
abbrev c_law_is : CSs := (.cons (.ret (.and_ (.op .isInt (.cons (.var 0) .nil)) (.and_ (.not_ (.op .isBool (.cons (.var 0) .nil))) (.op .eq (.cons (.var 0) (.cons (.var 1) .nil)))))) .nil)
abbrev c_law_told_right : CSs := (.cons (.ifs (.op .ne (.cons (.op .repr_ (.cons (.lst (.cons (.prp 8 (.var 0)) (.cons (.prp 9 (.var 0)) .nil))) .nil)) (.cons (.op .repr_ (.cons (.lst (.cons (.var 1) (.cons (.var 2) .nil))) .nil)) .nil))) (.cons (.ret (.cst (.bl false))) .nil) .nil) (.cons (.asg (.nm 3) false (.call 65 [] (.cons (.var 1) (.cons (.var 2) .nil)))) (.cons (.ret (.and_ (.call 66 [] (.cons (.prp 10 (.var 0)) (.cons (.op .len (.cons (.var 3) .nil)) .nil))) (.op .eq (.cons (.prp 11 (.var 0)) (.cons (.op .sset (.cons (.var 3) .nil)) .nil))))) .nil)))
abbrev c_law_pieces_right : CSs := (.cons (.ifs (.op .ne (.cons (.lc (.mth 12 (.var 0) [] (.cons (.op .add (.cons (.var 3) (.cons (.cst (.int 1)) .nil))) .nil)) (.nm 3) (.rng (.op .len (.cons (.var 1) .nil))) (.cst (.bl true)) [3]) (.cons (.var 1) .nil))) (.cons (.ret (.cst (.bl false))) .nil) .nil) (.cons (.ret (.op .eq (.cons (.lc (.var 4) (.nm 4) (.seq (.var 2)) (.not_ (.call 66 [] (.cons (.mth 13 (.var 0) [] (.cons (.var 4) .nil)) (.cons (.lcn (.var 1) (.var 4)) .nil)))) [4]) (.cons (.lst .nil) .nil)))) .nil))
abbrev c_law_right : CSs := (.cons (.asg (.nm 1) false (.call 63 [true, false] (.cons (.var 0) (.cons (.op .add (.cons (.cst (.int 1)) (.cons (.call 62 [true, false] (.cons (.var 0) (.cons (.cst (.int 4)) .nil))) .nil))) .nil)))) (.cons (.par [2, 3] [false, false] (.cons (.call 64 [true, false, false, false] (.cons (.var 0) (.cons (.var 1) (.cons (.cst (.int 12)) (.cons (.op .idx (.cons (.lst (.cons (.cst (.int 1)) (.cons (.cst (.int 2)) (.cons (.cst (.int 5)) .nil)))) (.cons (.call 62 [true, false] (.cons (.var 0) (.cons (.cst (.int 3)) .nil))) .nil))) .nil))))) (.cons (.op .add (.cons (.cst (.int 1)) (.cons (.call 62 [true, false] (.cons (.var 0) (.cons (.cst (.int 4)) .nil))) .nil))) .nil))) (.cons (.asg (.nm 4) true (.op .list_ (.cons (.var 2) .nil))) (.cons (.asg (.nm 5) false (.new 1 [true, false] (.cons (.var 4) (.cons (.var 3) .nil)))) (.cons (.exp (.mut .append 4 (.cons (.tup (.cons (.cst (.str "zz")) (.cons (.cst (.int 5)) .nil))) .nil))) (.cons (.par [6, 7] [false, false] (.cons (.call 65 [] (.cons (.var 2) (.cons (.var 3) .nil))) (.cons (.op .add (.cons (.var 1) (.cons (.lst (.cons (.cst (.str "zz")) (.cons (.cst (.str "zzzzzzzz")) (.cons (.cst (.str "q")) .nil)))) .nil))) .nil))) (.cons (.ifs (.or_ (.not_ (.call 67 [] (.cons (.var 5) (.cons (.var 2) (.cons (.var 3) .nil))))) (.not_ (.call 68 [] (.cons (.var 5) (.cons (.var 6) (.cons (.var 7) .nil)))))) (.cons (.ret (.cst (.bl false))) .nil) .nil) (.cons (.asg (.nm 8) false (.mth 14 (.var 5) [] .nil)) (.cons (.ifs (.or_ (.not_ (.call 67 [] (.cons (.var 8) (.cons (.op .rev (.cons (.var 2) .nil)) (.cons (.var 3) .nil))))) (.not_ (.call 68 [] (.cons (.var 8) (.cons (.op .rev (.cons (.var 6) .nil)) (.cons (.var 7) .nil)))))) (.cons (.ret (.cst (.bl false))) .nil) .nil) (.cons (.apt 9 (.cons (.prp 8 (.var 5)) (.cons (.prp 11 (.var 5)) (.cons (.prp 8 (.var 8)) (.cons (.prp 11 (.var 8)) .nil))))) (.cons (.ifs (.or_ (.not_ (.call 67 [] (.cons (.var 5) (.cons (.var 2) (.cons (.var 3) .nil))))) (.not_ (.call 67 [] (.cons (.var 8) (.cons (.op .rev (.cons (.var 2) .nil)) (.cons (.var 3) .nil)))))) (.cons (.ret (.cst (.bl false))) .nil) .nil) (.cons (.ret (.and_ (.op .eq (.cons (.prp 8 (.mth 14 (.var 8) [] .nil)) (.cons (.var 2) .nil))) (.call 68 [] (.cons (.var 5) (.cons (.var 6) (.cons (.var 7) .nil)))))) .nil))))))))))))
abbrev c_law : CSs := (.cons (.fors (.nm 1) (.seq (.op .add (.cons (.sli (.var 0) (.cst .non) (.cst (.int 8))) (.cons (.lst (.cons (.cst (.int 0)) .nil)) .nil)))) (.cons (.asg (.nm 2) true (.call 61 [] (.cons (.var 1) .nil))) (.cons (.fors (.nm 3) (.rng (.cst (.int 2))) (.cons (.ifs (.not_ (.call 24 [true] (.cons (.var 2) .nil))) (.cons (.ret (.cst (.bl false))) .nil) .nil) .nil)) .nil))) (.cons (.asg (.nm 4) false (.new 1 [true, false] (.cons (.lst (.cons (.tup (.cons (.cst (.str "b")) (.cons (.cst (.int 2)) .nil))) (.cons (.tup (.cons (.cst (.str "a")) (.cons (.cst (.int 1)) .nil))) (.cons (.tup (.cons (.cst (.str "b")) (.cons (.cst (.int 1)) .nil))) .nil)))) (.cons (.cst (.int 2)) .nil)))) (.cons (.asg (.nm 5) false (.lst (.cons (.prp 10 (.var 4)) (.cons (.prp 11 (.var 4)) (.cons (.lc (.mth 12 (.var 4) [] (.cons (.var 6) .nil)) (.nm 6) (.seq (.tup (.cons (.cst (.int 1)) (.cons (.cst (.int 2)) (.cons (.cst (.int 3)) (.cons (.cst (.int 4)) (.cons (.cst (.int 7)) .nil))))))) (.cst (.bl true)) [6]) (.cons (.mth 13 (.var 4) [] (.cons (.cst (.str "b")) .nil)) .nil)))))) (.cons (.ret (.op .eq (.cons (.var 5) (.cons (.lst (.cons (.cst (.int 8)) (.cons (.lst (.cons (.cst (.str "a")) (.cons (.cst (.str "b")) .nil))) (.cons (.lst (.cons (.cst (.str "b")) (.cons (.cst (.str "b")) (.cons (.cst (.str "a")) (.cons (.cst (.str "b")) (.cons (.cst (.str "a")) .nil)))))) (.cons (.cst (.int 6)) .nil))))) .nil)))) .nil))))
def fdT : Nat → Option FDef
  | 0 => some (.body 1 1 c_is_int)
  | 1 => some (.body 3 3 c_is_whole)
  | 46 => some (.body 1 1 c_is_many)
  | 3 => some (.body 1 2 c_is_name)
  | 47 => some (.body 1 1 c_is_lot)
  | 48 => some (.body 2 4 c_require_lots)
  | 50 => some (.body 3 3 c_Plan_init)
  | 51 => some (.body 1 1 c_Plan_lots)
  | 52 => some (.body 1 1 c_Plan_rounds)
  | 53 => some (.body 1 3 c_Plan_pieces)
  | 54 => some (.body 1 3 c_Plan_names)
  | 56 => some (.body 2 2 c_Plan_kind_of)
  | 57 => some (.body 2 4 c_Plan_how_many)
  | 58 => some (.body 1 1 c_Plan_backwards)
  | 59 => some (.body 2 5 c_lot_at)
  | 60 => some (.body 2 2 c_require_piece)
  | 61 => some (.body 1 1 c_law_bag)
  | 62 => some (.body 2 8 c_law_pick)
  | 63 => some (.body 2 8 c_law_names)
  | 64 => some (.body 4 6 c_law_lots)
  | 65 => some (.body 2 5 c_law_pieces)
  | 66 => some (.body 2 2 c_law_is)
  | 67 => some (.body 3 4 c_law_told_right)
  | 68 => some (.body 3 5 c_law_pieces_right)
  | 24 => some (.body 1 10 c_law_right)
  | 25 => some (.body 1 7 c_law)
  | 2 => some (.body 1 1 LN.c_is_time)
  | 4 => some (.body 1 2 LN.c_valid_places)
  | 5 => some (.body 2 5 LN.c_require_kinds)
  | 6 => some (.body 3 5 LN.c_Line_init)
  | 7 => some (.body 1 1 LN.c_Line_places)
  | 8 => some (.body 1 3 LN.c_Line_kinds)
  | 11 => some (.body 2 2 LN.c_Line_eq)
  | 15 => some (.body 2 2 TB.c_require_station)
  | 16 => some (.body 2 3 RL.c_law_wound)
  | 17 => some (.body 2 4 RL.c_law_spin)
  | 18 => some (.body 2 4 RL.c_law_mixed)
  | 19 => some (.body 2 4 RL.c_law_some_room)
  | 20 => some (.body 3 6 RL.c_law_some_kinds)
  | 26 => some (.body 1 1 LN.c_require_line)
  | 49 => some (.body 1 4 TB.c_runs_of)
  | 55 => some (.body 2 2 TB.c_Plan_eq)
  | 74 => some (.body 1 1 BG.c_law_many)
  | 80 => some (.body 2 4 TB.c_require_plan)
  | 81 => some (.body 1 5 TB.c_spots)
  | 82 => some (.body 1 1 TB.c_greatest)
  | 83 => some (.body 1 3 TB.c_unit)
  | 84 => some (.body 2 4 TB.c_later_row)
  | 85 => some (.body 2 3 TB.c_row_behind_time)
  | 86 => some (.body 2 9 TB.c_piece_table)
  | 87 => some (.body 2 7 TB.c_row_product)
  | 88 => some (.body 2 3 TB.c_product)
  | 89 => some (.body 2 5 TB.c_power)
  | 90 => some (.body 2 6 TB.c_applied)
  | 91 => some (.body 1 4 TB.c_ground)
  | 92 => some (.body 2 4 TB.c_lot_table)
  | 93 => some (.body 2 4 TB.c_lots_table)
  | 94 => some (.body 2 2 TB.c_round_table)
  | 95 => some (.body 2 2 TB.c_plan_table)
  | 96 => some (.body 1 3 TB.c_vector_of)
  | 97 => some (.body 2 5 TB.c_state_of)
  | 98 => some (.body 2 6 TB.c_is_state)
  | 99 => some (.body 2 2 TB.c_require_state)
  | 100 => some (.body 3 3 TB.c_Effect_init)
  | 101 => some (.body 1 2 TB.c_Effect_rows)
  | 102 => some (.body 2 2 TB.c_Effect_eq)
  | 103 => some (.body 2 2 TB.c_Effect_behind)
  | 104 => some (.body 2 2 TB.c_closed_table)
  | 105 => some (.body 2 2 TB.c_effect)
  | 106 => some (.body 1 1 TB.c_no_pieces)
  | 107 => some (.body 4 5 DR.c_law_some_lots)
  | 108 => some (.body 2 5 ST.c_law_all_names)
  | 109 => some (.body 3 11 DR.c_law_some_state)
  | 110 => some (.body 4 17 ST.c_law_stepped)
  | 111 => some (.body 1 3 ST.c_law_flattened)
  | 112 => some (.body 2 10 ST.c_law_distant_states)
  | 113 => some (.body 3 10 ST.c_law_effect_table)
  | 114 => some (.body 2 2 TB.c_Effect_then)
  | 115 => some (.body 2 2 TB.c_Effect_repeated)
  | 116 => some (.body 2 2 TB.c_require_effect)
  | 122 => some (.body 2 4 ST.c_is_below)
  | 123 => some (.body 2 6 ST.c_law_below)
  | 125 => some (.body 3 5 TB.c_applied_times)
  | 126 => some (.body 2 8 TB.c_parts_of)
  | 127 => some (.body 4 8 TB.c_vector_behind)
  | 128 => some (.body 3 9 TB.c_moments_of)
  | 129 => some (.body 3 3 TB.c_require_all)
  | 130 => some (.body 5 6 TB.c_operation)
  | 131 => some (.body 5 5 TB.c_start_of)
  | 133 => some (.body 5 5 TB.c_leave_of)
  | 134 => some (.body 4 4 TB.c_state_behind)
  | 135 => some (.body 3 3 TB.c_end_of)
  | 136 => some (.body 4 7 DR.c_law_setting)
  | 148 => some (.body 3 3 TB.c_two_tables)
  | 149 => some (.body 3 5 TB.c_alike)
  | 151 => some (.body 3 6 ST.c_law_other_lots)
  | 153 => some (.body 3 7 ST.c_never_later)
  | 154 => some (.body 3 5 ST.c_may_exchange)
  | _ => none
def glT : Nat → D
  | 5 => .int 12
  | 0 => .int 1000000000000000000000000000000
  | 1 => .int 5
  | 2 => .int 3
  | 3 => .int 10
  | 4 => .int 6
  | 8 => .int 5
  | 9 => .int 10
  | 11 => .int 100
  | _ => .non
abbrev mtL : List (Nat × Nat × Nat) := [(1, 0, 50), (1, 8, 51), (1, 9, 52), (1, 10, 53), (1, 11, 54), (1, 12, 56), (1, 13, 57), (1, 14, 58), (0, 2, 7), (0, 3, 8), (0, 4, 9), (0, 5, 10), (0, 6, 12), (0, 7, 13), (2, 15, 101), (2, 16, 103), (2, 17, 114), (2, 18, 115), (2, 19, 121), (0, 0, 6), (2, 0, 100)]
abbrev flL : List (Nat × Nat) := [(1, 2), (1, 3)]
def Pr : Pg := ⟨fdT, glT, mtOf mtL, flOf flL⟩
end L05

set_option Elab.async false
set_option linter.all false
set_option maxRecDepth 100000
set_option maxHeartbeats 1000000
/-! WpE: list comprehensions with two clauses. -/
namespace PV
open PySem L2
section
variable {T : Tb} {ρ : Env} {Q : Val → Env → Prop} {QD : List D → Env → Prop} {e c e1 c1 : CE} {t t1 : CT} {own own1 : List Nat}
/-- the turns of a comprehension with two clauses -/
@[irreducible] def wG2 (T : Tb) (e c : CE) (t : CT) (e1 c1 : CE) (t1 : CT) (own own1 : List Nat) (items : List D) (ρ : Env) (Q : List D → Env → Prop) : Prop :=
  (gather (fun x ρ => match tgt ρ t x with
        | none => .bad
        | some ρ => (ev T c ρ).bind fun b ρ => truth b ρ fun k ρ => if k then (ev T e1 ρ).bind fun v ρ => (okD v ρ).bind fun d ρ => match itemsOf d with
            | none => .bad
            | some items1 => (gather (fun x ρ => match tgt ρ t1 x with
                | none => .bad
                | some ρ => (ev T c1 ρ).bind fun b ρ => truth b ρ fun k ρ => if k then (ev T e ρ).bind fun v ρ => (okD v ρ).bind fun d ρ => .ok [d] (wipeE ρ own1) else .ok [] (wipeE ρ own1)) items1 (wipeE ρ own1)).bind fun ds ρ => .ok ds (wipeE ρ own)
          else .ok [] (wipeE ρ own)) items ρ).wp Q
theorem wG2_nil : wG2 T e c t e1 c1 t1 own own1 [] ρ QD = QD [] ρ := by
  unfold wG2
  rfl
theorem wE_lc2 {it : CI} : wE T (.lc2 e t it c t1 e1 c1 own own1) ρ Q = wI T it ρ fun items ρ1 => wG2 T e c t e1 c1 t1 own own1 items (wipeE ρ1 own) fun ds ρ2 => ds.length ≤ LIM ∧ Q (.n (.lst ds)) (unwipe ρ1 ρ2 own) := by
  simp only [wE, wI, ev, wp_bind, wp_calm]
  congr
  funext items ρ1
  unfold wG2
  congr
  funext ds ρ2
  rw [wp_ite]
  by_cases h : ds.length ≤ LIM
  · rw [if_pos h, wp_ok]; simp [h]
  · rw [if_neg h, wp_bad]; simp [h]
end
end PV

local macro_rules | `(tactic| walk_at "pv") => `(tactic| simp (config := { decide := false, implicitDefEqProofs := false, maxSteps := 1000000 }) only [PV.intsOf_map, PV.strsOf_map, PV.boolsOf_rep, PV.all_rep, List.length_replicate, List.length_map, PV.wEqo_obj, PV.wEqo_non, PV.wEqo_int, PV.wEqo_str, PV.wEqo_lst, PV.wEqo_tup, PV.wEqo_dct, PV.setF, PV.getF, PV.keyD_inl, PV.keyD_inr, PV.keyOf_int, List.set_cons_zero, List.set_cons_succ, List.set_nil, PV.wC, PV.wNew, PV.wNw_ok, PV.back_nil, PV.back_f, PV.back_n, PV.back_vf, PV.back_vo, PV.backS_ow, PV.backT_ow, PV.backT_pw, PV.notV_f, PV.notV_n, PV.notV_t, PV.notE_f, PV.notE_n, PV.wTv_t, PV.wCT, PV.tv_t, PV.tv_f, PV.mvS_ow, PV.mvS_fz, PV.move_nil, PV.move_f, PV.move_n, PV.move_v, PV.wp_fok, PV.wMut_eq, PV.wE_cst, PV.wE_var, PV.wE_glb, PV.wEs_nil, PV.wEs_cons, PV.wE_op, PV.wE_and, PV.wE_or, PV.wE_not, PV.wE_ite, PV.wE_chn, PV.wE_lst, PV.wE_tup, PV.wE_lstS, PV.wA_nil, PV.wA_cons, PV.wE_dctN, PV.wE_dct, PV.wE_fld, PV.wE_call, PV.wE_prp, PV.wE_mth, PV.wE_new, PV.wE_eqo, PV.wE_lix, PV.wE_lcn, PV.wIsL_lst, PV.wE_eql, PV.wE_sli, PV.wE_mut, PV.wE_odx, PV.wE_odxK, PV.wOd_od, PV.wOx_od, PV.wFd_f, PV.dat_l, PV.dat_k, PV.wE_lc, PV.wE_lc2, PV.wE_dc, PV.wI_seq, PV.wI_rng, PV.wI_rng2, PV.wI_itm, PV.wI_val, PV.wI_zip, PV.wI_enm, PV.wBd_non, PV.wBd_int, PV.wBd_var, PV.wBd_op, PV.wPart_int, PV.wInt_int, PV.wIt_lst, PV.wIt_tup, PV.wIt_dct, PV.wIt_str, PV.wDct_dct, PV.wLst_lst, PV.wEnm_lst, PV.wEnm_tup, PV.wFld_obj, PV.wM_obj, PV.wEqo_obj, PV.wEqo_non, PV.wEqo_int, PV.wEqo_str, PV.wEqo_lst, PV.wEqo_tup, PV.wEqo_dct, PV.wEql_n, PV.wO_some, PV.wO_none, PV.wO_bind, PV.wO_map, PV.wO_ite, PV.wSs_nil, PV.wB_bl, PV.wK_t, PV.wK_f, PV.wV_fz, PV.wV_ow, PV.wV_pw, PV.wV_no, PV.wD_f, PV.wD_n, PV.wD_v, PV.wDv_ow, PV.wDv_fz, PV.wDs_nil, PV.wDs_cons, PV.wRet_f, PV.wRet_n, PV.wRet_v, PV.wRv_ow, PV.wRv_fz, PV.wAug_f, PV.wFz_fz, PV.wFset_obj, PV.slotAt_nil, PV.slotAt_zero, PV.slotAt_succ, PV.set_zero, PV.set_succ, PV.set_nil, PV.rd_f, PV.rd_n, PV.rd_v, PV.rdS_ow, PV.rdS_pw, PV.rdS_fz, PV.rds_nil, PV.rds_cons, PV.ownAt_eq, PV.ownS_ow, PV.ownS_pw, PV.putOwn_eq, PV.putS_ow, PV.putS_pw, PV.setS_eq, PV.npw_fz, PV.npw_ow, PV.npw_no, PV.npw_pw, PV.store_n, PV.store_f, PV.store_nf, PV.store_v, PV.tgt_nm, PV.tgt_tp, PV.tgt_tpl, PV.tgt_tq, PV.setMany_nil, PV.setMany_cons, PV.setQ_nil, PV.setQ_cons, PV.setQ_tup, PV.prep_nil, PV.prep_nt, PV.prep_nf, PV.prep_f, PV.prep_v, PV.storeAll_nil, PV.storeAll_f, PV.storeAll_n, PV.lend_nil, PV.lend_f, PV.lend_n, PV.lend_vt, PV.lend_vf, PV.lend_v0, PV.lendS_ow, PV.lendS_pw, PV.lendS_fz, PV.isLst_lst, PV.opAug_int, PV.oEq_int, PV.oEq_str, PV.oEq_lnil, PV.oEq_bl, PV.oq_add_int, PV.oq_add_str, PV.oq_add_lst, PV.oq_add_tup, PV.oq_sub_int, PV.oq_mul_int, PV.oq_mul_lst, PV.oq_fdv_int, PV.oq_mod_int, PV.oq_pow_int, PV.oq_shl_int, PV.oq_neg_int, PV.oq_lt_int, PV.oq_le_int, PV.oq_gt_int, PV.oq_ge_int, PV.oq_eq, PV.oq_ne, PV.oq_isN, PV.oq_isnN, PV.oq_in, PV.oq_nin, PV.oIn_lst, PV.oIn_tup, PV.oIn_dct, PV.oIn_str, PV.keyOf_int, PV.keyOf_str, PV.oq_idx_lst, PV.oq_idx_tup, PV.oq_idx_dct, PV.oq_idx_str, PV.oq_rev_lst, PV.oq_rev_tup, PV.oq_join_lst, PV.oq_len_lst, PV.oq_len_tup, PV.oq_len_dct, PV.oq_len_str, PV.oq_int_int, PV.oq_int_bl, PV.oq_max2, PV.oq_min2, PV.oq_sum, PV.oq_list_lst, PV.oq_list_tup, PV.oq_list_dct, PV.oq_tuple_lst, PV.oq_tuple_tup, PV.oq_sorted_dct, PV.oq_sorted_lst, PV.oq_all, PV.oq_any, PV.oq_abs, PV.oq_dvm, PV.oq_repr, PV.oq_str_int, PV.oq_str_str, PV.oq_dictP_lst, PV.oq_dictP_dct, PV.oq_isInt, PV.oq_isBool, PV.oq_isStr, PV.oq_isList, PV.oq_isTuple, PV.oq_isDict, PV.oq_isObj, PV.oObj_obj, PV.oTy_non, PV.oTy_int, PV.oTy_bl, PV.oTy_str, PV.oTy_lst, PV.oTy_tup, PV.oTy_dct, PV.dInt_int, PV.dInt_bl, PV.dInt_str, PV.dInt_lst, PV.dInt_non, PV.dBool_int, PV.dBool_bl, PV.dStr_str, PV.dStr_int, PV.dList_lst, PV.dList_tup, PV.dTuple_tup, PV.dTuple_lst, PV.dDict_dct, PV.isNone_non, PV.isNone_int, PV.isNone_lst, PV.isNone_tup, PV.isNone_str, PV.at_0, PV.at_1, PV.at_2, PV.at_3, PV.at_4, PV.ixOf_0, PV.ixOf_1, PV.ixOf_2, PV.setD_lst, PV.setD_dct, PV.mut_append, PV.mut_extend, PV.mut_pop, PV.mut_popAt, PV.mut_clear, PV.spread_f, PV.spread_lst, PV.spread_tup, PV.sliD_lst, PV.sliD_tup, PV.sliD_str, PV.wipeE_nil, PV.wipeE_cons, PV.unwipe_nil, PV.unwipe_cons, PV.wMut_eq, PV.at_m1, List.getElem?_cons_zero, List.getElem?_cons_succ, List.headD_cons, List.headD_nil, List.tail_cons, List.tail_nil, List.nil_append, List.cons_append, List.append_nil, List.length_cons, List.length_nil, List.not_mem_nil, List.mem_cons, not_false_eq_true, true_and, and_true, if_true, if_false, reduceIte, reduceCtorEq, Bool.not_true, Bool.not_false, Nat.reduceAdd, Nat.reduceLT, Nat.reduceLeDiff, Option.isSome_some, or_false, false_or, Nat.reduceEqDiff, Bool.false_xor, Bool.true_xor, and_self, decide_true, decide_false])
local macro_rules | `(tactic| walk_at "pvs") => `(tactic| simp (config := { decide := false, implicitDefEqProofs := false, maxSteps := 1000000 }) only [PV.wSs_cons, PV.wS_asg, PV.wS_asgT, PV.wS_asgQ, PV.wS_par, PV.wS_apt, PV.wS_unp, PV.wS_retT, PV.wS_aug, PV.wS_sset, PV.wS_fset, PV.wS_exp, PV.wS_ret, PV.wS_retN, PV.wS_ifs, PV.wS_pass, PV.wS_brk, PV.wS_cnt, PV.wS_wall, PV.wS_fors, PV.wS_forO, PV.wS_forE, PV.wFEs_pw, PV.wFEs_fz, PV.wS_oda, PV.wS_frz, PV.wS_odl, PV.wS_odd, PV.wS_ods, PV.wNl_n, PV.wFOs_ow, PV.wFOs_pw, PV.un_nx, PV.unPw_eq, PV.unPwS_pw, PV.wS_whl, PV.wFor_nil, PV.kOf_nx, PV.kOf_rt, List.take_succ_cons, List.take_zero, List.map_cons, List.map_nil, PV.outS_fz, PV.outS_ow, PV.outS_pw, PV.outS_no, PV.intsOf_map, PV.strsOf_map, PV.boolsOf_rep, PV.all_rep, List.length_replicate, List.length_map, PV.wEqo_obj, PV.wEqo_non, PV.wEqo_int, PV.wEqo_str, PV.wEqo_lst, PV.wEqo_tup, PV.wEqo_dct, PV.setF, PV.getF, PV.keyD_inl, PV.keyD_inr, PV.keyOf_int, List.set_cons_zero, List.set_cons_succ, List.set_nil, PV.wC, PV.wNew, PV.wNw_ok, PV.back_nil, PV.back_f, PV.back_n, PV.back_vf, PV.back_vo, PV.backS_ow, PV.backT_ow, PV.backT_pw, PV.notV_f, PV.notV_n, PV.notV_t, PV.notE_f, PV.notE_n, PV.wTv_t, PV.wCT, PV.tv_t, PV.tv_f, PV.mvS_ow, PV.mvS_fz, PV.move_nil, PV.move_f, PV.move_n, PV.move_v, PV.wp_fok, PV.wMut_eq, PV.wE_cst, PV.wE_var, PV.wE_glb, PV.wEs_nil, PV.wEs_cons, PV.wE_op, PV.wE_and, PV.wE_or, PV.wE_not, PV.wE_ite, PV.wE_chn, PV.wE_lst, PV.wE_tup, PV.wE_lstS, PV.wA_nil, PV.wA_cons, PV.wE_dctN, PV.wE_dct, PV.wE_fld, PV.wE_call, PV.wE_prp, PV.wE_mth, PV.wE_new, PV.wE_eqo, PV.wE_lix, PV.wE_lcn, PV.wIsL_lst, PV.wE_eql, PV.wE_sli, PV.wE_mut, PV.wE_odx, PV.wE_odxK, PV.wOd_od, PV.wOx_od, PV.wFd_f, PV.dat_l, PV.dat_k, PV.wE_lc, PV.wE_lc2, PV.wE_dc, PV.wI_seq, PV.wI_rng, PV.wI_rng2, PV.wI_itm, PV.wI_val, PV.wI_zip, PV.wI_enm, PV.wBd_non, PV.wBd_int, PV.wBd_var, PV.wBd_op, PV.wPart_int, PV.wInt_int, PV.wIt_lst, PV.wIt_tup, PV.wIt_dct, PV.wIt_str, PV.wDct_dct, PV.wLst_lst, PV.wEnm_lst, PV.wEnm_tup, PV.wFld_obj, PV.wM_obj, PV.wEqo_obj, PV.wEqo_non, PV.wEqo_int, PV.wEqo_str, PV.wEqo_lst, PV.wEqo_tup, PV.wEqo_dct, PV.wEql_n, PV.wO_some, PV.wO_none, PV.wO_bind, PV.wO_map, PV.wO_ite, PV.wSs_nil, PV.wB_bl, PV.wK_t, PV.wK_f, PV.wV_fz, PV.wV_ow, PV.wV_pw, PV.wV_no, PV.wD_f, PV.wD_n, PV.wD_v, PV.wDv_ow, PV.wDv_fz, PV.wDs_nil, PV.wDs_cons, PV.wRet_f, PV.wRet_n, PV.wRet_v, PV.wRv_ow, PV.wRv_fz, PV.wAug_f, PV.wFz_fz, PV.wFset_obj, PV.slotAt_nil, PV.slotAt_zero, PV.slotAt_succ, PV.set_zero, PV.set_succ, PV.set_nil, PV.rd_f, PV.rd_n, PV.rd_v, PV.rdS_ow, PV.rdS_pw, PV.rdS_fz, PV.rds_nil, PV.rds_cons, PV.ownAt_eq, PV.ownS_ow, PV.ownS_pw, PV.putOwn_eq, PV.putS_ow, PV.putS_pw, PV.setS_eq, PV.npw_fz, PV.npw_ow, PV.npw_no, PV.npw_pw, PV.store_n, PV.store_f, PV.store_nf, PV.store_v, PV.tgt_nm, PV.tgt_tp, PV.tgt_tpl, PV.tgt_tq, PV.setMany_nil, PV.setMany_cons, PV.setQ_nil, PV.setQ_cons, PV.setQ_tup, PV.prep_nil, PV.prep_nt, PV.prep_nf, PV.prep_f, PV.prep_v, PV.storeAll_nil, PV.storeAll_f, PV.storeAll_n, PV.lend_nil, PV.lend_f, PV.lend_n, PV.lend_vt, PV.lend_vf, PV.lend_v0, PV.lendS_ow, PV.lendS_pw, PV.lendS_fz, PV.isLst_lst, PV.opAug_int, PV.oEq_int, PV.oEq_str, PV.oEq_lnil, PV.oEq_bl, PV.oq_add_int, PV.oq_add_str, PV.oq_add_lst, PV.oq_add_tup, PV.oq_sub_int, PV.oq_mul_int, PV.oq_mul_lst, PV.oq_fdv_int, PV.oq_mod_int, PV.oq_pow_int, PV.oq_shl_int, PV.oq_neg_int, PV.oq_lt_int, PV.oq_le_int, PV.oq_gt_int, PV.oq_ge_int, PV.oq_eq, PV.oq_ne, PV.oq_isN, PV.oq_isnN, PV.oq_in, PV.oq_nin, PV.oIn_lst, PV.oIn_tup, PV.oIn_dct, PV.oIn_str, PV.keyOf_int, PV.keyOf_str, PV.oq_idx_lst, PV.oq_idx_tup, PV.oq_idx_dct, PV.oq_idx_str, PV.oq_rev_lst, PV.oq_rev_tup, PV.oq_join_lst, PV.oq_len_lst, PV.oq_len_tup, PV.oq_len_dct, PV.oq_len_str, PV.oq_int_int, PV.oq_int_bl, PV.oq_max2, PV.oq_min2, PV.oq_sum, PV.oq_list_lst, PV.oq_list_tup, PV.oq_list_dct, PV.oq_tuple_lst, PV.oq_tuple_tup, PV.oq_sorted_dct, PV.oq_sorted_lst, PV.oq_all, PV.oq_any, PV.oq_abs, PV.oq_dvm, PV.oq_repr, PV.oq_str_int, PV.oq_str_str, PV.oq_dictP_lst, PV.oq_dictP_dct, PV.oq_isInt, PV.oq_isBool, PV.oq_isStr, PV.oq_isList, PV.oq_isTuple, PV.oq_isDict, PV.oq_isObj, PV.oObj_obj, PV.oTy_non, PV.oTy_int, PV.oTy_bl, PV.oTy_str, PV.oTy_lst, PV.oTy_tup, PV.oTy_dct, PV.dInt_int, PV.dInt_bl, PV.dInt_str, PV.dInt_lst, PV.dInt_non, PV.dBool_int, PV.dBool_bl, PV.dStr_str, PV.dStr_int, PV.dList_lst, PV.dList_tup, PV.dTuple_tup, PV.dTuple_lst, PV.dDict_dct, PV.isNone_non, PV.isNone_int, PV.isNone_lst, PV.isNone_tup, PV.isNone_str, PV.at_0, PV.at_1, PV.at_2, PV.at_3, PV.at_4, PV.ixOf_0, PV.ixOf_1, PV.ixOf_2, PV.setD_lst, PV.setD_dct, PV.mut_append, PV.mut_extend, PV.mut_pop, PV.mut_popAt, PV.mut_clear, PV.spread_f, PV.spread_lst, PV.spread_tup, PV.sliD_lst, PV.sliD_tup, PV.sliD_str, PV.wipeE_nil, PV.wipeE_cons, PV.unwipe_nil, PV.unwipe_cons, PV.wMut_eq, PV.at_m1, List.getElem?_cons_zero, List.getElem?_cons_succ, List.headD_cons, List.headD_nil, List.tail_cons, List.tail_nil, List.nil_append, List.cons_append, List.append_nil, List.length_cons, List.length_nil, List.not_mem_nil, List.mem_cons, not_false_eq_true, true_and, and_true, if_true, if_false, reduceIte, reduceCtorEq, Bool.not_true, Bool.not_false, Nat.reduceAdd, Nat.reduceLT, Nat.reduceLeDiff, Option.isSome_some, or_false, false_or, Nat.reduceEqDiff, Bool.false_xor, Bool.true_xor, and_self, decide_true, decide_false])
local macro_rules | `(tactic| walk_at "pv0") => `(tactic| simp (config := { decide := false, implicitDefEqProofs := false, maxSteps := 1000000 }) only [List.map_cons, List.map_nil, PV.inS_ow, PV.inS_fz, List.length_cons, List.length_nil, List.replicate_succ, List.replicate_zero, Nat.reduceAdd, Nat.reduceSub, List.cons_append, List.nil_append, Nat.zero_add])
local macro_rules | `(tactic| wp_walk using $ts,*) => `(tactic| simp (config := { decide := false, implicitDefEqProofs := false, maxSteps := 1000000 }) only [PV.wSs_cons, PV.wS_asg, PV.wS_asgT, PV.wS_asgQ, PV.wS_par, PV.wS_apt, PV.wS_unp, PV.wS_retT, PV.wS_aug, PV.wS_sset, PV.wS_fset, PV.wS_exp, PV.wS_ret, PV.wS_retN, PV.wS_ifs, PV.wS_pass, PV.wS_brk, PV.wS_cnt, PV.wS_wall, PV.wS_fors, PV.wS_forO, PV.wS_forE, PV.wFEs_pw, PV.wFEs_fz, PV.wS_oda, PV.wS_frz, PV.wS_odl, PV.wS_odd, PV.wS_ods, PV.wNl_n, PV.wFOs_ow, PV.wFOs_pw, PV.un_nx, PV.unPw_eq, PV.unPwS_pw, PV.wS_whl, PV.wFor_nil, PV.kOf_nx, PV.kOf_rt, List.take_succ_cons, List.take_zero, List.map_cons, List.map_nil, PV.outS_fz, PV.outS_ow, PV.outS_pw, PV.outS_no, PV.intsOf_map, PV.strsOf_map, PV.boolsOf_rep, PV.all_rep, List.length_replicate, List.length_map, PV.wEqo_obj, PV.wEqo_non, PV.wEqo_int, PV.wEqo_str, PV.wEqo_lst, PV.wEqo_tup, PV.wEqo_dct, PV.setF, PV.getF, PV.keyD_inl, PV.keyD_inr, PV.keyOf_int, List.set_cons_zero, List.set_cons_succ, List.set_nil, PV.wC, PV.wNew, PV.wNw_ok, PV.back_nil, PV.back_f, PV.back_n, PV.back_vf, PV.back_vo, PV.backS_ow, PV.backT_ow, PV.backT_pw, PV.notV_f, PV.notV_n, PV.notV_t, PV.notE_f, PV.notE_n, PV.wTv_t, PV.wCT, PV.tv_t, PV.tv_f, PV.mvS_ow, PV.mvS_fz, PV.move_nil, PV.move_f, PV.move_n, PV.move_v, PV.wp_fok, PV.wMut_eq, PV.wE_cst, PV.wE_var, PV.wE_glb, PV.wEs_nil, PV.wEs_cons, PV.wE_op, PV.wE_and, PV.wE_or, PV.wE_not, PV.wE_ite, PV.wE_chn, PV.wE_lst, PV.wE_tup, PV.wE_lstS, PV.wA_nil, PV.wA_cons, PV.wE_dctN, PV.wE_dct, PV.wE_fld, PV.wE_call, PV.wE_prp, PV.wE_mth, PV.wE_new, PV.wE_eqo, PV.wE_lix, PV.wE_lcn, PV.wIsL_lst, PV.wE_eql, PV.wE_sli, PV.wE_mut, PV.wE_odx, PV.wE_odxK, PV.wOd_od, PV.wOx_od, PV.wFd_f, PV.dat_l, PV.dat_k, PV.wE_lc, PV.wE_lc2, PV.wE_dc, PV.wI_seq, PV.wI_rng, PV.wI_rng2, PV.wI_itm, PV.wI_val, PV.wI_zip, PV.wI_enm, PV.wBd_non, PV.wBd_int, PV.wBd_var, PV.wBd_op, PV.wPart_int, PV.wInt_int, PV.wIt_lst, PV.wIt_tup, PV.wIt_dct, PV.wIt_str, PV.wDct_dct, PV.wLst_lst, PV.wEnm_lst, PV.wEnm_tup, PV.wFld_obj, PV.wM_obj, PV.wEqo_obj, PV.wEqo_non, PV.wEqo_int, PV.wEqo_str, PV.wEqo_lst, PV.wEqo_tup, PV.wEqo_dct, PV.wEql_n, PV.wO_some, PV.wO_none, PV.wO_bind, PV.wO_map, PV.wO_ite, PV.wSs_nil, PV.wB_bl, PV.wK_t, PV.wK_f, PV.wV_fz, PV.wV_ow, PV.wV_pw, PV.wV_no, PV.wD_f, PV.wD_n, PV.wD_v, PV.wDv_ow, PV.wDv_fz, PV.wDs_nil, PV.wDs_cons, PV.wRet_f, PV.wRet_n, PV.wRet_v, PV.wRv_ow, PV.wRv_fz, PV.wAug_f, PV.wFz_fz, PV.wFset_obj, PV.slotAt_nil, PV.slotAt_zero, PV.slotAt_succ, PV.set_zero, PV.set_succ, PV.set_nil, PV.rd_f, PV.rd_n, PV.rd_v, PV.rdS_ow, PV.rdS_pw, PV.rdS_fz, PV.rds_nil, PV.rds_cons, PV.ownAt_eq, PV.ownS_ow, PV.ownS_pw, PV.putOwn_eq, PV.putS_ow, PV.putS_pw, PV.setS_eq, PV.npw_fz, PV.npw_ow, PV.npw_no, PV.npw_pw, PV.store_n, PV.store_f, PV.store_nf, PV.store_v, PV.tgt_nm, PV.tgt_tp, PV.tgt_tpl, PV.tgt_tq, PV.setMany_nil, PV.setMany_cons, PV.setQ_nil, PV.setQ_cons, PV.setQ_tup, PV.prep_nil, PV.prep_nt, PV.prep_nf, PV.prep_f, PV.prep_v, PV.storeAll_nil, PV.storeAll_f, PV.storeAll_n, PV.lend_nil, PV.lend_f, PV.lend_n, PV.lend_vt, PV.lend_vf, PV.lend_v0, PV.lendS_ow, PV.lendS_pw, PV.lendS_fz, PV.isLst_lst, PV.opAug_int, PV.oEq_int, PV.oEq_str, PV.oEq_lnil, PV.oEq_bl, PV.oq_add_int, PV.oq_add_str, PV.oq_add_lst, PV.oq_add_tup, PV.oq_sub_int, PV.oq_mul_int, PV.oq_mul_lst, PV.oq_fdv_int, PV.oq_mod_int, PV.oq_pow_int, PV.oq_shl_int, PV.oq_neg_int, PV.oq_lt_int, PV.oq_le_int, PV.oq_gt_int, PV.oq_ge_int, PV.oq_eq, PV.oq_ne, PV.oq_isN, PV.oq_isnN, PV.oq_in, PV.oq_nin, PV.oIn_lst, PV.oIn_tup, PV.oIn_dct, PV.oIn_str, PV.keyOf_int, PV.keyOf_str, PV.oq_idx_lst, PV.oq_idx_tup, PV.oq_idx_dct, PV.oq_idx_str, PV.oq_rev_lst, PV.oq_rev_tup, PV.oq_join_lst, PV.oq_len_lst, PV.oq_len_tup, PV.oq_len_dct, PV.oq_len_str, PV.oq_int_int, PV.oq_int_bl, PV.oq_max2, PV.oq_min2, PV.oq_sum, PV.oq_list_lst, PV.oq_list_tup, PV.oq_list_dct, PV.oq_tuple_lst, PV.oq_tuple_tup, PV.oq_sorted_dct, PV.oq_sorted_lst, PV.oq_all, PV.oq_any, PV.oq_abs, PV.oq_dvm, PV.oq_repr, PV.oq_str_int, PV.oq_str_str, PV.oq_dictP_lst, PV.oq_dictP_dct, PV.oq_isInt, PV.oq_isBool, PV.oq_isStr, PV.oq_isList, PV.oq_isTuple, PV.oq_isDict, PV.oq_isObj, PV.oObj_obj, PV.oTy_non, PV.oTy_int, PV.oTy_bl, PV.oTy_str, PV.oTy_lst, PV.oTy_tup, PV.oTy_dct, PV.dInt_int, PV.dInt_bl, PV.dInt_str, PV.dInt_lst, PV.dInt_non, PV.dBool_int, PV.dBool_bl, PV.dStr_str, PV.dStr_int, PV.dList_lst, PV.dList_tup, PV.dTuple_tup, PV.dTuple_lst, PV.dDict_dct, PV.isNone_non, PV.isNone_int, PV.isNone_lst, PV.isNone_tup, PV.isNone_str, PV.at_0, PV.at_1, PV.at_2, PV.at_3, PV.at_4, PV.ixOf_0, PV.ixOf_1, PV.ixOf_2, PV.setD_lst, PV.setD_dct, PV.mut_append, PV.mut_extend, PV.mut_pop, PV.mut_popAt, PV.mut_clear, PV.spread_f, PV.spread_lst, PV.spread_tup, PV.sliD_lst, PV.sliD_tup, PV.sliD_str, PV.wipeE_nil, PV.wipeE_cons, PV.unwipe_nil, PV.unwipe_cons, PV.wMut_eq, PV.at_m1, List.getElem?_cons_zero, List.getElem?_cons_succ, List.headD_cons, List.headD_nil, List.tail_cons, List.tail_nil, List.nil_append, List.cons_append, List.append_nil, List.length_cons, List.length_nil, List.not_mem_nil, List.mem_cons, not_false_eq_true, true_and, and_true, if_true, if_false, reduceIte, reduceCtorEq, Bool.not_true, Bool.not_false, Nat.reduceAdd, Nat.reduceLT, Nat.reduceLeDiff, Option.isSome_some, or_false, false_or, Nat.reduceEqDiff, Bool.false_xor, Bool.true_xor, and_self, decide_true, decide_false, $[$ts:term],*])
local macro_rules | `(tactic| walk_at "pv1") => `(tactic| simp (config := { decide := false, implicitDefEqProofs := false, maxSteps := 1000000 }) only [PV.wS_asg, PV.wS_asgT, PV.wS_asgQ, PV.wS_par, PV.wS_apt, PV.wS_unp, PV.wS_retT, PV.wS_aug, PV.wS_sset, PV.wS_fset, PV.wS_exp, PV.wS_ret, PV.wS_retN, PV.wS_ifs, PV.wS_pass, PV.wS_brk, PV.wS_cnt, PV.wS_wall, PV.wS_fors, PV.wS_forO, PV.wS_forE, PV.wFEs_pw, PV.wFEs_fz, PV.wS_oda, PV.wS_frz, PV.wS_odl, PV.wS_odd, PV.wS_ods, PV.wNl_n, PV.wFOs_ow, PV.wFOs_pw, PV.un_nx, PV.unPw_eq, PV.unPwS_pw, PV.wS_whl, PV.wFor_nil, PV.kOf_nx, PV.kOf_rt, List.take_succ_cons, List.take_zero, List.map_cons, List.map_nil, PV.outS_fz, PV.outS_ow, PV.outS_pw, PV.outS_no, PV.intsOf_map, PV.strsOf_map, PV.boolsOf_rep, PV.all_rep, List.length_replicate, List.length_map, PV.wEqo_obj, PV.wEqo_non, PV.wEqo_int, PV.wEqo_str, PV.wEqo_lst, PV.wEqo_tup, PV.wEqo_dct, PV.setF, PV.getF, PV.keyD_inl, PV.keyD_inr, PV.keyOf_int, List.set_cons_zero, List.set_cons_succ, List.set_nil, PV.wC, PV.wNew, PV.wNw_ok, PV.back_nil, PV.back_f, PV.back_n, PV.back_vf, PV.back_vo, PV.backS_ow, PV.backT_ow, PV.backT_pw, PV.notV_f, PV.notV_n, PV.notV_t, PV.notE_f, PV.notE_n, PV.wTv_t, PV.wCT, PV.tv_t, PV.tv_f, PV.mvS_ow, PV.mvS_fz, PV.move_nil, PV.move_f, PV.move_n, PV.move_v, PV.wp_fok, PV.wMut_eq, PV.wE_cst, PV.wE_var, PV.wE_glb, PV.wEs_nil, PV.wEs_cons, PV.wE_op, PV.wE_and, PV.wE_or, PV.wE_not, PV.wE_ite, PV.wE_chn, PV.wE_lst, PV.wE_tup, PV.wE_lstS, PV.wA_nil, PV.wA_cons, PV.wE_dctN, PV.wE_dct, PV.wE_fld, PV.wE_call, PV.wE_prp, PV.wE_mth, PV.wE_new, PV.wE_eqo, PV.wE_lix, PV.wE_lcn, PV.wIsL_lst, PV.wE_eql, PV.wE_sli, PV.wE_mut, PV.wE_odx, PV.wE_odxK, PV.wOd_od, PV.wOx_od, PV.wFd_f, PV.dat_l, PV.dat_k, PV.wE_lc, PV.wE_lc2, PV.wE_dc, PV.wI_seq, PV.wI_rng, PV.wI_rng2, PV.wI_itm, PV.wI_val, PV.wI_zip, PV.wI_enm, PV.wBd_non, PV.wBd_int, PV.wBd_var, PV.wBd_op, PV.wPart_int, PV.wInt_int, PV.wIt_lst, PV.wIt_tup, PV.wIt_dct, PV.wIt_str, PV.wDct_dct, PV.wLst_lst, PV.wEnm_lst, PV.wEnm_tup, PV.wFld_obj, PV.wM_obj, PV.wEqo_obj, PV.wEqo_non, PV.wEqo_int, PV.wEqo_str, PV.wEqo_lst, PV.wEqo_tup, PV.wEqo_dct, PV.wEql_n, PV.wO_some, PV.wO_none, PV.wO_bind, PV.wO_map, PV.wO_ite, PV.wSs_nil, PV.wB_bl, PV.wK_t, PV.wK_f, PV.wV_fz, PV.wV_ow, PV.wV_pw, PV.wV_no, PV.wD_f, PV.wD_n, PV.wD_v, PV.wDv_ow, PV.wDv_fz, PV.wDs_nil, PV.wDs_cons, PV.wRet_f, PV.wRet_n, PV.wRet_v, PV.wRv_ow, PV.wRv_fz, PV.wAug_f, PV.wFz_fz, PV.wFset_obj, PV.slotAt_nil, PV.slotAt_zero, PV.slotAt_succ, PV.set_zero, PV.set_succ, PV.set_nil, PV.rd_f, PV.rd_n, PV.rd_v, PV.rdS_ow, PV.rdS_pw, PV.rdS_fz, PV.rds_nil, PV.rds_cons, PV.ownAt_eq, PV.ownS_ow, PV.ownS_pw, PV.putOwn_eq, PV.putS_ow, PV.putS_pw, PV.setS_eq, PV.npw_fz, PV.npw_ow, PV.npw_no, PV.npw_pw, PV.store_n, PV.store_f, PV.store_nf, PV.store_v, PV.tgt_nm, PV.tgt_tp, PV.tgt_tpl, PV.tgt_tq, PV.setMany_nil, PV.setMany_cons, PV.setQ_nil, PV.setQ_cons, PV.setQ_tup, PV.prep_nil, PV.prep_nt, PV.prep_nf, PV.prep_f, PV.prep_v, PV.storeAll_nil, PV.storeAll_f, PV.storeAll_n, PV.lend_nil, PV.lend_f, PV.lend_n, PV.lend_vt, PV.lend_vf, PV.lend_v0, PV.lendS_ow, PV.lendS_pw, PV.lendS_fz, PV.isLst_lst, PV.opAug_int, PV.oEq_int, PV.oEq_str, PV.oEq_lnil, PV.oEq_bl, PV.oq_add_int, PV.oq_add_str, PV.oq_add_lst, PV.oq_add_tup, PV.oq_sub_int, PV.oq_mul_int, PV.oq_mul_lst, PV.oq_fdv_int, PV.oq_mod_int, PV.oq_pow_int, PV.oq_shl_int, PV.oq_neg_int, PV.oq_lt_int, PV.oq_le_int, PV.oq_gt_int, PV.oq_ge_int, PV.oq_eq, PV.oq_ne, PV.oq_isN, PV.oq_isnN, PV.oq_in, PV.oq_nin, PV.oIn_lst, PV.oIn_tup, PV.oIn_dct, PV.oIn_str, PV.keyOf_int, PV.keyOf_str, PV.oq_idx_lst, PV.oq_idx_tup, PV.oq_idx_dct, PV.oq_idx_str, PV.oq_rev_lst, PV.oq_rev_tup, PV.oq_join_lst, PV.oq_len_lst, PV.oq_len_tup, PV.oq_len_dct, PV.oq_len_str, PV.oq_int_int, PV.oq_int_bl, PV.oq_max2, PV.oq_min2, PV.oq_sum, PV.oq_list_lst, PV.oq_list_tup, PV.oq_list_dct, PV.oq_tuple_lst, PV.oq_tuple_tup, PV.oq_sorted_dct, PV.oq_sorted_lst, PV.oq_all, PV.oq_any, PV.oq_abs, PV.oq_dvm, PV.oq_repr, PV.oq_str_int, PV.oq_str_str, PV.oq_dictP_lst, PV.oq_dictP_dct, PV.oq_isInt, PV.oq_isBool, PV.oq_isStr, PV.oq_isList, PV.oq_isTuple, PV.oq_isDict, PV.oq_isObj, PV.oObj_obj, PV.oTy_non, PV.oTy_int, PV.oTy_bl, PV.oTy_str, PV.oTy_lst, PV.oTy_tup, PV.oTy_dct, PV.dInt_int, PV.dInt_bl, PV.dInt_str, PV.dInt_lst, PV.dInt_non, PV.dBool_int, PV.dBool_bl, PV.dStr_str, PV.dStr_int, PV.dList_lst, PV.dList_tup, PV.dTuple_tup, PV.dTuple_lst, PV.dDict_dct, PV.isNone_non, PV.isNone_int, PV.isNone_lst, PV.isNone_tup, PV.isNone_str, PV.at_0, PV.at_1, PV.at_2, PV.at_3, PV.at_4, PV.ixOf_0, PV.ixOf_1, PV.ixOf_2, PV.setD_lst, PV.setD_dct, PV.mut_append, PV.mut_extend, PV.mut_pop, PV.mut_popAt, PV.mut_clear, PV.spread_f, PV.spread_lst, PV.spread_tup, PV.sliD_lst, PV.sliD_tup, PV.sliD_str, PV.wipeE_nil, PV.wipeE_cons, PV.unwipe_nil, PV.unwipe_cons, PV.wMut_eq, PV.at_m1, List.getElem?_cons_zero, List.getElem?_cons_succ, List.headD_cons, List.headD_nil, List.tail_cons, List.tail_nil, List.nil_append, List.cons_append, List.append_nil, List.length_cons, List.length_nil, List.not_mem_nil, List.mem_cons, not_false_eq_true, true_and, and_true, if_true, if_false, reduceIte, reduceCtorEq, Bool.not_true, Bool.not_false, Nat.reduceAdd, Nat.reduceLT, Nat.reduceLeDiff, Option.isSome_some, or_false, false_or, Nat.reduceEqDiff, Bool.false_xor, Bool.true_xor, and_self, decide_true, decide_false])
local macro_rules | `(tactic| wp_walk using 1, $ts,*) => `(tactic| simp (config := { decide := false, implicitDefEqProofs := false, maxSteps := 1000000 }) only [PV.wS_asg, PV.wS_asgT, PV.wS_asgQ, PV.wS_par, PV.wS_apt, PV.wS_unp, PV.wS_retT, PV.wS_aug, PV.wS_sset, PV.wS_fset, PV.wS_exp, PV.wS_ret, PV.wS_retN, PV.wS_ifs, PV.wS_pass, PV.wS_brk, PV.wS_cnt, PV.wS_wall, PV.wS_fors, PV.wS_forO, PV.wS_forE, PV.wFEs_pw, PV.wFEs_fz, PV.wS_oda, PV.wS_frz, PV.wS_odl, PV.wS_odd, PV.wS_ods, PV.wNl_n, PV.wFOs_ow, PV.wFOs_pw, PV.un_nx, PV.unPw_eq, PV.unPwS_pw, PV.wS_whl, PV.wFor_nil, PV.kOf_nx, PV.kOf_rt, List.take_succ_cons, List.take_zero, List.map_cons, List.map_nil, PV.outS_fz, PV.outS_ow, PV.outS_pw, PV.outS_no, PV.intsOf_map, PV.strsOf_map, PV.boolsOf_rep, PV.all_rep, List.length_replicate, List.length_map, PV.wEqo_obj, PV.wEqo_non, PV.wEqo_int, PV.wEqo_str, PV.wEqo_lst, PV.wEqo_tup, PV.wEqo_dct, PV.setF, PV.getF, PV.keyD_inl, PV.keyD_inr, PV.keyOf_int, List.set_cons_zero, List.set_cons_succ, List.set_nil, PV.wC, PV.wNew, PV.wNw_ok, PV.back_nil, PV.back_f, PV.back_n, PV.back_vf, PV.back_vo, PV.backS_ow, PV.backT_ow, PV.backT_pw, PV.notV_f, PV.notV_n, PV.notV_t, PV.notE_f, PV.notE_n, PV.wTv_t, PV.wCT, PV.tv_t, PV.tv_f, PV.mvS_ow, PV.mvS_fz, PV.move_nil, PV.move_f, PV.move_n, PV.move_v, PV.wp_fok, PV.wMut_eq, PV.wE_cst, PV.wE_var, PV.wE_glb, PV.wEs_nil, PV.wEs_cons, PV.wE_op, PV.wE_and, PV.wE_or, PV.wE_not, PV.wE_ite, PV.wE_chn, PV.wE_lst, PV.wE_tup, PV.wE_lstS, PV.wA_nil, PV.wA_cons, PV.wE_dctN, PV.wE_dct, PV.wE_fld, PV.wE_call, PV.wE_prp, PV.wE_mth, PV.wE_new, PV.wE_eqo, PV.wE_lix, PV.wE_lcn, PV.wIsL_lst, PV.wE_eql, PV.wE_sli, PV.wE_mut, PV.wE_odx, PV.wE_odxK, PV.wOd_od, PV.wOx_od, PV.wFd_f, PV.dat_l, PV.dat_k, PV.wE_lc, PV.wE_lc2, PV.wE_dc, PV.wI_seq, PV.wI_rng, PV.wI_rng2, PV.wI_itm, PV.wI_val, PV.wI_zip, PV.wI_enm, PV.wBd_non, PV.wBd_int, PV.wBd_var, PV.wBd_op, PV.wPart_int, PV.wInt_int, PV.wIt_lst, PV.wIt_tup, PV.wIt_dct, PV.wIt_str, PV.wDct_dct, PV.wLst_lst, PV.wEnm_lst, PV.wEnm_tup, PV.wFld_obj, PV.wM_obj, PV.wEqo_obj, PV.wEqo_non, PV.wEqo_int, PV.wEqo_str, PV.wEqo_lst, PV.wEqo_tup, PV.wEqo_dct, PV.wEql_n, PV.wO_some, PV.wO_none, PV.wO_bind, PV.wO_map, PV.wO_ite, PV.wSs_nil, PV.wB_bl, PV.wK_t, PV.wK_f, PV.wV_fz, PV.wV_ow, PV.wV_pw, PV.wV_no, PV.wD_f, PV.wD_n, PV.wD_v, PV.wDv_ow, PV.wDv_fz, PV.wDs_nil, PV.wDs_cons, PV.wRet_f, PV.wRet_n, PV.wRet_v, PV.wRv_ow, PV.wRv_fz, PV.wAug_f, PV.wFz_fz, PV.wFset_obj, PV.slotAt_nil, PV.slotAt_zero, PV.slotAt_succ, PV.set_zero, PV.set_succ, PV.set_nil, PV.rd_f, PV.rd_n, PV.rd_v, PV.rdS_ow, PV.rdS_pw, PV.rdS_fz, PV.rds_nil, PV.rds_cons, PV.ownAt_eq, PV.ownS_ow, PV.ownS_pw, PV.putOwn_eq, PV.putS_ow, PV.putS_pw, PV.setS_eq, PV.npw_fz, PV.npw_ow, PV.npw_no, PV.npw_pw, PV.store_n, PV.store_f, PV.store_nf, PV.store_v, PV.tgt_nm, PV.tgt_tp, PV.tgt_tpl, PV.tgt_tq, PV.setMany_nil, PV.setMany_cons, PV.setQ_nil, PV.setQ_cons, PV.setQ_tup, PV.prep_nil, PV.prep_nt, PV.prep_nf, PV.prep_f, PV.prep_v, PV.storeAll_nil, PV.storeAll_f, PV.storeAll_n, PV.lend_nil, PV.lend_f, PV.lend_n, PV.lend_vt, PV.lend_vf, PV.lend_v0, PV.lendS_ow, PV.lendS_pw, PV.lendS_fz, PV.isLst_lst, PV.opAug_int, PV.oEq_int, PV.oEq_str, PV.oEq_lnil, PV.oEq_bl, PV.oq_add_int, PV.oq_add_str, PV.oq_add_lst, PV.oq_add_tup, PV.oq_sub_int, PV.oq_mul_int, PV.oq_mul_lst, PV.oq_fdv_int, PV.oq_mod_int, PV.oq_pow_int, PV.oq_shl_int, PV.oq_neg_int, PV.oq_lt_int, PV.oq_le_int, PV.oq_gt_int, PV.oq_ge_int, PV.oq_eq, PV.oq_ne, PV.oq_isN, PV.oq_isnN, PV.oq_in, PV.oq_nin, PV.oIn_lst, PV.oIn_tup, PV.oIn_dct, PV.oIn_str, PV.keyOf_int, PV.keyOf_str, PV.oq_idx_lst, PV.oq_idx_tup, PV.oq_idx_dct, PV.oq_idx_str, PV.oq_rev_lst, PV.oq_rev_tup, PV.oq_join_lst, PV.oq_len_lst, PV.oq_len_tup, PV.oq_len_dct, PV.oq_len_str, PV.oq_int_int, PV.oq_int_bl, PV.oq_max2, PV.oq_min2, PV.oq_sum, PV.oq_list_lst, PV.oq_list_tup, PV.oq_list_dct, PV.oq_tuple_lst, PV.oq_tuple_tup, PV.oq_sorted_dct, PV.oq_sorted_lst, PV.oq_all, PV.oq_any, PV.oq_abs, PV.oq_dvm, PV.oq_repr, PV.oq_str_int, PV.oq_str_str, PV.oq_dictP_lst, PV.oq_dictP_dct, PV.oq_isInt, PV.oq_isBool, PV.oq_isStr, PV.oq_isList, PV.oq_isTuple, PV.oq_isDict, PV.oq_isObj, PV.oObj_obj, PV.oTy_non, PV.oTy_int, PV.oTy_bl, PV.oTy_str, PV.oTy_lst, PV.oTy_tup, PV.oTy_dct, PV.dInt_int, PV.dInt_bl, PV.dInt_str, PV.dInt_lst, PV.dInt_non, PV.dBool_int, PV.dBool_bl, PV.dStr_str, PV.dStr_int, PV.dList_lst, PV.dList_tup, PV.dTuple_tup, PV.dTuple_lst, PV.dDict_dct, PV.isNone_non, PV.isNone_int, PV.isNone_lst, PV.isNone_tup, PV.isNone_str, PV.at_0, PV.at_1, PV.at_2, PV.at_3, PV.at_4, PV.ixOf_0, PV.ixOf_1, PV.ixOf_2, PV.setD_lst, PV.setD_dct, PV.mut_append, PV.mut_extend, PV.mut_pop, PV.mut_popAt, PV.mut_clear, PV.spread_f, PV.spread_lst, PV.spread_tup, PV.sliD_lst, PV.sliD_tup, PV.sliD_str, PV.wipeE_nil, PV.wipeE_cons, PV.unwipe_nil, PV.unwipe_cons, PV.wMut_eq, PV.at_m1, List.getElem?_cons_zero, List.getElem?_cons_succ, List.headD_cons, List.headD_nil, List.tail_cons, List.tail_nil, List.nil_append, List.cons_append, List.append_nil, List.length_cons, List.length_nil, List.not_mem_nil, List.mem_cons, not_false_eq_true, true_and, and_true, if_true, if_false, reduceIte, reduceCtorEq, Bool.not_true, Bool.not_false, Nat.reduceAdd, Nat.reduceLT, Nat.reduceLeDiff, Option.isSome_some, or_false, false_or, Nat.reduceEqDiff, Bool.false_xor, Bool.true_xor, and_self, decide_true, decide_false, $[$ts:term],*])

set_option Elab.async false
set_option linter.all false
set_option maxRecDepth 100000
set_option maxHeartbeats 4000000
namespace LN
open PySem
open PV
open L2 (Key)
/-- what of the tables is asked -/
structure OkI (P : Pg) : Prop extends Has P where
  g0 : P.gl 0 = .int 1000000000000000000000000000000
  g1 : P.gl 1 = .int 5
  g2 : P.gl 2 = .int 3
  g3 : P.gl 3 = .int 10
  g4 : P.gl 4 = .int 6
  m0 : P.mt 0 0 = some 6
  m2 : P.mt 0 2 = some 7
  m3 : P.mt 0 3 = some 8
structure Ok (P : Pg) : Prop extends OkI P where
  f0 : P.fl 0 0 = true
  f1 : P.fl 0 1 = true
theorem OkI.toOkI {P : Pg} (h : OkI P) : OkI P := h
structure OkN (P : Pg) : Prop extends Ok P where
  Line_names : P.fd 9 = some (.body 1 1 c_Line_names)
  m4 : P.mt 0 4 = some 9
structure OkS (P : Pg) : Prop extends Ok P where
  Line_stations : P.fd 10 = some (.body 1 1 c_Line_stations)
  m5 : P.mt 0 5 = some 10
abbrev tI (xs : List Int) : D := .tup (xs.map .int)
abbrev lI (xs : List Int) : D := .lst (xs.map .int)
abbrev Kinds := List (Str × List Int)
abbrev kL (ks : Kinds) : List (Key × D) := ks.map fun p => (.inr p.1, lI p.2)
abbrev kT (ks : Kinds) : List (Key × D) := ks.map fun p => (.inr p.1, tI p.2)
abbrev lineD (ps : List Int) (ks : Kinds) : D := .obj 0 [(0, tI ps), (1, .dct (kT ks))]
abbrev MAX : Int := 1000000000000000000000000000000
structure OkP (ps : List Int) : Prop where
  len : ps.length < 5
  rng : ∀ x ∈ ps, 0 ≤ x ∧ x ≤ 3
  sum : (ps.length : Int) + 1 + ps.sum ≤ 10
structure OkName (s : Str) : Prop where
  lo : 1 ≤ s.length
  hi : s.length ≤ 8
  az : ∀ c ∈ s.cps.toList, c ∈ ("abcdefghijklmnopqrstuvwxyz" : Str).cps.toList
structure OkK (ks : Kinds) (n : Nat) : Prop where
  lo : 1 ≤ ks.length
  hi : ks.length ≤ 6
  nd : (ks.map (·.1)).Nodup
  nm : ∀ p ∈ ks, OkName p.1
  tl : ∀ p ∈ ks, p.2.length = n
  tr : ∀ p ∈ ks, ∀ t ∈ p.2, 0 ≤ t ∧ t ≤ MAX
/-- == of lines -/
def eqLine (ps qs : List Int) (ks ls : Kinds) : Bool := decide (ps = qs) && sameD ks ls
section
variable {P : Pg} (h : OkI P) {n : Nat}
include h
theorem is_int {i : Int} : runF P (n + 1) 0 [.fz (.int i)] = .ok (.f (.bl true)) [.fz (.int i)] := by
  refine FOut.get (wp_runF h.is_int rfl ?_)
  walk_at "pv0"
  walk_at "pvs"
theorem is_whole {i lo hi : Int} (h1 : lo ≤ i) (h2 : i ≤ hi) : runF P (n + 2) 1 [.fz (.int i), .fz (.int lo), .fz (.int hi)] = .ok (.f (.bl true)) [.fz (.int i), .fz (.int lo), .fz (.int hi)] := by
  refine FOut.get (wp_runF h.is_whole rfl ?_)
  walk_at "pv0"
  wp_walk using is_int h
  simp [wK, h1, h2]
theorem is_name {x : Str} (hx : OkName x) : runF P (n + 1) 3 [.fz (.str x)] = .ok (.f (.bl true)) [.fz (.str x)] := by
  refine FOut.get (wp_runF h.is_name rfl ?_)
  walk_at "pv0"
  walk_at "pvs"
  have a1 : (1 : Int) ≤ x.length := by have := hx.lo; omega
  have a2 : (x.length : Int) ≤ 8 := by have := hx.hi; omega
  have a3 : x.length ≤ LIM := by have := hx.hi; simp only [LIM]; omega
  simp only [a1, a2, a3, decide_true]
  walk_at "pvs"
  refine wG_all (fun d hd => ?_) ?_
  · obtain ⟨c, hc, rfl⟩ := List.mem_map.1 hd
    walk_at "pvs"
    have := hx.az c hc
    refine ⟨rfl, ?_⟩
    simp only [D.bl.injEq, decide_eq_true_eq]
    exact this
  · walk_at "pvs"
    simp only [Array.length_toList]
    exact a3
end
section
variable {P : Pg} (h : Ok P) {n : Nat}
include h
end
end LN

set_option Elab.async false
set_option linter.all false
set_option maxRecDepth 100000
set_option maxHeartbeats 4000000
namespace RL
open PySem
open PV
open L2 (Key)
/-- a reel: three ints, at most B turns taken -/
def Reel (B : Nat) (d : D) : Prop := ∃ a b c : Int, d = .lst [.int a, .int b, .int c] ∧ 0 ≤ a ∧ 0 ≤ b ∧ b < 10 ^ 40 ∧ 0 ≤ c ∧ c ≤ B
theorem Reel.mono {B C : Nat} {d : D} (h : Reel B d) (l : B ≤ C) : Reel C d := by
  obtain ⟨a, b, c, e, h1, h2, h3, h4, h5⟩ := h
  exact ⟨a, b, c, e, h1, h2, h3, h4, by omega⟩
/-- the budget of turns -/
abbrev LIMB : Nat := 1000000000000
theorem log2_lt {i : Int} {p : Nat} (hp : 0 < p) (h : i.natAbs < 2 ^ p) : i.natAbs.log2 < p := by
  by_cases z : i.natAbs = 0
  · rw [z]; simpa using hp
  · exact (Nat.log2_lt z).2 h
theorem mulOk_of {i j : Int} (p q : Nat) (hi : i.natAbs < 2 ^ p) (hj : j.natAbs < 2 ^ q) (hp : 0 < p) (hq : 0 < q) (h : p + q ≤ 1000000) : mulOk i j = true := by
  have h1 := log2_lt hp hi
  have h2 := log2_lt hq hj
  unfold mulOk
  exact decide_eq_true (by omega)
theorem fdvOk {m : Int} (h : m ≤ 10 ^ 60) (h0 : 0 < m) : m.natAbs.log2 < 9000 := by
  have : m.natAbs.log2 < 200 := log2_lt (by decide) (by omega)
  omega
/-- the defs of the reels -/
structure Has' (P : Pg) : Prop where
  law_wound : P.fd 16 = some (.body 2 3 c_law_wound)
  law_spin : P.fd 17 = some (.body 2 4 c_law_spin)
  law_mixed : P.fd 18 = some (.body 2 4 c_law_mixed)
  law_some_room : P.fd 19 = some (.body 2 4 c_law_some_room)
section
variable {P : Pg} (h : Has' P) {n : Nat}
include h
end
end RL

set_option Elab.async false
set_option linter.all false
set_option maxRecDepth 100000
set_option maxHeartbeats 4000000
/-! Cm: what many laws share: some kinds drawn, small lemmas. -/
namespace CM
open PySem
open PV LN RL
open L2 (Key)
abbrev BASE : List Str := ["a", "b", "x", "places", "abcdefgh"]
/-- the defs of some kinds -/
structure HasK (P : Pg) : Prop extends RL.Has' P where
  law_some_kinds : P.fd 20 = some (.body 3 6 c_law_some_kinds)
section
variable {P : Pg} (h : HasK P) {n : Nat}
include h
/-- kinds as they are drawn -/
structure Drawn (ks : Kinds) (m : Nat) (w : Int) : Prop where
  lo : 1 ≤ ks.length
  hi : ks.length ≤ 3
  nd : (ks.map (·.1)).Nodup
  nb : ∀ p ∈ ks, p.1 ∈ BASE
  tl : ∀ p ∈ ks, p.2.length = m
  tr : ∀ p ∈ ks, ∀ t ∈ p.2, 0 ≤ t ∧ (t < 6 ∨ t < w)
end
end CM

set_option Elab.async false
set_option linter.all false
set_option maxRecDepth 100000
set_option maxHeartbeats 1000000
/-! MxA: numbers or nothing, with the greatest for plus and plus for times; rows, tables, what they make of vectors. Plain. -/
namespace MX
abbrev O := Option Int
def mx : O → O → O
  | none, b => b
  | some a, none => some a
  | some a, some b => some (max a b)
def pl : O → O → O
  | some a, some b => some (a + b)
  | _, _ => none
/-- at most; nothing is at most all -/
def le : O → O → Prop
  | none, _ => True
  | some _, none => False
  | some a, some b => a ≤ b
instance : DecidableRel le := fun a b => by cases a <;> cases b <;> (unfold le; infer_instance)
theorem mx_none {a : O} : mx a none = a := by cases a <;> rfl
theorem none_mx {a : O} : mx none a = a := rfl
theorem mx_comm (a b : O) : mx a b = mx b a := by
  cases a <;> cases b <;> simp [mx] <;> omega
theorem mx_assoc (a b c : O) : mx (mx a b) c = mx a (mx b c) := by
  cases a <;> cases b <;> cases c <;> simp [mx] <;> omega
theorem pl_assoc (a b c : O) : pl (pl a b) c = pl a (pl b c) := by
  cases a <;> cases b <;> cases c <;> simp [pl] <;> omega
theorem pl_mx (a b c : O) : pl a (mx b c) = mx (pl a b) (pl a c) := by
  cases a <;> cases b <;> cases c <;> simp [mx, pl] <;> omega
theorem mx_pl (a b c : O) : pl (mx a b) c = mx (pl a c) (pl b c) := by
  cases a <;> cases b <;> cases c <;> simp [mx, pl] <;> omega
theorem pl_none {a : O} : pl a none = none := by cases a <;> rfl
theorem none_pl {a : O} : pl none a = none := rfl
theorem pl_zero {a : O} : pl a (some 0) = a := by cases a <;> simp [pl]
theorem zero_pl {a : O} : pl (some 0) a = a := by cases a <;> simp [pl]
theorem le_trans {a b c : O} (h : le a b) (k : le b c) : le a c := by
  cases a <;> cases b <;> cases c <;> simp_all [le] <;> omega
theorem le_none {b : O} : le none b := True.intro
theorem le_mx_left (a b : O) : le a (mx a b) := by
  cases a <;> cases b <;> simp [le, mx] <;> omega
theorem le_mx_right (a b : O) : le b (mx a b) := by
  cases a <;> cases b <;> simp [le, mx] <;> omega
theorem mx_le {a b c : O} (h : le a c) (k : le b c) : le (mx a b) c := by
  cases a <;> cases b <;> cases c <;> simp_all [le, mx] <;> omega
/-- the greatest sum of two rows, number by number -/
def dot : List O → List O → O
  | a :: r, b :: s => mx (pl a b) (dot r s)
  | _, _ => none
theorem dot_nil {v : List O} : dot [] v = none := by cases v <;> rfl
theorem dot_nil' {v : List O} : dot v [] = none := by cases v <;> rfl
theorem dot_rep {n : Nat} {v : List O} : dot (List.replicate n none) v = none := by
  induction n generalizing v with
  | zero => exact dot_nil
  | succ n ih =>
    cases v with
    | nil => exact dot_nil'
    | cons b s => simp [List.replicate_succ, dot, ih, none_pl, mx]
theorem dot_rep' {n : Nat} {v : List O} : dot v (List.replicate n none) = none := by
  induction n generalizing v with
  | zero => exact dot_nil'
  | succ n ih =>
    cases v with
    | nil => exact dot_nil
    | cons b s => simp [List.replicate_succ, dot, ih, pl_none, mx]
theorem dot_mx {x y v : List O} (h : x.length = y.length) : dot (List.zipWith mx x y) v = mx (dot x v) (dot y v) := by
  induction x generalizing y v with
  | nil => cases y with
    | nil => simp [dot_nil, mx]
    | cons b s => cases h
  | cons a r ih => cases y with
    | nil => cases h
    | cons b s =>
      cases v with
      | nil => simp [dot_nil', mx]
      | cons c v =>
        simp only [List.zipWith_cons_cons, dot, ih (by simpa using h), mx_pl]
        rw [mx_assoc, mx_assoc, ← mx_assoc (pl b c), mx_comm (pl b c), mx_assoc]
theorem dot_pl {a : O} {x v : List O} : dot (x.map (pl a)) v = pl a (dot x v) := by
  induction x generalizing v with
  | nil => simp [dot_nil, pl_none]
  | cons b r ih =>
    cases v with
    | nil => simp [dot_nil', pl_none]
    | cons c v => simp only [List.map_cons, dot, ih, pl_mx, pl_assoc]
/-- the first place alone -/
def e0 (n : Nat) : List O := some 0 :: List.replicate n none
theorem row_ext : ∀ {n : Nat} {x y : List O}, x.length = n → y.length = n → (∀ v : List O, v.length = n → dot x v = dot y v) → x = y
  | 0, x, y, h1, h2, _ => by rw [List.length_eq_zero_iff.1 h1, List.length_eq_zero_iff.1 h2]
  | n + 1, [], _, h1, _, _ => by cases h1
  | n + 1, _ :: _, [], _, h2, _ => by cases h2
  | n + 1, a :: r, b :: s, h1, h2, h => by
    have k := h (e0 n) (by simp [e0])
    simp only [e0, dot, dot_rep', pl_zero, mx_none] at k
    rw [k, row_ext (n := n) (x := r) (y := s) (by simpa using h1) (by simpa using h2) fun v hv => by
      have q := h (none :: v) (by simpa using hv)
      simpa only [dot, pl_none, none_mx] using q]
abbrev Tab := List (List O)
/-- what a table makes of a vector -/
def app (T : Tab) (v : List O) : List O := T.map (dot · v)
theorem app_length {T : Tab} {v : List O} : (app T v).length = T.length := by simp [app]
/-- a row behind a table of n columns -/
def rowP (n : Nat) : List O → Tab → List O
  | a :: r, b :: B => List.zipWith mx (b.map (pl a)) (rowP n r B)
  | _, _ => List.replicate n none
theorem rowP_length {n : Nat} : ∀ {r : List O} {B : Tab}, (∀ b ∈ B, b.length = n) → (rowP n r B).length = n
  | [], B, _ => by cases B <;> simp [rowP]
  | _ :: _, [], _ => by simp [rowP]
  | a :: r, b :: B, h => by
    simp only [rowP, List.length_zipWith, List.length_map, rowP_length (r := r) (B := B) fun b hb => h b (List.mem_cons_of_mem _ hb), h b List.mem_cons_self]
    omega
theorem dot_rowP {n : Nat} {v : List O} : ∀ {r : List O} {B : Tab}, (∀ b ∈ B, b.length = n) → dot (rowP n r B) v = dot r (app B v)
  | [], B, _ => by cases B <;> simp [rowP, dot_rep, dot_nil]
  | _ :: _, [], _ => by simp [rowP, dot_rep, app, dot]
  | a :: r, b :: B, h => by
    have hB : ∀ b ∈ B, b.length = n := fun b hb => h b (List.mem_cons_of_mem _ hb)
    simp only [rowP]
    rw [dot_mx (by rw [List.length_map, rowP_length hB, h b List.mem_cons_self]), dot_pl, dot_rowP hB]
    rfl
/-- a table with n columns and n rows -/
structure Sq (n : Nat) (T : Tab) : Prop where
  len : T.length = n
  row : ∀ r ∈ T, r.length = n
theorem tab_ext {n : Nat} : ∀ {A B : Tab}, A.length = B.length → (∀ r ∈ A, r.length = n) → (∀ r ∈ B, r.length = n) → (∀ v : List O, v.length = n → app A v = app B v) → A = B
  | [], [], _, _, _, _ => rfl
  | [], _ :: _, h, _, _, _ => by cases h
  | _ :: _, [], h, _, _, _ => by cases h
  | a :: A, b :: B, h, ha, hb, k => by
    rw [row_ext (ha a List.mem_cons_self) (hb b List.mem_cons_self) fun v hv => by
        have := k v hv
        simp only [app, List.map_cons, List.cons.injEq] at this
        exact this.1,
      tab_ext (n := n) (A := A) (B := B) (by simpa using h) (fun r hr => ha r (List.mem_cons_of_mem _ hr)) (fun r hr => hb r (List.mem_cons_of_mem _ hr)) fun v hv => by
        have := k v hv
        simp only [app, List.map_cons, List.cons.injEq] at this
        exact this.2]
theorem Sq.ext {n : Nat} {A B : Tab} (ha : Sq n A) (hb : Sq n B) (k : ∀ v : List O, v.length = n → app A v = app B v) : A = B :=
  tab_ext (by rw [ha.len, hb.len]) ha.row hb.row k
/-- A behind B -/
def mul (n : Nat) (A B : Tab) : Tab := A.map fun r => rowP n r B
theorem Sq.mul {n : Nat} {A B : Tab} (ha : Sq n A) (hb : Sq n B) : Sq n (mul n A B) :=
  ⟨by simp [MX.mul, ha.len], fun r hr => by
    obtain ⟨q, _, rfl⟩ := List.mem_map.1 hr
    exact rowP_length hb.row⟩
theorem app_mul {n : Nat} {A B : Tab} (hb : ∀ b ∈ B, b.length = n) {v : List O} : app (mul n A B) v = app A (app B v) := by
  unfold app mul
  rw [List.map_map]
  exact List.map_congr_left fun r _ => dot_rowP hb
/-- nothing but a 0 at place i -/
def unitR (n i : Nat) : List O := (List.range n).map fun j => if i = j then some 0 else none
def unit (n : Nat) : Tab := (List.range n).map (unitR n)
theorem cons_congr {α : Type} {a b : α} {l m : List α} (h : a = b) (k : l = m) : a :: l = b :: m := by rw [h, k]
theorem unitR_zero {n : Nat} : unitR (n + 1) 0 = e0 n := by
  unfold unitR e0
  rw [List.range_succ_eq_map, List.map_cons, List.map_map]
  refine cons_congr (by simp) ?_
  rw [List.eq_replicate_iff]
  constructor
  · simp
  · intro b hb
    obtain ⟨j, _, rfl⟩ := List.mem_map.1 hb
    simp
theorem unitR_succ {n i : Nat} : unitR (n + 1) (i + 1) = none :: unitR n i := by
  unfold unitR
  rw [List.range_succ_eq_map, List.map_cons, List.map_map]
  refine cons_congr (by simp) ?_
  exact List.map_congr_left fun j _ => by simp
theorem dot_unitR : ∀ {n i : Nat} {v : List O}, v.length = n → i < n → dot (unitR n i) v = v.getD i none
  | n + 1, 0, b :: v, h, _ => by simp [unitR_zero, e0, dot, dot_rep, zero_pl, mx_none]
  | n + 1, i + 1, b :: v, h, hi => by
    simp only [unitR_succ, dot, none_pl, none_mx]
    rw [dot_unitR (n := n) (by simpa using h) (by omega)]
    simp
  | n + 1, _, [], h, _ => by cases h
theorem app_unit {n : Nat} {v : List O} (h : v.length = n) : app (unit n) v = v := by
  unfold app unit
  rw [List.map_map]
  apply List.ext_getElem
  · simp [h]
  · intro i h1 h2
    simp only [List.getElem_map, List.getElem_range, Function.comp]
    rw [dot_unitR h (by omega)]
    simp [List.getElem?_eq_getElem h2]
theorem sq_unit {n : Nat} : Sq n (unit n) := ⟨by simp [unit], fun r hr => by
  obtain ⟨i, _, rfl⟩ := List.mem_map.1 hr
  simp [unitR]⟩
/-! ### so many times -/
def itr {α : Type} (f : α → α) : Nat → α → α
  | 0, x => x
  | n + 1, x => itr f n (f x)
theorem itr_inv {α : Type} {f : α → α} {p : α → Prop} (h : ∀ x, p x → p (f x)) (n : Nat) (x : α) (hx : p x) : p (itr f n x) := by
  induction n generalizing x with
  | zero => exact hx
  | succ n ih => exact ih (f x) (h x hx)
/-- a table k times -/
def pow (n : Nat) (T : Tab) (k : Nat) : Tab := itr (mul n T) k (unit n)
/-- rows that have a number -/
def Tot (n : Nat) (T : Tab) : Prop := ∀ v : List Int, v.length = n → ∃ w : List Int, app T (v.map some) = w.map some
theorem Tot.mul {n : Nat} {A B : Tab} (hb : Sq n B) (ta : Tot n A) (tb : Tot n B) : Tot n (mul n A B) := fun v hv => by
  obtain ⟨w, e⟩ := tb v hv
  have hw : w.length = n := by
    have := congrArg List.length e
    rw [app_length, hb.len, List.length_map] at this
    exact this.symm
  obtain ⟨u, e2⟩ := ta w hw
  exact ⟨u, by rw [app_mul hb.row, e, e2]⟩
theorem tot_unit {n : Nat} : Tot n (unit n) := fun v hv => ⟨v, app_unit (by simpa using hv)⟩
/-- what a table makes of whole numbers -/
def appI (T : Tab) (v : List Int) : List Int := (app T (v.map some)).map fun o => o.getD 0
end MX

set_option Elab.async false
set_option linter.all false
set_option maxRecDepth 100000
set_option maxHeartbeats 1000000
/-! MxB: a state as a list of lists, a piece's step; as a vector; as a table. Plain. -/
namespace MX
/-- when a piece starts -/
def frst {X : Type} (jn : X → X → X) (z : X) : Option X → List X → X
  | none, l => l.headD z
  | some q, l => jn (l.headD z) q
/-- when it leaves -/
def outD {X : Type} (jn : X → X → X) (ad : Int → X → X) (z : X) : List (List X) → Int → X → X
  | [], t, s => ad t s
  | l' :: _, t, s => jn (ad t s) (l'.getLastD z)
/-- when a piece leaves the stations: jn the later one, ad a time later; p: when it left the one ahead -/
def leaves {X : Type} (jn : X → X → X) (ad : Int → X → X) (z : X) : Option X → List (List X) → List Int → List X
  | p, l :: ls, t :: ts => outD jn ad z ls t (frst jn z p l) :: leaves jn ad z (some (outD jn ad z ls t (frst jn z p l))) ls ts
  | _, _, _ => []
/-- the state behind a piece -/
def step {X : Type} (jn : X → X → X) (ad : Int → X → X) (z : X) (ls : List (List X)) (ts : List Int) : List (List X) :=
  List.zipWith (fun d l => d :: l.dropLast) (leaves jn ad z none ls ts) ls
section
variable {X : Type} {jn : X → X → X} {ad : Int → X → X} {z : X}
end
section
variable {X Y : Type} {jn : X → X → X} {ad : Int → X → X} {z : X} {jn' : Y → Y → Y} {ad' : Int → Y → Y} {z' : Y}
end
/-! ### vectors -/
def split {X : Type} : List Nat → List X → List (List X)
  | [], _ => []
  | m :: ms, v => v.take m :: split ms (v.drop m)
section
variable {X Y : Type}
theorem split_flatten : ∀ {ms : List Nat} {st : List (List X)}, st.map List.length = ms → split ms st.flatten = st
  | [], st, h => by
    have : st = [] := by simpa using h
    subst this
    rfl
  | m :: ms, [], h => by cases h
  | m :: ms, l :: st, h => by
    simp only [List.map_cons, List.cons.injEq] at h
    obtain ⟨rfl, h⟩ := h
    simp only [split, List.flatten_cons, List.take_left', List.drop_left', split_flatten h]
theorem flatten_length {st : List (List X)} : st.flatten.length = (st.map List.length).sum := List.length_flatten
/-- a piece's step on a vector -/
def stepV (jn : X → X → X) (ad : Int → X → X) (z : X) (ms : List Nat) (ts : List Int) (v : List X) : List X := (step jn ad z (split ms v) ts).flatten
variable {jn : X → X → X} {ad : Int → X → X} {z : X} {jn' : Y → Y → Y} {ad' : Int → Y → Y} {z' : Y} {ms : List Nat}
end
/-! ### rows, numbers or nothing, whole numbers -/
def adO (t : Int) (o : O) : O := o.map (· + t)
def adR (t : Int) (r : List O) : List O := r.map (adO t)
def mxR (r s : List O) : List O := List.zipWith mx r s
def adI (t x : Int) : Int := x + t
abbrev stR := stepV mxR adR ([] : List O)
abbrev stO := stepV mx adO (none : O)
abbrev stI := stepV max adI (0 : Int)
/-- the table of a piece -/
def pieceT (ms : List Nat) (ts : List Int) : Tab := stR ms ts (unit ms.sum)
section
variable {ms : List Nat} {ts : List Int}
end
end MX

set_option Elab.async false
set_option linter.all false
set_option maxRecDepth 100000
set_option maxHeartbeats 1000000
/-! MxC: the order of a state's moments, the table that all states keep. Plain. -/
namespace MX
theorem getD_lt {X : Type} {l : List X} {i : Nat} (h : i < l.length) {z : X} : l.getD i z = l[i] := by
  rw [List.getD_eq_getElem?_getD, List.getElem?_eq_getElem h]; rfl
/-- the spots of a state: stations from k on, their ages -/
def spF : Nat → List Nat → List (Nat × Nat)
  | _, [] => []
  | k, m :: ms => (List.range m).map (fun a => (k, a)) ++ spF (k + 1) ms
abbrev sp (ms : List Nat) : List (Nat × Nat) := spF 0 ms
def spAt {X : Type} (z : X) (st : List (List X)) (p : Nat × Nat) : X := (st.getD p.1 []).getD p.2 z
theorem mem_spF {p : Nat × Nat} : ∀ {ms : List Nat} {k : Nat}, p ∈ spF k ms ↔ k ≤ p.1 ∧ p.1 - k < ms.length ∧ p.2 < ms.getD (p.1 - k) 0
  | [], k => by simp [spF]
  | m :: ms, k => by
    obtain ⟨s, a⟩ := p
    simp only [spF, List.mem_append, List.mem_map, List.mem_range, Prod.mk.injEq, mem_spF (ms := ms) (k := k + 1)]
    constructor
    · rintro (⟨b, h, rfl, rfl⟩ | ⟨h1, h2, h3⟩)
      · simp [h]
      · rw [show s - k = (s - (k + 1)) + 1 from by omega]
        exact ⟨by omega, by simp; omega, by simpa using h3⟩
    · rintro ⟨h1, h2, h3⟩
      by_cases e : s = k
      · subst e
        exact .inl ⟨a, by simpa using h3, rfl, rfl⟩
      · rw [show s - k = (s - (k + 1)) + 1 from by omega] at h2 h3
        exact .inr ⟨by omega, by simpa using h2, by simpa using h3⟩
theorem spF_length : ∀ {ms : List Nat} {k : Nat}, (spF k ms).length = ms.sum
  | [], _ => rfl
  | m :: ms, k => by simp [spF, spF_length]
theorem sp_length {ms : List Nat} : (sp ms).length = ms.sum := spF_length
section
variable {X : Type} {z : X}
theorem spF_at : ∀ {ms : List Nat} {k : Nat} {v : List X}, v.length = ms.sum → (spF k ms).map (fun p => spAt z (split ms v) (p.1 - k, p.2)) = v
  | [], k, v, h => by
    have : v = [] := List.length_eq_zero_iff.1 (by simpa using h)
    subst this
    rfl
  | m :: ms, k, v, h => by
    rw [List.sum_cons] at h
    simp only [spF, List.map_append, List.map_map]
    have e1 : (List.range m).map ((fun p : Nat × Nat => spAt z (split (m :: ms) v) (p.1 - k, p.2)) ∘ fun a => (k, a)) = v.take m := by
      apply List.ext_getElem
      · simp; omega
      · intro i h1 h2
        simp only [List.length_map, List.length_range] at h1
        simp only [List.getElem_map, List.getElem_range, Function.comp, spAt, split, Nat.sub_self, List.getD_cons_zero]
        rw [getD_lt h2]
    have e2 : (spF (k + 1) ms).map (fun p => spAt z (split (m :: ms) v) (p.1 - k, p.2)) = v.drop m := by
      rw [← spF_at (ms := ms) (k := k + 1) (v := v.drop m) (by rw [List.length_drop]; omega)]
      refine List.map_congr_left fun p hp => ?_
      obtain ⟨h1, _, _⟩ := mem_spF.1 hp
      have : p.1 - k = (p.1 - (k + 1)) + 1 := by omega
      simp only [spAt, split, this, List.getD_cons_succ]
    rw [e1, e2, List.take_append_drop]
theorem sp_at {ms : List Nat} {v : List X} (h : v.length = ms.sum) : (sp ms).map (spAt z (split ms v)) = v := spF_at (k := 0) h
theorem at_spF {p : Nat × Nat} {f : Nat × Nat → X} : ∀ {ms : List Nat} {k : Nat}, p ∈ spF k ms → spAt z (split ms ((spF k ms).map f)) (p.1 - k, p.2) = f p
  | [], k, h => by simp [spF] at h
  | m :: ms, k, h => by
    have e : split (m :: ms) ((spF k (m :: ms)).map f) = (List.range m).map (fun a => f (k, a)) :: split ms ((spF (k + 1) ms).map f) := by
      simp only [split, spF, List.map_append, List.map_map]
      rw [List.take_left' (by simp), List.drop_left' (by simp)]
      rfl
    rw [e]
    obtain ⟨h1, h2, h3⟩ := mem_spF.1 h
    by_cases q : p.1 = k
    · obtain ⟨s, a⟩ := p
      simp only at q h3
      subst q
      rw [Nat.sub_self, List.getD_cons_zero] at h3
      simp only [spAt, Nat.sub_self, List.getD_cons_zero]
      rw [getD_lt (by simpa using h3)]
      simp
    · have hp : p ∈ spF (k + 1) ms := by
        rw [mem_spF]
        rw [show p.1 - k = (p.1 - (k + 1)) + 1 from by omega] at h2 h3
        exact ⟨by omega, by simpa using h2, by simpa using h3⟩
      have : p.1 - k = (p.1 - (k + 1)) + 1 := by omega
      simp only [spAt, this, List.getD_cons_succ]
      exact at_spF hp
theorem at_sp {p : Nat × Nat} {f : Nat × Nat → X} {ms : List Nat} (h : p ∈ sp ms) : spAt z (split ms ((sp ms).map f)) p = f p := at_spF (k := 0) h
end
theorem dot_map_le {α : Type} {f g : α → O} {c : O} : ∀ {l : List α}, (∀ p ∈ l, le (pl (f p) (g p)) c) → le (dot (l.map f) (l.map g)) c
  | [], _ => le_none
  | x :: r, h => mx_le (h x List.mem_cons_self) (dot_map_le fun p hp => h p (List.mem_cons_of_mem _ hp))
theorem le_dot_map {α : Type} {f g : α → O} {p : α} : ∀ {l : List α}, p ∈ l → le (pl (f p) (g p)) (dot (l.map f) (l.map g))
  | x :: r, h => by
    rcases List.mem_cons.1 h with rfl | h
    · exact le_mx_left _ _
    · exact le_trans (le_dot_map h) (le_mx_right _ _)
/-- p stands not behind q -/
def ord (p q : Nat × Nat) : Prop := p.1 ≤ q.1 ∧ q.2 ≤ p.2
instance : DecidableRel ord := fun p q => by unfold ord; infer_instance
def selR (one other : Nat × Nat) : O := if ord other one then some 0 else none
def groundT (ms : List Nat) : Tab := (sp ms).map fun one => (sp ms).map (selR one)
theorem sq_ground {ms : List Nat} : Sq ms.sum (groundT ms) := ⟨by simp [groundT, sp_length], fun r hr => by
  obtain ⟨p, _, rfl⟩ := List.mem_map.1 hr
  simp [sp_length]⟩
abbrev atO (ms : List Nat) (v : List O) : Nat × Nat → O := spAt none (split ms v)
def Mono (ms : List Nat) (v : List O) : Prop := ∀ p ∈ sp ms, ∀ q ∈ sp ms, ord p q → le (atO ms v p) (atO ms v q)
section
variable {ms : List Nat}
def gr (ms : List Nat) (v : List O) (one : Nat × Nat) : O := dot ((sp ms).map (selR one)) ((sp ms).map (atO ms v))
theorem app_ground {v : List O} (h : v.length = ms.sum) : app (groundT ms) v = (sp ms).map (gr ms v) := by
  unfold app groundT gr
  rw [List.map_map, sp_at h]
  rfl
theorem gr_ge {v : List O} {p q : Nat × Nat} (hp : p ∈ sp ms) (o : ord p q) : le (atO ms v p) (gr ms v q) := by
  have := le_dot_map (f := selR q) (g := atO ms v) hp
  rw [selR, if_pos o, zero_pl] at this
  exact this
theorem gr_le {v : List O} {q : Nat × Nat} {c : O} (h : ∀ p ∈ sp ms, ord p q → le (atO ms v p) c) : le (gr ms v q) c := by
  refine dot_map_le fun p hp => ?_
  unfold selR
  split
  · rename_i o; rw [zero_pl]; exact h p hp o
  · exact le_none
theorem mono_ground {v : List O} (h : v.length = ms.sum) : Mono ms (app (groundT ms) v) := fun p hp q hq o => by
  rw [app_ground h, atO, at_sp hp, at_sp hq]
  exact gr_le fun r hr o' => gr_ge hr ⟨Nat.le_trans o'.1 o.1, Nat.le_trans o.2 o'.2⟩
theorem tot_ground : Tot ms.sum (groundT ms) := fun v hv => by
  suffices H : ∀ q ∈ sp ms, ∃ i : Int, gr ms (v.map some) q = some i by
    refine ⟨(sp ms).map fun q => (gr ms (v.map some) q).getD 0, ?_⟩
    rw [app_ground (by simpa using hv), List.map_map]
    refine List.map_congr_left fun q hq => ?_
    obtain ⟨i, e⟩ := H q hq
    simp [e]
  intro q hq
  have h := gr_ge (v := v.map some) hq (q := q) ⟨Nat.le_refl _, Nat.le_refl _⟩
  have a : ∃ i : Int, atO ms (v.map some) q = some i := by
    have e := sp_at (z := (none : O)) (ms := ms) (v := v.map some) (by simpa using hv)
    have : atO ms (v.map some) q ∈ v.map some := by
      have k := List.mem_map_of_mem (f := spAt none (split ms (v.map some))) hq
      rw [e] at k
      exact k
    obtain ⟨i, _, e⟩ := List.mem_map.1 this
    exact ⟨i, e.symm⟩
  obtain ⟨i, a⟩ := a
  rw [a] at h
  cases e : gr ms (v.map some) q with
  | none => rw [e] at h; exact h.elim
  | some j => exact ⟨j, rfl⟩
end
/-! ### a piece keeps the order -/
section
variable {ms : List Nat} {ts : List Int}
end
/-! ### tables that keep the order -/
structure Good (ms : List Nat) (T : Tab) : Prop where
  sq : Sq ms.sum T
  tot : Tot ms.sum T
  mono : ∀ v : List O, v.length = ms.sum → Mono ms v → Mono ms (app T v)
section
variable {ms : List Nat}
theorem Good.len {T : Tab} (h : Good ms T) {v : List O} : (app T v).length = ms.sum := by rw [app_length, h.sq.len]
theorem good_unit : Good ms (unit ms.sum) := ⟨sq_unit, tot_unit, fun v hv m => by rw [app_unit hv]; exact m⟩
theorem Good.mul {A B : Tab} (a : Good ms A) (b : Good ms B) : Good ms (mul ms.sum A B) :=
  ⟨a.sq.mul b.sq, Tot.mul b.sq a.tot b.tot, fun v hv m => by rw [app_mul b.sq.row]; exact a.mono _ b.len (b.mono v hv m)⟩
theorem Good.pow {A : Tab} (a : Good ms A) (k : Nat) : Good ms (pow ms.sum A k) := itr_inv (p := Good ms) (fun _ h => a.mul h) k _ good_unit
theorem good_ground : Good ms (groundT ms) := ⟨sq_ground, tot_ground, fun v hv _ => mono_ground hv⟩
/-- the table of an effect -/
def closed (ms : List Nat) (T : Tab) : Tab := mul ms.sum T (groundT ms)
theorem Good.closed {T : Tab} (h : Good ms T) : Good ms (closed ms T) := h.mul good_ground
/-- states of whole numbers -/
def MonoI (ms : List Nat) (v : List Int) : Prop := Mono ms (v.map some)
end
end MX

set_option Elab.async false
set_option linter.all false
set_option maxRecDepth 100000
set_option maxHeartbeats 4000000
/-! TbA: what the program's defs about tables compute. -/
namespace TB
open PySem
open PV LN MX
open L2 (Key)
abbrev PEnv := PV.Env
def oD : O → D
  | none => .non
  | some i => .int i
abbrev rD (r : List O) : D := .lst (r.map oD)
abbrev tD (T : Tab) : D := .lst (T.map rD)
abbrev szs (ps : List Int) : List Nat := 1 :: ps.map fun p => (p + 1).toNat
abbrev spotD (p : Nat × Nat) : D := .tup [.int p.1, .int p.2]
/-! ### loops -/
section
variable {T : Tb} {ρ : PEnv} {K : Kn} {t : CT} {x : CSs} {QD : List D → PEnv → Prop} {e c : CE} {own : List Nat}
theorem wFor_ix {items : List D} (I : Nat → PEnv → Prop) (h0 : I 0 ρ) (hs : ∀ i (hi : i < items.length) ρ, I i ρ → wO (tgt ρ t items[i]) fun ρ1 => wSs T x ρ1 { nx := I (i + 1), ct := I (i + 1), br := K.nx, rt := K.rt })
    (h1 : ∀ ρ, I items.length ρ → K.nx ρ) : wFor T t x items ρ K := by
  refine wFor_inv (fun rest ρ => ∃ i, i ≤ items.length ∧ rest = items.drop i ∧ I i ρ) ⟨0, by omega, rfl, h0⟩ ?_ ?_
  · rintro d r ρ ⟨i, hi, er, h⟩
    by_cases q : i = items.length
    · subst q; rw [List.drop_length] at er; cases er
    · rw [List.drop_eq_getElem_cons (by omega)] at er
      cases er
      exact wO_imp (hs i (by omega) ρ h) fun ρ1 h => wSs_imp h ⟨fun ρ h => ⟨i + 1, by omega, rfl, h⟩, fun _ _ h => h, fun _ h => h, fun ρ h => ⟨i + 1, by omega, rfl, h⟩⟩
  · rintro ρ ⟨i, hi, er, h⟩
    have : items.length - i = 0 := by
      have := congrArg List.length er
      simpa using this.symm
    have : i = items.length := by omega
    subst this
    exact h1 ρ h
/-- the same with the places' numbers, over a list that may be lent -/
theorem wFEs_ix {t : CT} {x : CSs} {i : Nat} {xs : List D} {s : PV.Slot} (e : s = .fz (.lst xs) ∨ s = .pw (.lst xs)) (hl : xs.length < LIM) (I : Nat → PEnv → Prop) (h0 : I 0 ρ) (hk : ∀ k ρ, I k ρ → slotAt ρ i = s)
    (hs : ∀ k (hi : k < xs.length) ρ, I k ρ → wO (tgt ρ t (.tup [.int (k : Nat), xs[k]])) fun ρ1 => wSs T x ρ1 { nx := I (k + 1), ct := I (k + 1), br := K.nx, rt := K.rt }) (h1 : ∀ ρ, I xs.length ρ → K.nx ρ) : wFEs s T t x i ρ K := by
  rcases e with rfl | rfl
  · rw [wFEs_fz]
    refine wFor_ix I h0 (fun k hi ρ h => ?_) fun ρ h => h1 ρ (by rw [enmL_len] at h; exact h)
    rw [enmL_len] at hi
    rw [enmL_get hi]
    exact hs k hi ρ h
  · rw [wFEs_pw]
    refine wFE_inv (xs := xs) (fun r ρ => ∃ k, I k ρ ∧ k ≤ xs.length ∧ r = (enmL xs).drop k) hl ⟨0, h0, Nat.zero_le _, rfl⟩ (fun r ρ ⟨k, h, _⟩ => hk k ρ h) ?_ ?_
    · rintro d r ρ ⟨k, h, hle, hr⟩
      have lt : k < xs.length := by
        have := congrArg List.length hr
        simp [enmL_len] at this
        omega
      rw [List.drop_eq_getElem_cons (by rw [enmL_len]; exact lt), enmL_get lt] at hr
      simp only [List.cons.injEq] at hr
      obtain ⟨rfl, rfl⟩ := hr
      exact wO_imp (hs k lt ρ h) fun ρ1 q => wSs_imp q ⟨fun ρ z => ⟨k + 1, z, lt, rfl⟩, fun _ _ z => z, fun _ z => z, fun ρ z => ⟨k + 1, z, lt, rfl⟩⟩
    · rintro ρ ⟨k, h, hle, hr⟩
      have : k = xs.length := by
        have := congrArg List.length hr
        simp [enmL_len] at this
        omega
      subst this
      exact h1 ρ h
/-- over mapped items, with what is done and what is left -/
theorem wFor_mapL {β : Type} {f : β → D} {l : List β} (I : List β → List β → PEnv → Prop) (h0 : I [] l ρ) (hs : ∀ a y r ρ, a ++ y :: r = l → I a (y :: r) ρ → wO (tgt ρ t (f y)) fun ρ1 => wSs T x ρ1 { nx := I (a ++ [y]) r, ct := I (a ++ [y]) r, br := K.nx, rt := K.rt })
    (h1 : ∀ ρ, I l [] ρ → K.nx ρ) : wFor T t x (l.map f) ρ K := by
  refine wFor_inv (fun rest ρ => ∃ a r, a ++ r = l ∧ rest = r.map f ∧ I a r ρ) ⟨[], l, rfl, rfl, h0⟩ ?_ ?_
  · rintro d rest ρ ⟨a, r, e1, e2, h⟩
    cases r with
    | nil => cases e2
    | cons y r =>
      cases e2
      exact wO_imp (hs a y r ρ e1 h) fun ρ1 h => wSs_imp h ⟨fun ρ h => ⟨a ++ [y], r, by simpa using e1, rfl, h⟩, fun _ _ h => h, fun _ h => h, fun ρ h => ⟨a ++ [y], r, by simpa using e1, rfl, h⟩⟩
  · rintro ρ ⟨a, r, e1, e2, h⟩
    cases r with
    | nil => rw [List.append_nil] at e1; subst e1; exact h1 ρ h
    | cons y r => cases e2
/-- nothing but J -/
def Kn.of (J : PEnv → Prop) : Kn := { nx := J, rt := fun _ _ => False, br := fun _ => False, ct := fun _ => False }
theorem wG_filterL {β : Type} {l : List β} {f : β → D} (g : β → Option D) (hx : ∀ y ∈ l, wO (tgt ρ t (f y)) fun ρ1 => wE T c ρ1 fun b ρ2 => wB b fun k => wK k (wE T e ρ2 fun v ρ3 => wD v ρ3 fun d ρ4 => g y = some d ∧ wipeE ρ4 own = ρ) (g y = none ∧ wipeE ρ2 own = ρ)) (hq : QD (l.filterMap g) ρ) : wG T e c t own (l.map f) ρ QD := by
  induction l generalizing QD with
  | nil => rw [List.map_nil, wG_nil]; exact hq
  | cons x r ih =>
    rw [List.map_cons, wG_cons]
    refine wO_imp (hx x List.mem_cons_self) fun ρ1 h => ?_
    refine wE_imp h fun b ρ2 h => ?_
    cases b with
    | f d =>
      cases d with
      | bl k =>
        simp only [wB_bl] at h ⊢
        refine ⟨fun q => wE_imp (h.1 q) fun v ρ3 h => wO_imp h fun p ⟨h1, h2⟩ => ?_, fun q => ?_⟩
        · show wG _ _ _ _ _ _ (wipeE p.2 own) _
          rw [h2]
          exact ih (fun y hy => hx y (List.mem_cons_of_mem _ hy)) (by rw [List.filterMap_cons_some h1] at hq; exact hq)
        · obtain ⟨h1, h2⟩ := h.2 q
          rw [h2]
          exact ih (fun y hy => hx y (List.mem_cons_of_mem _ hy)) (by rw [List.filterMap_cons_none h1] at hq; exact hq)
      | _ => exact h.elim
    | _ => exact h.elim
end
/-! ### the greatest of some -/
def mxs : List O → O
  | [] => none
  | a :: r => mx a (mxs r)
def grt : List Int → O
  | [] => none
  | a :: r => some (maxL a r)
theorem small_of {i : Int} (h : -1000000000000 ≤ i) (g : i ≤ 1000000000000) : small i = true := by
  unfold small
  exact decide_eq_true (by omega)
section
variable {P : Pg} (h : Has P) {n : Nat}
include h
theorem unit {m : Nat} (hm : m ≤ 1000) : runF P (n + 1) 83 [.fz (.int m)] = .ok (.n (tD (MX.unit m))) [.fz (.int m)] := by
  refine FOut.get (wp_runF h.unit rfl ?_)
  walk_at "pv0"
  walk_at "pvs"
  refine ⟨small_of (by omega) (by omega), ?_⟩
  rw [show (m : Int).toNat = m from rfl]
  unfold mapRange
  refine wG_mapL (fun i : Nat => rD (unitR m i)) (fun i hi => ?_) ?_
  · walk_at "pvs"
    refine ⟨small_of (by omega) (by omega), ?_⟩
    rw [show (m : Int).toNat = m from rfl]
    unfold mapRange
    refine wG_mapL (fun j : Nat => oD (if i = j then some 0 else none)) (fun j hj => ?_) ?_
    · walk_at "pvs"
      by_cases e : i = j <;> simp [wK, e, oD]
      omega
    · walk_at "pvs"
      refine ⟨by simp [LIM]; omega, ?_⟩
      simp [unitR, rD, Function.comp_def]
  · walk_at "pvs"
    refine ⟨by simp [LIM]; omega, ?_⟩
    simp [MX.unit, tD, Function.comp_def]
end
end TB

set_option Elab.async false
set_option linter.all false
set_option maxRecDepth 100000
set_option maxHeartbeats 4000000
/-! Bg: bags of draws, drawn names. -/
namespace BG
open PySem
open PV
open L2 (Key)
/-- a bag: three ints, at most B draws made -/
def Bag (B : Nat) (d : D) : Prop := ∃ a b c : Int, d = .lst [.int a, .int b, .int c] ∧ 0 ≤ a ∧ 0 ≤ c ∧ c ≤ B
theorem Bag.mono {B C : Nat} {d : D} (h : Bag B d) (l : B ≤ C) : Bag C d := by
  obtain ⟨a, b, c, e, h1, h2, h3⟩ := h
  exact ⟨a, b, c, e, h1, h2, by omega⟩
abbrev LIMB : Nat := 1000000000000
section
variable {P : Pg} (h : Has P) {n : Nat}
include h
theorem bag {c : Int} : (runF P (n + 1) 61 [.fz (.int c)]).wp fun v os => ∃ d, v = .n d ∧ os = [.fz (.int c)] ∧ Bag 0 d := by
  refine wp_runF h.law_bag rfl ?_
  walk_at "pv0"
  rw [wSs_cons]
  walk_at "pv1"
  exact ⟨⟨by decide, by decide⟩, by simp [LIM], _, rfl, _, _, _, rfl, by split <;> omega, by decide, by decide⟩
theorem is_int {t u : Int} : runF P (n + 1) 66 [.fz (.int t), .fz (.int u)] = .ok (.f (.bl (decide (t = u)))) [.fz (.int t), .fz (.int u)] := by
  refine FOut.get (wp_runF h.law_is rfl ?_)
  walk_at "pv0"
  rw [wSs_cons]
  walk_at "pv1"
theorem pick {B : Nat} {d : D} {m : Int} (hr : Bag B d) (hB : B < LIMB) (h1 : 0 < m) (h2 : m ≤ 10 ^ 60) :
    (runF P (n + 1) 62 [.ow d, .fz (.int m)]).wp fun v os => ∃ r d', v = .f (.int r) ∧ os = [.ow d', .fz (.int m)] ∧ 0 ≤ r ∧ r < m ∧ Bag (B + 1) d' := by
  obtain ⟨a, b, c, rfl, h3, h4, h5⟩ := hr
  have hB : B < 1000000000000 := hB
  refine wp_runF h.law_pick rfl ?_
  walk_at "pv0"
  rw [wSs_cons]
  walk_at "pv1"
  rw [wSs_cons]
  walk_at "pv1"
  refine ⟨fun e => ?_, fun e => ?_⟩
  · walk_at "pvs"
    refine ⟨h1, ⟨h1, RL.fdvOk h2 h1⟩, _, _, rfl, rfl, Int.emod_nonneg _ (by omega), Int.emod_lt_of_pos _ h1, ?_⟩
    exact ⟨_, _, _, rfl, Int.ediv_nonneg h3 (by omega), by omega, by omega⟩
  · rw [wSs_cons]
    walk_at "pv1"
    rw [wSs_cons]
    walk_at "pv1"
    have q1 := Int.emod_nonneg b (b := 2147483629) (by decide)
    have q2 := Int.emod_lt_of_pos b (b := 2147483629) (by decide)
    refine ⟨by decide, RL.mulOk_of 40 40 (by omega) (by decide) (by decide) (by decide) (by decide), RL.mulOk_of 60 40 (by omega) (by decide) (by decide) (by decide) (by decide), by decide, ?_⟩
    rw [wSs_cons]
    walk_at "pv1"
    obtain ⟨f, ef⟩ : ∃ f, f = (b % 2147483629 * 48271 + (c + 1) * 69621 + 12345) % 2147483647 := ⟨_, rfl⟩
    have f1 : 0 ≤ f := by rw [ef]; exact Int.emod_nonneg _ (by decide)
    have f2 : f < 2147483647 := by rw [ef]; exact Int.emod_lt_of_pos _ (by decide)
    rw [← ef]
    refine ⟨RL.mulOk_of 40 40 (by omega) (by omega) (by decide) (by decide) (by decide), RL.mulOk_of 60 40 (by omega) (by decide) (by decide) (by decide) (by decide), by decide, ?_⟩
    obtain ⟨g, eg⟩ : ∃ g, g = (f * f + (c + 1) * 40692) % 2147483587 := ⟨_, rfl⟩
    have g1 : 0 ≤ g := by rw [eg]; exact Int.emod_nonneg _ (by decide)
    have g2 : g < 2147483587 := by rw [eg]; exact Int.emod_lt_of_pos _ (by decide)
    rw [← eg]
    rw [wSs_cons]
    walk_at "pv1"
    refine ⟨RL.mulOk_of 40 40 (by omega) (by decide) (by decide) (by decide) (by decide), ⟨by decide, by decide⟩, ?_⟩
    obtain ⟨w, ew⟩ : ∃ w, w = (f * 2147483587 + g) / 32 := ⟨_, rfl⟩
    have w1 : 0 ≤ w := by omega
    have w2 : w < 2 ^ 60 := by omega
    rw [← ew]
    rw [wSs_cons]
    walk_at "pv1"
    have fin : ∀ z : Int, ∃ r d', Val.f (D.int (z % m)) = .f (.int r) ∧ [Slot.ow (.lst [.int a, .int b, .int (c + 1)]), Slot.fz (.int m)] = [.ow d', .fz (.int m)] ∧ 0 ≤ r ∧ r < m ∧ Bag (B + 1) d' := fun z =>
      ⟨_, _, rfl, rfl, Int.emod_nonneg _ (by omega), Int.emod_lt_of_pos _ h1, _, _, _, rfl, h3, by omega, by omega⟩
    refine ⟨⟨by decide, by decide⟩, ?_⟩
    have lw : w.natAbs.log2 < 60 := RL.log2_lt (by decide) (by omega)
    refine ⟨fun e => ?_, fun e => ?_⟩
    · walk_at "pvs"
      exact ⟨⟨by decide, by omega⟩, h1, fin _⟩
    · walk_at "pvs"
      exact ⟨h1, fin _⟩
/-- a drawn number from 1 to 10 ** 30 -/
theorem many {B : Nat} {d : D} (hr : Bag B d) (hB : B + 2 < LIMB) :
    (runF P (n + 2) 74 [.ow d]).wp fun v os => ∃ r d', v = .f (.int r) ∧ os = [.ow d'] ∧ 1 ≤ r ∧ r ≤ LN.MAX ∧ Bag (B + 2) d' := by
  refine wp_runF h.law_many rfl ?_
  walk_at "pv0"
  rw [wSs_cons]
  walk_at "pv1"
  refine ⟨⟨by decide, by decide⟩, ⟨by decide, by decide⟩, by simp [LIM], ?_⟩
  refine FOut.imp (pick h hr (by omega) (by decide) (by decide)) ?_
  rintro v os ⟨q, d1, rfl, rfl, a0, a1, hr1⟩
  have fin : ∀ m : Int, 0 < m → m ≤ 10 ^ 30 → (runF P (n + 1) 62 [.ow d1, .fz (.int m)]).wp fun v os => ∃ r d', v = .f (.int r) ∧ os = [.ow d', .fz (.int m)] ∧ 0 ≤ r ∧ r < 10 ^ 30 ∧ Bag (B + 2) d' := fun m m0 m1 =>
    FOut.imp (pick h hr1 (by omega) m0 (by omega)) fun v os ⟨r, d2, e1, e2, b0, b1, hr2⟩ => ⟨r, d2, e1, e2, b0, by omega, hr2⟩
  rcases (by omega : q = 0 ∨ q = 1 ∨ q = 2 ∨ q = 3) with rfl | rfl | rfl | rfl
  all_goals
    walk_at "pv1"
    refine FOut.imp (fin _ (by decide) (by decide)) ?_
    rintro v os ⟨r, d2, rfl, rfl, b0, b1, hr2⟩
    walk_at "pv1"
    exact ⟨_, _, rfl, rfl, by omega, by simp only [LN.MAX]; omega, hr2⟩
end
theorem nodup_le {α : Type} [DecidableEq α] : ∀ {l m : List α}, l.Nodup → (∀ x ∈ l, x ∈ m) → l.length ≤ m.length
  | [], _, _, _ => Nat.zero_le _
  | x :: l, m, nd, h => by
    have hx := h x List.mem_cons_self
    obtain ⟨n1, n2⟩ := List.nodup_cons.1 nd
    have := nodup_le (l := l) (m := m.erase x) n2 fun y hy => (List.mem_erase_of_ne (by rintro rfl; exact n1 hy)).2 (h y (List.mem_cons_of_mem _ hy))
    rw [List.length_erase_of_mem hx] at this
    have := List.length_pos_of_mem hx
    rw [List.length_cons]
    omega
/-- signs joined -/
theorem join_signs : ∀ {ls : List Nat}, Str.join "" (ls.map fun c => (⟨#[c]⟩ : Str)) = ⟨ls.toArray⟩
  | [] => rfl
  | [c] => rfl
  | c :: d :: r => by
    have ih := join_signs (ls := d :: r)
    show ((⟨#[c]⟩ : Str) ++ ("" : Str)) ++ Str.join "" ((d :: r).map fun c => (⟨#[c]⟩ : Str)) = _
    rw [ih]
    show (⟨(#[c] ++ #[]) ++ (d :: r).toArray⟩ : Str) = _
    simp
abbrev AZ : List Nat := ("abcdefghijklmnopqrstuvwxyz" : Str).cps.toList
theorem az_len : AZ.length = 26 := by decide
def SPARE : List Str := ["i", "j", "k", "l", "m", "n"]
theorem spare_ok : ∀ x ∈ SPARE, LN.OkName x := by
  intro x hx
  simp only [SPARE, List.mem_cons, List.not_mem_nil, or_false] at hx
  rcases hx with rfl | rfl | rfl | rfl | rfl | rfl <;> exact ⟨by decide, by decide, by decide⟩
theorem first_of {xs : List Str} : ∀ {l : List Str}, (∃ y ∈ l, y ∉ xs) → ∃ y r, l.filterMap (fun y => if y ∈ xs then none else some (D.str y)) = D.str y :: r ∧ y ∈ l ∧ y ∉ xs
  | [], ⟨y, m, _⟩ => by cases m
  | x :: l, ⟨y, m, q⟩ => by
    by_cases hx : x ∈ xs
    · rcases List.mem_cons.1 m with rfl | m
      · exact absurd hx q
      · obtain ⟨z, r, e, m1, m2⟩ := first_of (l := l) ⟨y, m, q⟩
        exact ⟨z, r, by rw [List.filterMap_cons]; simp only [hx, if_true]; exact e, List.mem_cons_of_mem _ m1, m2⟩
    · exact ⟨x, l.filterMap (fun y => if y ∈ xs then none else some (D.str y)), by rw [List.filterMap_cons]; simp only [hx, if_false], List.mem_cons_self, hx⟩
theorem first_free {xs : List Str} {w : Str} (hw : LN.OkName w) (hx : xs.length ≤ 5) : ∃ y r, (w :: SPARE).filterMap (fun y => if y ∈ xs then none else some (D.str y)) = D.str y :: r ∧ LN.OkName y ∧ y ∉ xs := by
  have ex : ∃ y ∈ w :: SPARE, y ∉ xs := by
    refine Classical.byContradiction fun q => ?_
    have all : ∀ y ∈ SPARE, y ∈ xs := fun y m => Classical.byContradiction fun z => q ⟨y, List.mem_cons_of_mem _ m, z⟩
    have := nodup_le (l := SPARE) (m := xs) (by decide) all
    simp only [SPARE, List.length_cons, List.length_nil] at this
    omega
  obtain ⟨y, r, e, m, q⟩ := first_of ex
  refine ⟨y, r, e, ?_, q⟩
  rcases List.mem_cons.1 m with rfl | m
  · exact hw
  · exact spare_ok y m
theorem any_strs {y : Str} : ∀ {xs : List Str}, (xs.map D.str).any (fun x => x.eqf (D.str y)) = decide (y ∈ xs)
  | [] => rfl
  | x :: xs => by
    rw [List.map_cons, List.any_cons, any_strs]
    show (x == y || _) = _
    by_cases q : x = y
    · subst q; simp
    · rw [show (x == y) = false from beq_eq_false_iff_ne.2 q, Bool.false_or]
      have : (y ∈ x :: xs) ↔ y ∈ xs := by rw [List.mem_cons]; exact ⟨fun z => z.resolve_left (Ne.symm q), .inr⟩
      exact decide_eq_decide.2 this.symm
theorem flat_strs {y : Str} {xs : List Str} : ((D.str y).flat && (xs.map D.str).all D.flat) = true := by
  rw [List.all_map]
  show (xs.all fun _ => true) = true
  simp
theorem sum_ones : ∀ {ls : List Nat}, ((ls.map fun c => (⟨#[c]⟩ : Str)).map fun x => x.length).sum = ls.length
  | [] => rfl
  | c :: r => by
    simp only [List.map_cons, List.sum_cons, sum_ones, List.length_cons]
    show 1 + r.length = _
    omega
/-- the first letters of a word -/
theorem word_ok {ls : List Nat} {k : Int} (k1 : 1 ≤ k) (k8 : k ≤ 8) (l1 : 1 ≤ ls.length) (l2 : ∀ c ∈ ls, c ∈ AZ) : ∃ w : Str, w = ⟨(cut ls none (some k)).toArray⟩ ∧ LN.OkName w := by
  refine ⟨_, rfl, ?_⟩
  obtain ⟨j, rfl⟩ : ∃ j : Nat, k = j := ⟨k.toNat, by omega⟩
  have e : cut ls none (some (j : Int)) = ls.take j := by
    show (ls.drop 0).take ((if (j : Int) < 0 then ((j : Int) + (ls.length : Nat)).toNat else min (Int.toNat j) ls.length) - 0) = _
    rw [if_neg (by omega), List.drop_zero, Int.toNat_natCast, Nat.sub_zero]
    by_cases q : j ≤ ls.length
    · rw [Nat.min_eq_left q]
    · rw [Nat.min_eq_right (by omega), List.take_of_length_le (by omega), List.take_of_length_le (by omega)]
  rw [e]
  have len : (ls.take j).toArray.size = min j ls.length := by simp
  exact ⟨by show 1 ≤ (ls.take j).toArray.size; omega, by show (ls.take j).toArray.size ≤ 8; omega, fun c hc => l2 c (List.mem_of_mem_take (by simpa using hc))⟩
section
variable {P : Pg} (h : Has P) {n : Nat}
include h
theorem names {B : Nat} {d : D} {m : Nat} (hr : Bag B d) (hB : B + 1000 < LIMB) (m5 : m ≤ 5) :
    (runF P (n + 2) 63 [.ow d, .fz (.int m)]).wp fun v os => ∃ (xs : List Str) (d' : D), v = .n (.lst (xs.map .str)) ∧ os = [.ow d', .fz (.int m)] ∧ xs.length = m ∧ xs.Nodup ∧ (∀ x ∈ xs, LN.OkName x) ∧ Bag (B + 20 * m) d' := by
  refine wp_runF h.law_names rfl ?_
  walk_at "pv0"
  rw [wSs_cons]
  walk_at "pv1"
  refine ⟨by simp [LIM], ?_⟩
  rw [wSs_cons]
  walk_at "pv1"
  refine ⟨by unfold small; exact decide_eq_true (by omega), ?_⟩
  refine wFor_inv (fun rest ρ => ∃ (xs : List Str) (d' : D) (s3 s4 s5 s6 s7 : PV.Slot), ρ = [.pw d', .fz (.int m), .ow (.lst (xs.map .str)), s3, s4, s5, s6, s7] ∧ npw s3 ∧ npw s4 ∧ npw s5 ∧ npw s6 ∧ npw s7 ∧ xs.length + rest.length = m ∧ xs.Nodup ∧ (∀ x ∈ xs, LN.OkName x) ∧ Bag (B + 20 * xs.length) d') ⟨[], d, .no, .no, .no, .no, .no, rfl, trivial, trivial, trivial, trivial, trivial, by simp [mapRange], List.nodup_nil, by simp, hr⟩ ?_ ?_
  · rintro x rest ρ ⟨xs, d', s3, s4, s5, s6, s7, rfl, n3, n4, n5, n6, n7, e1, e2, e3, hr'⟩
    simp only [List.length_cons] at e1
    wp_walk using 1, n3
    rw [wSs_cons]
    wp_walk using 1, n4, n5, n6, n7
    refine FOut.imp (pick h hr' (by omega) (by decide) (by decide)) ?_
    rintro v os ⟨q, d1, rfl, rfl, a0, a1, hr1⟩
    walk_at "pv1"
    refine ⟨by unfold small; exact decide_eq_true (by omega), ?_⟩
    refine wG_inv (fun rest' acc ρ => ∃ (ls : List Nat) (d2 : D), acc = (ls.map fun c => (⟨#[c]⟩ : Str)).map D.str ∧ ρ = [.pw d2, .fz (.int m), .ow (.lst (xs.map .str)), .fz x, s4, s5, .no, s7] ∧ ls.length + rest'.length = (1 + q).toNat ∧ (∀ c ∈ ls, c ∈ AZ) ∧ Bag (B + 20 * xs.length + 1 + ls.length) d2) ⟨[], d1, rfl, rfl, by simp [mapRange], by simp, hr1⟩ ?_ ?_
    · rintro y rest' acc ρ ⟨ls, d2, rfl, rfl, l1, l2, hr2⟩
      simp only [List.length_cons] at l1
      walk_at "pv1"
      refine FOut.imp (pick h hr2 (by omega) (by decide) (by decide)) ?_
      rintro v os ⟨r, d3, rfl, rfl, b0, b1, hr3⟩
      obtain ⟨k, rfl⟩ : ∃ k : Nat, r = k := ⟨r.toNat, by omega⟩
      have hk : k < AZ.length := by rw [az_len]; omega
      wp_walk using 1, at_nat, show (Str.ofString "abcdefghijklmnopqrstuvwxyz").cps.toList = AZ from rfl, List.getElem?_eq_getElem hk, Option.map_some
      refine ⟨by decide, ls ++ [AZ[k]], d3, by simp, rfl, by simp; omega, ?_, hr3.mono (by simp; omega)⟩
      intro c hc
      rcases List.mem_append.1 hc with hc | hc
      · exact l2 c hc
      · rw [List.mem_singleton.1 hc]; exact List.getElem_mem hk
    · rintro acc ρ ⟨ls, d2, rfl, rfl, l1, l2, hr2⟩
      have l1 : ls.length = (1 + q).toNat := by simpa using l1
      wp_walk using 1, n4, join_signs
      refine ⟨by simp [LIM]; omega, ?_⟩
      rw [wSs_cons]
      wp_walk using 1, n5, join_signs
      refine ⟨by rw [sum_ones]; simp [LIM, show (Str.ofString "").length = 0 from rfl]; omega, by simp [LIM], ?_⟩
      refine FOut.imp (pick h hr2 (by omega) (by decide) (by decide)) ?_
      rintro v os ⟨r, d3, rfl, rfl, b0, b1, hr3⟩
      have ll : (⟨ls.toArray⟩ : Str).length ≤ LIM := by
        show ls.toArray.size ≤ 16000000
        simp; omega
      obtain ⟨k, k1, k8, hk⟩ : ∃ k : Int, 1 ≤ k ∧ k ≤ 8 ∧ at? [D.int 1, D.int 1, D.int 2, D.int 8] r = some (.int k) := by
        rcases (by omega : r = 0 ∨ r = 1 ∨ r = 2 ∨ r = 3) with rfl | rfl | rfl | rfl <;> exact ⟨_, by decide, by decide, rfl⟩
      obtain ⟨w, ew, okw⟩ := word_ok (ls := ls) k1 k8 (by omega) l2
      wp_walk using 1, n5, hk, Option.map_some
      rw [← ew]
      refine ⟨ll, ?_⟩
      rw [wSs_cons]
      wp_walk using 1, n7
      obtain ⟨y, r', e4, y1, y2⟩ := first_free (xs := xs) okw (by omega)
      refine ⟨by simp [LIM], ?_⟩
      rw [show [D.str w, D.str (Str.ofString "i"), D.str (Str.ofString "j"), D.str (Str.ofString "k"), D.str (Str.ofString "l"), D.str (Str.ofString "m"), D.str (Str.ofString "n")] = (w :: SPARE).map D.str from rfl]
      refine TB.wG_filterL (fun y => if y ∈ xs then none else some (D.str y)) (fun y hy => ?_) ?_
      · walk_at "pv1"
        rw [any_strs]
        refine ⟨flat_strs, fun e => ?_, fun e => ?_⟩
        · have e : y ∉ xs := by simpa using e
          rw [if_neg e]
        · have e : y ∈ xs := by simpa using e
          rw [if_pos e]
      · rw [e4]
        wp_walk using 1, n7
        have len := congrArg List.length e4
        have le := List.length_filterMap_le (fun y => if y ∈ xs then none else some (D.str y)) (w :: SPARE)
        simp only [SPARE, List.length_cons, List.length_nil] at len le
        refine ⟨by simp only [LIM]; omega, by simp only [LIM]; omega, xs ++ [y], d3, .fz x, .fz (.lst ((ls.map fun c => (⟨#[c]⟩ : Str)).map D.str)), .fz (.str w), s6, s7, by simp only [List.map_append, List.map_cons, List.map_nil], trivial, trivial, trivial, n6, n7, by simp; omega, ?_, ?_, hr3.mono (by simp; omega)⟩
        · rw [List.nodup_append]
          refine ⟨e2, by simp, fun a ha b hb => ?_⟩
          rw [List.mem_singleton.1 hb]
          rintro rfl
          exact y2 ha
        · intro z hz
          rcases List.mem_append.1 hz with hz | hz
          · exact e3 z hz
          · rw [List.mem_singleton.1 hz]; exact y1
  · rintro ρ ⟨xs, d', s3, s4, s5, s6, s7, rfl, n3, n4, n5, n6, n7, e1, e2, e3, hr'⟩
    dsimp only
    rw [wSs_cons]
    walk_at "pv1"
    have e1 : xs.length = m := by simpa using e1
    exact ⟨xs, d', rfl, rfl, e1, e2, e3, by rw [← e1]; exact hr'⟩
end
end BG
set_option Elab.async false
set_option linter.all false
set_option maxRecDepth 100000
set_option maxHeartbeats 4000000
/-! TbB: the table of a piece. -/
namespace TB
open PySem
open PV LN MX
open L2 (Key)
abbrev keyP (p : Nat × Nat) : List Key := [.inl (p.1 : Int), .inl (p.2 : Int)]
/-- the units of a table, by their spots -/
abbrev stU (ms : List Nat) : List (List (List O)) := split ms (MX.unit ms.sum)
abbrev unitsD (ms : List Nat) : List (List Key × D) := (sp ms).map fun p => (keyP p, rD (spAt [] (stU ms) p))
section
variable {P : Pg} (h : Has P) {n : Nat}
include h
end
end TB

set_option Elab.async false
set_option linter.all false
set_option maxRecDepth 100000
set_option maxHeartbeats 4000000
/-! TbD: products, powers, what tables make of vectors; the tables of lots, rounds, plans. -/
namespace TB
open PySem
open PV LN MX
open L2 (Key)
abbrev prD (q : Int × List O) : D := .tup [.int q.1, rD q.2]
section
variable {P : Pg} (h : Has P) {n : Nat}
include h
end
end TB

set_option Elab.async false
set_option linter.all false
set_option maxRecDepth 100000
set_option maxHeartbeats 4000000
/-! TbE: powers, what tables make of vectors. -/
namespace TB
open PySem
open PV LN MX
open L2 (Key)
theorem Sq.ne {m : Nat} {T : Tab} (h : Sq m T) (m0 : 0 < m) : T ≠ [] := fun e => by have := h.len; rw [e] at this; simp at this; omega
section
variable {P : Pg} (h : Has P) {n : Nat}
include h
end
end TB

set_option Elab.async false
set_option linter.all false
set_option maxRecDepth 100000
set_option maxHeartbeats 4000000
/-! TbF: so many times upon a vector, the ground, the tables of lots, rounds, plans. -/
namespace TB
open PySem
open PV LN MX
open L2 (Key)
abbrev Lots := List (Str × Int)
abbrev lotD (p : Str × Int) : D := .tup [.str p.1, .int p.2]
abbrev lotsD (ls : Lots) : List D := ls.map lotD
abbrev planD (ls : Lots) (r : Int) : D := .obj 1 [(2, .tup (lotsD ls)), (3, .int r)]
/-- the times of a kind -/
def tmOf (ks : Kinds) (nm : Str) : List Int := (lk ks nm).getD []
def lotT (ps : List Int) (ks : Kinds) (p : Str × Int) : Tab := pow (szs ps).sum (pieceT (szs ps) (tmOf ks p.1)) p.2.toNat
def lotsT (ps : List Int) (ks : Kinds) (ls : Lots) : Tab := ls.foldl (fun T p => mul (szs ps).sum (lotT ps ks p) T) (MX.unit (szs ps).sum)
def planT (ps : List Int) (ks : Kinds) (ls : Lots) (r : Int) : Tab := pow (szs ps).sum (lotsT ps ks ls) r.toNat
/-- lots of kinds of a line -/
structure OkL (ks : Kinds) (m : Nat) (ls : Lots) : Prop where
  kind : ∀ p ∈ ls, ∃ ts, lk ks p.1 = some ts ∧ ts.length = m ∧ ∀ t ∈ ts, 0 ≤ t
  many : ∀ p ∈ ls, 1 ≤ p.2 ∧ p.2 ≤ MAX
section
variable {ps : List Int} {ks : Kinds} {ls : Lots}
end
section
variable {P : Pg} (h : Has P) {n : Nat}
include h
end
end TB

set_option Elab.async false
set_option linter.all false
set_option maxRecDepth 100000
set_option maxHeartbeats 4000000
/-! TbG: states; plans and their pieces. -/
namespace TB
open PySem
open PV LN MX
open L2 (Key)
abbrev State := List (List Int)
abbrev sD (st : State) : D := .lst (st.map lI)
/-- the places of a line's methods and attributes, so far as tables ask -/
structure OkT (P : Pg) : Prop where
  tb : Has P
  ln : LN.Ok P
  g5 : P.gl 5 = .int 12
  f2 : P.fl 1 2 = true
  f3 : P.fl 1 3 = true
  p0 : P.mt 1 0 = some 50
  p10 : P.mt 1 10 = some 53
  p12 : P.mt 1 12 = some 56
/-- what of it plans ask -/
structure OkB (P : Pg) : Prop where
  tb : Has P
  ln : LN.OkI P
  g5 : P.gl 5 = .int 12
  f2 : P.fl 1 2 = true
  f3 : P.fl 1 3 = true
  p0 : P.mt 1 0 = some 50
  p10 : P.mt 1 10 = some 53
  p12 : P.mt 1 12 = some 56
theorem OkT.toOkB {P : Pg} (h : OkT P) : OkB P := { tb := h.tb, ln := h.ln.toOkI, g5 := h.g5, f2 := h.f2, f3 := h.f3, p0 := h.p0, p10 := h.p10, p12 := h.p12 }
theorem OkB.toOkB {P : Pg} (h : OkB P) : OkB P := h
structure OkE (P : Pg) : Prop extends OkT P where
  f4 : P.fl 2 4 = true
  f5 : P.fl 2 5 = true
  e0 : P.mt 2 0 = some 100
  e1 : P.mt 2 1 = some 102
  e15 : P.mt 2 15 = some 101
  e16 : P.mt 2 16 = some 103
  e17 : P.mt 2 17 = some 114
  e18 : P.mt 2 18 = some 115
/-- a state of a line -/
structure OkS (ps : List Int) (st : State) : Prop where
  shape : st.map List.length = szs ps
  mono : MonoI (szs ps) st.flatten
theorem OkS.len {ps : List Int} {st : State} (h : OkS ps st) : st.flatten.length = (szs ps).sum := by rw [flatten_length, h.shape]
theorem OkS.n {ps : List Int} {st : State} (h : OkS ps st) : st.length = ps.length + 1 := by
  have := congrArg List.length h.shape
  simpa using this
theorem OkS.split {ps : List Int} {st : State} (h : OkS ps st) : MX.split (szs ps) st.flatten = st := split_flatten h.shape
/-- a plan's lots -/
structure OkPl (ls : Lots) : Prop where
  lo : 1 ≤ ls.length
  hi : ls.length ≤ 12
  name : ∀ p ∈ ls, OkName p.1
  many : ∀ p ∈ ls, 1 ≤ p.2 ∧ p.2 ≤ MAX
/-- the pieces of a round -/
def size (ls : Lots) : Int := (ls.map (·.2)).sum
theorem size_nonneg : ∀ {ls : Lots}, (∀ p ∈ ls, 0 ≤ p.2) → 0 ≤ size ls
  | [], _ => by simp [size]
  | p :: r, h => by
    have := size_nonneg (ls := r) fun q hq => h q (List.mem_cons_of_mem _ hq)
    have := h p List.mem_cons_self
    simp only [size, List.map_cons, List.sum_cons] at *
    omega
theorem size_le : ∀ {ls : Lots}, (∀ p ∈ ls, p.2 ≤ MAX) → size ls ≤ ls.length * MAX
  | [], _ => by simp [size]
  | p :: r, h => by
    have := size_le (ls := r) fun q hq => h q (List.mem_cons_of_mem _ hq)
    have := h p List.mem_cons_self
    simp only [size, List.map_cons, List.sum_cons, List.length_cons, MAX] at *
    omega
theorem size_pos {ls : Lots} (hl : OkPl ls) : 1 ≤ size ls ∧ size ls ≤ 12 * MAX := by
  have a := size_le fun p hp => (hl.many p hp).2
  have b := hl.hi
  refine ⟨?_, by simp only [MAX] at *; omega⟩
  cases ls with
  | nil => have := hl.lo; simp at this
  | cons p r =>
    have := size_nonneg (ls := r) fun q hq => by have := (hl.many q (List.mem_cons_of_mem _ hq)).1; omega
    have := (hl.many p List.mem_cons_self).1
    simp only [size, List.map_cons, List.sum_cons] at *
    omega
section
variable {P : Pg} (h : OkT P) {n : Nat}
include h
end
section
variable {P : Pg} (h : OkB P) {n : Nat}
include h
theorem is_many {i : Int} (h1 : 1 ≤ i) (h2 : i ≤ MAX) : runF P (n + 3) 46 [.fz (.int i)] = .ok (.f (.bl true)) [.fz (.int i)] := by
  refine FOut.get (wp_runF h.tb.is_many rfl ?_)
  walk_at "pv0"
  rw [wSs_cons]
  wp_walk using 1, LN.is_whole h.ln.toOkI h1 h2, h.ln.g0
theorem is_lot {p : Str × Int} (hn : OkName p.1) (h1 : 1 ≤ p.2) (h2 : p.2 ≤ MAX) : runF P (n + 4) 47 [.fz (lotD p)] = .ok (.f (.bl true)) [.fz (lotD p)] := by
  refine FOut.get (wp_runF h.tb.is_lot rfl ?_)
  walk_at "pv0"
  rw [wSs_cons]
  wp_walk using 1, LN.is_name h.ln.toOkI hn, is_many h.toOkB h1 h2
  simp [wK, LIM]
theorem require_lots' {ls : Lots} (hl : OkPl ls) {s : PV.Slot} (e : s = .fz (.lst (lotsD ls)) ∨ s = .ow (.lst (lotsD ls))) : runF P (n + 5) 48 [s, .fz (.int 12)] = .ok (.f .non) [s, .fz (.int 12)] := by
  have a1 : (1 : Int) ≤ ls.length := by have := hl.lo; omega
  have a2 : (ls.length : Int) ≤ 12 := by have := hl.hi; omega
  have key : ∀ s : PV.Slot, s = .fz (.lst (lotsD ls)) ∨ s = .pw (.lst (lotsD ls)) → ∀ s2 s3 : PV.Slot, npw s2 → npw s3 → ∀ K : Kn, (∀ s2 s3, npw s2 → npw s3 → K.nx [s, .fz (.int 12), s2, s3]) →
      wFEs s ⟨runF P (n + 4), P.gl, P.mt, P.fl⟩ (.tp [2, 3]) (.cons (.ifs (.not_ (.call 47 [] (.cons (.var 3) .nil))) (.cons .wall .nil) .nil) .nil) 0 [s, .fz (.int 12), s2, s3] K := fun s e s2 s3 n2 n3 K q => by
    refine wFEs_ix e (by simp only [lotsD, List.length_map, LIM]; omega) (fun i ρ => ∃ s2 s3, ρ = [s, .fz (.int 12), s2, s3] ∧ npw s2 ∧ npw s3) ⟨_, _, rfl, n2, n3⟩ ?_ ?_ ?_
    · rintro k ρ ⟨s2, s3, rfl, -, -⟩
      rfl
    · rintro i hi ρ ⟨s2, s3, rfl, n2, n3⟩
      simp only [lotsD, List.length_map] at hi
      have ym : ls[i] ∈ ls := List.getElem_mem hi
      obtain ⟨y1, y2⟩ := hl.many _ ym
      simp only [lotsD, List.getElem_map]
      wp_walk using 1, n2, n3
      rw [wSs_cons]
      wp_walk using 1, n2, n3, is_lot h.toOkB (hl.name _ ym) y1 y2
      exact ⟨_, _, rfl, trivial, trivial⟩
    · rintro ρ ⟨s2, s3, rfl, n2, n3⟩
      exact q _ _ n2 n3
  refine FOut.get (wp_runF h.tb.require_lots rfl ?_)
  rcases e with rfl | rfl
  · walk_at "pv0"
    rw [wSs_cons]
    wp_walk using 1, a1, a2
    rw [wSs_cons, wS_forE]
    exact key _ (.inl rfl) .no .no trivial trivial _ fun s2 s3 n2 n3 => by walk_at "pv1"
  · walk_at "pv0"
    rw [wSs_cons]
    wp_walk using 1, a1, a2
    rw [wSs_cons, wS_forE]
    exact key _ (.inr rfl) .no .no trivial trivial _ fun s2 s3 n2 n3 => by walk_at "pv1"
theorem require_lots {ls : Lots} (hl : OkPl ls) : runF P (n + 5) 48 [.fz (.lst (lotsD ls)), .fz (.int 12)] = .ok (.f .non) [.fz (.lst (lotsD ls)), .fz (.int 12)] := require_lots' h hl (.inl rfl)
theorem Plan_init' {ls : Lots} {r : Int} (hl : OkPl ls) (r1 : 1 ≤ r) (r2 : r ≤ MAX) {s : PV.Slot} (e : s = .fz (.lst (lotsD ls)) ∨ s = .ow (.lst (lotsD ls))) :
    runF P (n + 6) 50 [.ow (.obj 1 []), s, .fz (.int r)] = .ok (.f .non) [.ow (planD ls r), s, .fz (.int r)] := by
  refine FOut.get (wp_runF h.tb.Plan_init rfl ?_)
  rcases e with rfl | rfl
  · walk_at "pv0"
    rw [wSs_cons]
    wp_walk using 1, h.g5, require_lots' h.toOkB hl (.inl rfl)
    rw [wSs_cons]
    wp_walk using 1, is_many h.toOkB r1 r2
    rw [wSs_cons]
    wp_walk using 1, h.f2
    rw [wSs_cons]
    wp_walk using 1, h.f3
  · walk_at "pv0"
    rw [wSs_cons]
    wp_walk using 1, h.g5, require_lots' h.toOkB hl (.inr rfl)
    rw [wSs_cons]
    wp_walk using 1, is_many h.toOkB r1 r2
    rw [wSs_cons]
    wp_walk using 1, h.f2
    rw [wSs_cons]
    wp_walk using 1, h.f3
theorem Plan_init {ls : Lots} {r : Int} (hl : OkPl ls) (r1 : 1 ≤ r) (r2 : r ≤ MAX) :
    runF P (n + 6) 50 [.ow (.obj 1 []), .fz (.lst (lotsD ls)), .fz (.int r)] = .ok (.f .non) [.ow (planD ls r), .fz (.lst (lotsD ls)), .fz (.int r)] := Plan_init' h hl r1 r2 (.inl rfl)
theorem Plan_pieces {ls : Lots} {r : Int} (hl : OkPl ls) (r1 : 1 ≤ r) (r2 : r ≤ MAX) : runF P (n + 1) 53 [.fz (planD ls r)] = .ok (.f (.int (r * size ls))) [.fz (planD ls r)] := by
  obtain ⟨s1, s2⟩ := size_pos hl
  refine FOut.get (wp_runF h.tb.Plan_pieces rfl ?_)
  walk_at "pv0"
  rw [wSs_cons]
  wp_walk using 1, h.f2, h.f3
  refine wG_mapL (fun p : Str × Int => .int p.2) (fun p hp => ?_) ?_
  · walk_at "pv1"
  · have a := hl.hi
    rw [show ls.map (fun p : Str × Int => D.int p.2) = (ls.map (·.2)).map .int from by simp]
    walk_at "pv1"
    refine ⟨by simp only [LIM]; omega, ?_, rfl⟩
    simp only [MAX] at *
    exact RL.mulOk_of 200 200 (by omega) (by show (size ls).natAbs < _; omega) (by decide) (by decide) (by decide)
end
section
variable {P : Pg} (h : OkT P) {n : Nat}
include h
end
section
variable {P : Pg} (h : OkB P) {n : Nat}
include h
theorem require_piece {ls : Lots} {r k : Int} (hl : OkPl ls) (r1 : 1 ≤ r) (r2 : r ≤ MAX) (k1 : 1 ≤ k) (k2 : k ≤ r * size ls) : runF P (n + 3) 60 [.fz (planD ls r), .fz (.int k)] = .ok (.f .non) [.fz (planD ls r), .fz (.int k)] := by
  refine FOut.get (wp_runF h.tb.require_piece rfl ?_)
  walk_at "pv0"
  rw [wSs_cons]
  wp_walk using 1, h.p10, Plan_pieces h.toOkB hl r1 r2, LN.is_whole h.ln.toOkI k1 k2
end
end TB

set_option Elab.async false
set_option linter.all false
set_option maxRecDepth 100000
set_option maxHeartbeats 1000000
/-! MxD: the moments of a piece. Plain. -/
namespace MX
/-- start, finish, leave of a piece at all stations -/
def moms : Option Int → List (List Int) → List Int → List (Int × Int × Int)
  | p, l :: ls, t :: ts => (frst max 0 p l, frst max 0 p l + t, outD max adI 0 ls t (frst max 0 p l)) :: moms (some (outD max adI 0 ls t (frst max 0 p l))) ls ts
  | _, _, _ => []
end MX

set_option Elab.async false
set_option linter.all false
set_option maxRecDepth 100000
set_option maxHeartbeats 4000000
/-! TbH: single pieces: kinds, parts of a plan, the vector behind some pieces, moments. -/
namespace TB
open PySem
open PV LN MX
open L2 (Key)
/-- the name of the piece q (from 0 on) of some lots -/
def kindAt : Lots → Int → Str
  | [], _ => Str.empty
  | p :: r, q => if q < p.2 then p.1 else kindAt r (q - p.2)
/-- the lots of the first q pieces -/
def begun : Lots → Int → Lots
  | [], _ => []
  | p :: r, q => (if 0 < q then [(p.1, min p.2 q)] else []) ++ begun r (q - p.2)
theorem begun_mem : ∀ {ls : Lots} {q : Int} {p : Str × Int}, p ∈ begun ls q → ∃ m, (p.1, m) ∈ ls ∧ p.2 ≤ m ∧ (1 ≤ m → 1 ≤ p.2)
  | [], _, _, h => by simp [begun] at h
  | a :: r, q, p, h => by
    simp only [begun] at h
    rcases List.mem_append.1 h with h | h
    · split at h
      · rename_i z
        simp only [List.mem_singleton] at h
        subst h
        exact ⟨a.2, List.mem_cons_self, by simp; omega, by simp; omega⟩
      · simp at h
    · obtain ⟨m, h1, h2⟩ := begun_mem h
      exact ⟨m, List.mem_cons_of_mem _ h1, h2⟩
/-- lots walked from a vector -/
def walkL (ps : List Int) (ks : Kinds) (ls : Lots) (v : List Int) : List Int := ls.foldl (fun v p => itr (stI (szs ps) (tmOf ks p.1)) p.2.toNat v) v
/-- the vector behind k pieces -/
def vb (ps : List Int) (ks : Kinds) (ls : Lots) (v : List Int) (k : Int) : List Int := walkL ps ks (begun ls (k % size ls)) (itr (walkL ps ks ls) (k / size ls).toNat v)
section
variable {ps : List Int} {ks : Kinds} {ls : Lots}
theorem OkL.begun (hl : OkL ks (ps.length + 1) ls) {q : Int} : OkL ks (ps.length + 1) (begun ls q) := ⟨fun p hp => by
    obtain ⟨m, h1, _⟩ := begun_mem hp
    exact hl.kind (p.1, m) h1, fun p hp => by
    obtain ⟨m, h1, h2, h3⟩ := begun_mem hp
    have := hl.many _ h1
    exact ⟨h3 this.1, by simp only at this; omega⟩⟩
end
abbrev momD (m : Int × Int × Int) : D := .tup [.int m.1, .int m.2.1, .int m.2.2]
section
variable {P : Pg} (h : OkT P) {n : Nat}
include h
end
end TB

set_option Elab.async false
set_option linter.all false
set_option maxRecDepth 100000
set_option maxHeartbeats 4000000
/-! TbI: the vector behind some pieces, moments. -/
namespace TB
open PySem
open PV LN MX
open L2 (Key)
/-- a line with a plan -/
structure OkLP (ps : List Int) (ks : Kinds) (ls : Lots) (r : Int) : Prop where
  p : OkP ps
  l : OkL ks (ps.length + 1) ls
  pl : OkPl ls
  r1 : 1 ≤ r
  r2 : r ≤ MAX
theorem OkLP.kinds {ps : List Int} {ks : Kinds} {ls : Lots} {r : Int} (o : OkLP ps ks ls r) : ∀ p ∈ ls, ∃ ts, lk ks p.1 = some ts := fun p hp => by
  obtain ⟨ts, e, _⟩ := o.l.kind p hp
  exact ⟨ts, e⟩
section
variable {P : Pg} (h : OkT P) {n : Nat}
include h
end
end TB

set_option Elab.async false
set_option linter.all false
set_option maxRecDepth 100000
set_option maxHeartbeats 4000000
/-! TbJ: kinds of pieces; the defs about moments. -/
namespace TB
open PySem
open PV LN MX
open L2 (Key)
/-- the moments of piece k -/
def momK (ps : List Int) (ks : Kinds) (ls : Lots) (v : List Int) (k : Int) : List (Int × Int × Int) :=
  moms none (split (szs ps) (vb ps ks ls v (k - 1))) (tmOf ks (kindAt ls ((k - 1) % size ls)))
section
variable {P : Pg} (h : OkB P) {n : Nat}
include h
theorem lot_at {ls : Lots} {r k : Int} (hl : OkPl ls) (r1 : 1 ≤ r) (r2 : r ≤ MAX) :
    (runF P (n + 2) 59 [.fz (planD ls r), .fz (.int k)]).wp fun v os => ∃ (t q : Int) (i : Nat) (p : Str × Int), v = .f (.tup [.int t, .int i, .int q]) ∧ os = [.fz (planD ls r), .fz (.int k)] ∧ ls[i]? = some p ∧ p.1 = kindAt ls ((k - 1) % size ls) := by
  obtain ⟨s1, s2⟩ := size_pos hl
  have a := hl.hi
  have er : r * size ls / r = size ls := Int.mul_ediv_cancel_left _ (by omega)
  refine wp_runF h.tb.lot_at rfl ?_
  walk_at "pv0"
  rw [wSs_cons]
  wp_walk using 1, h.p10, h.f3, Plan_pieces h.toOkB hl r1 r2, oq_dvm, er
  refine ⟨⟨by omega, RL.fdvOk (by simp only [MAX] at r2; omega) (by omega)⟩, ⟨by omega, RL.fdvOk (by simp only [MAX] at s2; omega) (by omega)⟩, ?_⟩
  rw [wSs_cons]
  walk_at "pv1"
  rw [wSs_cons]
  walk_at "pv1"
  have m0 := Int.emod_nonneg (k - 1) (b := size ls) (by omega)
  have m1 := Int.emod_lt_of_pos (k - 1) (b := size ls) (by omega)
  refine wWhl_inv (fun m ρ => ∃ (i : Nat) (q : Int), ρ = [.fz (planD ls r), .fz (.int k), .fz (.int ((k - 1) / size ls)), .fz (.int q), .fz (.int i)] ∧ m = ls.length - i ∧ 0 ≤ q ∧ q < size (ls.drop i) ∧ i < ls.length ∧ kindAt (ls.drop i) q = kindAt ls ((k - 1) % size ls)) (m := ls.length - 0)
    ⟨0, _, rfl, rfl, m0, m1, by have := hl.lo; omega, rfl⟩ ?_ (by simp only [TURNS]; omega)
  rintro m ρ ⟨i, q, rfl, rfl, q0, q1, hi, hk⟩
  obtain ⟨pm0, pm1⟩ := hl.many ls[i] (List.getElem_mem hi)
  rw [List.drop_eq_getElem_cons hi] at q1 hk
  wp_walk using 1, h.f2, at_nat, List.getElem?_map, List.getElem?_eq_getElem hi, Option.map_some
  refine ⟨fun e => ?_, fun e => ?_⟩
  · have e : ls[i].2 ≤ q := by simpa using e
    rw [wSs_cons]
    wp_walk using 1, h.f2, at_nat, List.getElem?_map, List.getElem?_eq_getElem hi, Option.map_some
    rw [wSs_cons]
    walk_at "pv1"
    have hi2 : i + 1 < ls.length := by
      by_cases z : i + 1 < ls.length
      · exact z
      · rw [List.drop_eq_nil_of_le (by omega)] at q1
        simp [size] at q1
        omega
    refine ⟨_, by omega, i + 1, q - ls[i].2, rfl, rfl, by omega, ?_, hi2, ?_⟩
    · simp only [size, List.map_cons, List.sum_cons] at q1 ⊢; omega
    · rw [← hk]
      simp only [kindAt]
      rw [if_neg (by omega)]
  · have e : q < ls[i].2 := by
      have : ¬ ls[i].2 ≤ q := by simpa using e
      omega
    rw [wSs_cons]
    walk_at "pv1"
    refine ⟨by simp [LIM], _, q, i, ls[i], rfl, List.getElem?_eq_getElem hi, ?_⟩
    rw [← hk]
    simp only [kindAt]
    rw [if_pos e]
theorem Plan_kind_of {ls : Lots} {r k : Int} (hl : OkPl ls) (r1 : 1 ≤ r) (r2 : r ≤ MAX) (k1 : 1 ≤ k) (k2 : k ≤ r * size ls) :
    runF P (n + 4) 56 [.fz (planD ls r), .fz (.int k)] = .ok (.f (.str (kindAt ls ((k - 1) % size ls)))) [.fz (planD ls r), .fz (.int k)] := by
  refine FOut.get (wp_runF h.tb.Plan_kind_of rfl ?_)
  walk_at "pv0"
  rw [wSs_cons]
  wp_walk using 1, require_piece h.toOkB hl r1 r2 k1 k2
  rw [wSs_cons]
  wp_walk using 1, h.f2
  refine FOut.imp (lot_at h.toOkB hl r1 r2) ?_
  rintro v os ⟨t, q, i, p, rfl, rfl, hi, hk⟩
  wp_walk using 1, at_nat, List.getElem?_map, hi, Option.map_some, hk
end
section
variable {P : Pg} (h : OkT P) {n : Nat}
include h
end
end TB

set_option Elab.async false
set_option linter.all false
set_option maxRecDepth 100000
set_option maxHeartbeats 4000000
/-! Pl: runs of lots, equal plans, plans from behind. -/
namespace PL
open PySem
open PV LN TB
open L2 (Key)
/-- neighbours of one kind put together -/
def runStep (acc : Lots) (p : Str × Int) : Lots := match acc.getLast? with
  | none => acc ++ [p]
  | some q => if q.1 = p.1 then acc.dropLast ++ [(p.1, q.2 + p.2)] else acc ++ [p]
def runs (ls : Lots) : Lots := ls.foldl runStep []
theorem runStep_length (acc : Lots) (p : Str × Int) : (runStep acc p).length ≤ acc.length + 1 := by
  unfold runStep
  split
  · simp
  · split <;> simp
theorem foldl_length : ∀ (ls acc : Lots), (ls.foldl runStep acc).length ≤ acc.length + ls.length
  | [], acc => by simp
  | p :: r, acc => by
    have a := foldl_length r (runStep acc p)
    have b := runStep_length acc p
    rw [List.foldl_cons, List.length_cons]
    omega
theorem runs_length (ls : Lots) : (runs ls).length ≤ ls.length := by
  have := foldl_length ls []
  show (ls.foldl runStep []).length ≤ _
  simpa using this
theorem lotD_inj {p q : Str × Int} (e : lotD p = lotD q) : p = q := by
  simp only [lotD, D.tup.injEq, List.cons.injEq, D.str.injEq, D.int.injEq, and_true] at e
  exact Prod.ext e.1 e.2
theorem lots_inj : ∀ {a b : Lots}, lotsD a = lotsD b → a = b
  | [], [], _ => rfl
  | [], _ :: _, e => by cases e
  | _ :: _, [], e => by cases e
  | p :: a, q :: b, e => by
    simp only [lotsD, List.map_cons, List.cons.injEq] at e
    rw [lotD_inj e.1, lots_inj e.2]
theorem oEq_lots {neg : Bool} {a b : Lots} : oEq neg (.lst (lotsD a)) (.lst (lotsD b)) = some (.f (.bl (neg ^^ decide (a = b)))) := by
  have lk : like 39 (.lst (lotsD a)) (.lst (lotsD b)) := like_lst fun x hx y hy => by
    obtain ⟨p, _, rfl⟩ := List.mem_map.1 hx
    obtain ⟨q, _, rfl⟩ := List.mem_map.1 hy
    refine like_tup fun u hu v hv => ?_
    simp only [List.mem_cons, List.not_mem_nil, or_false] at hu hv
    rcases hu with rfl | rfl <;> rcases hv with rfl | rfl <;> exact ⟨trivial, trivial⟩
  obtain ⟨k, e, i⟩ := oEq_like (neg := neg) lk
  have i : k = true ↔ a = b := i.trans ⟨fun z => lots_inj (D.lst.inj z), fun z => by rw [z]⟩
  rw [e, show k = decide (a = b) from by cases k <;> simp_all]
/-- the pieces of a kind in a round -/
def how (ls : Lots) (x : Str) : Int := (ls.filterMap fun p => if p.1 = x then some p.2 else none).sum
theorem how_bd {x : Str} : ∀ {ls : Lots}, (∀ p ∈ ls, 0 ≤ p.2) → 0 ≤ how ls x ∧ how ls x ≤ size ls
  | [], _ => by simp [how, size]
  | p :: r, h => by
    obtain ⟨a, b⟩ := how_bd (x := x) (ls := r) fun q hq => h q (List.mem_cons_of_mem _ hq)
    have c := h p List.mem_cons_self
    unfold how at *
    rw [List.filterMap_cons]
    simp only [size, List.map_cons, List.sum_cons] at *
    by_cases e : p.1 = x
    · simp only [e, if_true, List.sum_cons]; omega
    · simp only [e, if_false]; omega
theorem rev_ok {ls : Lots} (hl : OkPl ls) : OkPl ls.reverse := ⟨by rw [List.length_reverse]; exact hl.lo, by rw [List.length_reverse]; exact hl.hi, fun p hp => hl.name p (List.mem_reverse.1 hp), fun p hp => hl.many p (List.mem_reverse.1 hp)⟩
theorem rev_size (ls : Lots) : size ls.reverse = size ls := by
  unfold size
  rw [List.map_reverse]
  exact List.sum_reverse _
structure OkQ (P : Pg) : Prop extends OkB P where
  pl : Has P
  p13 : P.mt 1 13 = some 57
  p14 : P.mt 1 14 = some 58
section
variable {P : Pg} (h : OkQ P) {n : Nat}
include h
theorem runs_of {ls : Lots} (hl : ls.length ≤ 1000) : runF P (n + 1) 49 [.fz (.tup (lotsD ls))] = .ok (.n (.lst (lotsD (runs ls)))) [.fz (.tup (lotsD ls))] := by
  refine FOut.get (wp_runF h.tb.runs_of rfl ?_)
  walk_at "pv0"
  rw [wSs_cons]
  walk_at "pv1"
  refine ⟨by simp [LIM], ?_⟩
  rw [wSs_cons]
  walk_at "pv1"
  refine wFor_mapL (fun a r' ρ => ∃ s2 s3, ρ = [.fz (.tup (lotsD ls)), .ow (.lst (lotsD (runs a))), s2, s3] ∧ npw s2 ∧ npw s3) ⟨.no, .no, rfl, trivial, trivial⟩ ?_ ?_
  · rintro a y r' ρ ea ⟨s2, s3, rfl, n2, n3⟩
    have la : a.length ≤ 1000 := by have := congrArg List.length ea; simp at this; omega
    have lr := runs_length a
    have fin : runs (a ++ [y]) = runStep (runs a) y := by unfold runs; rw [List.foldl_append]; rfl
    rw [fin]
    generalize runs a = ac at *
    wp_walk using 1, n2, n3
    rw [wSs_cons]
    rcases List.eq_nil_or_concat ac with rfl | ⟨as, z, rfl⟩
    · walk_at "pv1"
      refine ⟨by simp [LIM], fun e => absurd e (by decide), fun _ => ?_⟩
      rw [wSs_cons]
      walk_at "pv1"
      exact ⟨by simp [LIM], by simp [LIM], _, _, rfl, trivial, trivial⟩
    · rw [List.concat_eq_append]
      wp_walk using 1, at_m1, List.getLast?_map, List.getLast?_concat, Option.map_some
      refine ⟨by simp [LIM], fun _ => ⟨fun e => ?_, fun e => ?_⟩, fun e => absurd e (by simp)⟩
      · rw [wSs_cons]
        wp_walk using 1, at_m1, List.getLast?_map, List.getLast?_concat, Option.map_some
        have e : z.1 = y.1 := by simpa using e
        have e1 : ixOf (as ++ [z]).length (-1) = some as.length := by
          unfold ixOf
          rw [List.length_append, List.length_singleton, if_neg (by omega), if_pos (by omega)]
          congr 1
          omega
        have e2 : (lotsD (as ++ [z])).set as.length (D.tup [D.str y.fst, D.int (z.snd + y.snd)]) = lotsD (runStep (as ++ [z]) y) := by
          simp [runStep, e, lotsD, lotD]
        rw [e1]
        refine ⟨by simp [LIM], ?_⟩
        show ∃ s2 s3, _
        rw [e2]
        exact ⟨_, _, rfl, trivial, trivial⟩
      · rw [wSs_cons]
        walk_at "pv1"
        have e : ¬ z.1 = y.1 := by simpa using e
        rw [List.length_concat] at lr
        have e2 : lotsD (as ++ [z]) ++ [D.tup [D.str y.fst, D.int y.snd]] = lotsD (runStep (as ++ [z]) y) := by
          simp [runStep, e, lotsD, lotD]
        rw [e2]
        exact ⟨by simp [LIM], by simp [LIM]; omega, _, _, rfl, trivial, trivial⟩
  · rintro ρ ⟨s2, s3, rfl, n2, n3⟩
    dsimp only
    rw [wSs_cons]
    walk_at "pv1"
theorem Plan_how_many {ls : Lots} {r : Int} {x : Str} (hl : OkPl ls) (r1 : 1 ≤ r) (r2 : r ≤ MAX) (hx : OkName x) : runF P (n + 2) 57 [.fz (planD ls r), .fz (.str x)] = .ok (.f (.int (r * how ls x))) [.fz (planD ls r), .fz (.str x)] := by
  refine FOut.get (wp_runF h.pl.Plan_how_many rfl ?_)
  walk_at "pv0"
  rw [wSs_cons]
  wp_walk using 1, LN.is_name h.ln.toOkI hx
  rw [wSs_cons]
  wp_walk using 1, h.f2, h.f3
  have l1 := hl.hi
  refine wG_filterL (fun p : Str × Int => if p.1 = x then some (.int p.2) else none) (fun p hp => ?_) ?_
  · walk_at "pv1"
    refine ⟨fun e => ?_, fun e => ?_⟩
    · have e : p.1 = x := by simpa using e
      simp [e]
    · have e : ¬ p.1 = x := by simpa using e
      simp [e]
  · have ef : ls.filterMap (fun p : Str × Int => if p.1 = x then some (D.int p.2) else none) = (ls.filterMap fun p => if p.1 = x then some p.2 else none).map D.int := by
      rw [List.map_filterMap]
      congr 1
      funext p
      split <;> rfl
    rw [ef]
    have len := List.length_filterMap_le (fun p : Str × Int => if p.1 = x then some p.2 else none) ls
    obtain ⟨b1, b2⟩ := how_bd (x := x) (ls := ls) fun p hp => by have := (hl.many p hp).1; omega
    obtain ⟨s1, s2⟩ := size_pos hl
    walk_at "pv1"
    refine ⟨by simp only [LIM]; omega, ?_, rfl⟩
    simp only [MAX] at *
    exact RL.mulOk_of 200 200 (by omega) (by show (how ls x).natAbs < _; omega) (by decide) (by decide) (by decide)
theorem Plan_backwards {ls : Lots} {r : Int} (hl : OkPl ls) (r1 : 1 ≤ r) (r2 : r ≤ MAX) : runF P (n + 7) 58 [.fz (planD ls r)] = .ok (.n (planD ls.reverse r)) [.fz (planD ls r)] := by
  refine FOut.get (wp_runF h.pl.Plan_backwards rfl ?_)
  walk_at "pv0"
  rw [wSs_cons]
  have pi := Plan_init h.toOkB (n := n) (rev_ok hl) r1 r2
  wp_walk using 1, h.f2, h.f3, h.p0, rev_map_, pi
end
end PL

set_option Elab.async false
set_option linter.all false
set_option maxRecDepth 100000
set_option maxHeartbeats 1000000
/-! Wd: words. Two words have equal powers of one length if and only if they can be exchanged; runs tell the word. -/
namespace WD
open PySem
open PV LN TB PL
section
variable {α : Type}
def pw (u : List α) (n : Nat) : List α := (List.replicate n u).flatten
theorem pw_zero (u : List α) : pw u 0 = [] := rfl
theorem pw_succ (u : List α) (n : Nat) : pw u (n + 1) = u ++ pw u n := by simp [pw, List.replicate_succ]
theorem pw_len (u : List α) : ∀ n, (pw u n).length = n * u.length
  | 0 => by simp [pw]
  | n + 1 => by rw [pw_succ, List.length_append, pw_len u n, Nat.succ_mul, Nat.add_comm]
/-- what can be exchanged with a word can be with its powers -/
theorem pw_comm {u v : List α} (h : u ++ v = v ++ u) : ∀ n, u ++ pw v n = pw v n ++ u
  | 0 => by simp [pw]
  | n + 1 => by rw [pw_succ, ← List.append_assoc, h, List.append_assoc, pw_comm h n, List.append_assoc]
theorem pw_self (u : List α) (n : Nat) : u ++ pw u n = pw u n ++ u := pw_comm rfl n
end
/-! ### lots -/
def exL : Lots → List Str
  | [] => []
  | p :: r => List.replicate p.2.toNat p.1 ++ exL r
theorem exL_app : ∀ (a b : Lots), exL (a ++ b) = exL a ++ exL b
  | [], b => rfl
  | p :: a, b => by rw [List.cons_append, exL, exL, exL_app a b, List.append_assoc]
theorem exL_one (p : Str × Int) : exL [p] = List.replicate p.2.toNat p.1 := by simp [exL]
theorem exL_len : ∀ {ls : Lots}, (∀ p ∈ ls, 1 ≤ p.2) → ((exL ls).length : Int) = size ls
  | [], _ => rfl
  | p :: r, h => by
    have a := h p (by simp)
    have b := exL_len (ls := r) fun q hq => h q (by simp [hq])
    simp only [exL, size, List.length_append, List.length_replicate, List.map_cons, List.sum_cons] at *
    omega
/-- many ones, told together -/
def Canon : Lots → Prop
  | [] => True
  | [p] => 1 ≤ p.2
  | p :: q :: r => 1 ≤ p.2 ∧ p.1 ≠ q.1 ∧ Canon (q :: r)
theorem Canon.tail {p : Str × Int} {r : Lots} (h : Canon (p :: r)) : 1 ≤ p.2 ∧ Canon r ∧ ∀ q, r.head? = some q → p.1 ≠ q.1 := by
  cases r with
  | nil => exact ⟨h, trivial, fun q e => by cases e⟩
  | cons q r => exact ⟨h.1, h.2.2, fun q' e => by cases e; exact h.2.1⟩
end WD

set_option Elab.async false
set_option linter.all false
set_option maxRecDepth 100000
set_option maxHeartbeats 1000000
/-! Rp: what repr shows is short. -/
namespace PV
open PySem
open L2 (Key)
/-- d can be shown: nesting at most n, weight at most w -/
def Rp (n w : Nat) (d : D) : Prop := ∃ p, pyD d = some p ∧ p.showable = true ∧ p.depth ≤ n ∧ p.leavesShort 100 = true ∧ p.weight ≤ w
theorem Rp.mono {n m w v : Nat} {d : D} (h : Rp n w d) (a : n ≤ m) (b : w ≤ v) : Rp m v d := let ⟨p, e, s, q, l, k⟩ := h; ⟨p, e, s, Nat.le_trans q a, l, Nat.le_trans k b⟩
theorem Rp.repr {n w : Nat} {d : D} (h : Rp n w d) (a : n ≤ 60) (b : w ≤ 150000) : ∃ s, oRepr d = some (.f (.str s)) := by
  obtain ⟨p, e, s, q, l, k⟩ := h
  refine ⟨p.shown, ?_⟩
  have z := PyData.shown_le 100 (by decide) p l
  unfold oRepr
  rw [e, Option.bind_some, if_pos ⟨s, by omega, by simp only [LIM]; omega⟩]
  rfl
theorem Rp.non : Rp 0 0 .non := ⟨.none, rfl, rfl, Nat.le_refl _, rfl, Nat.le_refl _⟩
theorem Rp.bl {b : Bool} : Rp 0 0 (.bl b) := ⟨.bool b, rfl, rfl, Nat.le_refl _, rfl, Nat.le_refl _⟩
theorem Rp.int {i : Int} (h : i.natAbs < 10 ^ 99) : Rp 0 330 (.int i) := by
  have lg : i.natAbs.log2 < 329 := by
    by_cases z : i.natAbs = 0
    · rw [z]; decide
    · rw [Nat.log2_lt z]
      exact Nat.lt_of_lt_of_le h (by decide)
  refine ⟨.int i, rfl, ?_, Nat.le_refl _, ?_, ?_⟩
  · show decide _ = true
    exact decide_eq_true (by omega)
  · have := int_text_length_le10 (k := 99) (by decide) h
    show decide ((Str.ofString (toString i)).length ≤ 100) = true
    rw [ofString_length]
    exact decide_eq_true (by omega)
  · show (if i == 0 then 0 else i.natAbs.log2 + 1) ≤ 330
    split <;> omega
theorem Rp.int_of {i : Int} (a : -(10 ^ 98) ≤ i) (b : i ≤ 10 ^ 98) : Rp 0 330 (.int i) := .int (by omega)
theorem Rp.str {x : Str} {w : Nat} (h : ∀ c ∈ x.cps.toList, c < 4294967296) (l : x.length ≤ w) : Rp 0 w (.str x) := by
  refine ⟨.str x, rfl, rfl, Nat.le_refl _, ?_, l⟩
  show (x.cps.toList.all fun c => decide (c < 16 ^ 8)) = true
  rw [List.all_eq_true]
  exact fun c hc => decide_eq_true (h c hc)
theorem Rp.list {n w : Nat} : ∀ {ds : List D}, (∀ d ∈ ds, Rp n w d) → ∃ ps, pyDs ds = some ps ∧ PyData.showableAll ps = true ∧ PyData.depthAll ps ≤ n ∧ PyData.leavesShortAll 100 ps = true ∧ PyData.weightAll ps ≤ ds.length * (w + 1)
  | [], _ => ⟨[], rfl, rfl, Nat.zero_le _, rfl, Nat.zero_le _⟩
  | d :: r, h => by
    obtain ⟨p, e, s, q, l, k⟩ := h d (by simp)
    obtain ⟨ps, e2, s2, q2, l2, k2⟩ := Rp.list (ds := r) fun x hx => h x (by simp [hx])
    refine ⟨p :: ps, ?_, ?_, ?_, ?_, ?_⟩
    · simp only [pyDs, e, e2, Option.bind_some, Option.map_some]
    · simp only [PyData.showableAll, s, s2, Bool.and_self]
    · simp only [PyData.depthAll]; omega
    · simp only [PyData.leavesShortAll, l, l2, Bool.and_self]
    · simp only [PyData.weightAll, List.length_cons, Nat.succ_mul]; omega
theorem Rp.lst {n w : Nat} {ds : List D} (h : ∀ d ∈ ds, Rp n w d) : Rp (n + 1) (ds.length * (w + 1)) (.lst ds) := by
  obtain ⟨ps, e, s, q, l, k⟩ := Rp.list h
  refine ⟨.list ps, by simp only [pyD, e, Option.map_some], ?_, ?_, ?_, ?_⟩
  · simpa only [PyData.showable] using s
  · simp only [PyData.depth]; omega
  · simpa only [PyData.leavesShort] using l
  · simpa only [PyData.weight] using k
theorem Rp.tup {n w : Nat} {ds : List D} (h : ∀ d ∈ ds, Rp n w d) : Rp (n + 1) (ds.length * (w + 1)) (.tup ds) := by
  obtain ⟨ps, e, s, q, l, k⟩ := Rp.list h
  refine ⟨.tuple ps, by simp only [pyD, e, Option.map_some], ?_, ?_, ?_, ?_⟩
  · simpa only [PyData.showable] using s
  · simp only [PyData.depth]; omega
  · simpa only [PyData.leavesShort] using l
  · simpa only [PyData.weight] using k
theorem Rp.keys {n w : Nat} : ∀ {ds : List (Key × D)}, (∀ p ∈ ds, Rp n w (keyD p.1) ∧ Rp n w p.2) → ∃ ps, pyKs ds = some ps ∧ PyData.showableKv ps = true ∧ PyData.depthKv ps ≤ n ∧ PyData.leavesShortKv 100 ps = true ∧ PyData.weightKv ps ≤ ds.length * (2 * w + 2)
  | [], _ => ⟨[], rfl, rfl, Nat.zero_le _, rfl, Nat.zero_le _⟩
  | (j, d) :: r, h => by
    obtain ⟨⟨p0, e0, s0, q0, l0, k0⟩, ⟨p, e, s, q, l, k⟩⟩ := h (j, d) (by simp)
    have : p0 = keyP j := by cases j <;> (simp only [keyD, pyD] at e0; cases e0; rfl)
    subst this
    obtain ⟨ps, e2, s2, q2, l2, k2⟩ := Rp.keys (ds := r) fun x hx => h x (by simp [hx])
    refine ⟨(keyP j, p) :: ps, ?_, ?_, ?_, ?_, ?_⟩
    · simp only [pyKs, e, e2, Option.bind_some, Option.map_some]
    · simp only [PyData.showableKv, s0, s, s2, Bool.and_self]
    · simp only [PyData.depthKv]; omega
    · simp only [PyData.leavesShortKv, l0, l, l2, Bool.and_self]
    · have z : ((j, d) :: r).length * (2 * w + 2) = r.length * (2 * w + 2) + (2 * w + 2) := by rw [List.length_cons, Nat.succ_mul]
      rw [z]
      simp only [PyData.weightKv]; omega
theorem Rp.dct {n w : Nat} {ds : List (Key × D)} (h : ∀ p ∈ ds, Rp n w (keyD p.1) ∧ Rp n w p.2) : Rp (n + 1) (ds.length * (2 * w + 2)) (.dct ds) := by
  obtain ⟨ps, e, s, q, l, k⟩ := Rp.keys h
  refine ⟨.dict ps, by simp only [pyD, e, Option.map_some], ?_, ?_, ?_, ?_⟩
  · simpa only [PyData.showable] using s
  · simp only [PyData.depth]; omega
  · simpa only [PyData.leavesShort] using l
  · simpa only [PyData.weight] using k
theorem Rp.ints {xs : List Int} {m : Nat} (h : ∀ x ∈ xs, x.natAbs < 10 ^ 99) (l : xs.length ≤ m) : Rp 1 (m * 331) (.lst (xs.map .int)) := by
  have := Rp.lst (n := 0) (w := 330) (ds := xs.map .int) fun d hd => by
    obtain ⟨x, hx, rfl⟩ := List.mem_map.1 hd
    exact .int (h x hx)
  rw [List.length_map] at this
  exact this.mono (Nat.le_refl _) (Nat.mul_le_mul_right _ l)
end PV

set_option Elab.async false
set_option linter.all false
set_option maxRecDepth 100000
set_option maxHeartbeats 4000000
namespace L05
open PySem
open PV LN TB PL BG WD
open L2 (Key)
theorem ln : LN.OkI Pr := { toHas := by constructor <;> rfl, g0 := rfl, g1 := rfl, g2 := rfl, g3 := rfl, g4 := rfl, m0 := rfl, m2 := rfl, m3 := rfl }
theorem tk : TB.OkB Pr := { tb := by constructor <;> rfl, ln := ln, g5 := rfl, f2 := rfl, f3 := rfl, p0 := rfl, p10 := rfl, p12 := rfl }
theorem qk : PL.OkQ Pr := { toOkB := tk, pl := by constructor <;> rfl, p13 := rfl, p14 := rfl }
theorem bg : BG.Has Pr := by constructor <;> rfl
theorem size_app (a b : Lots) : size (a ++ b) = size a + size b := by simp [size]
theorem size_cons (p : Str × Int) (a : Lots) : size (p :: a) = p.2 + size a := by simp [size]
/-- a row of the law: lots and rounds; at most T pieces -/
structure Row (T : Int) (q : Lots × Int) : Prop where
  lo : 1 ≤ q.1.length
  hi : q.1.length ≤ 12
  name : ∀ p ∈ q.1, OkName p.1
  pos : ∀ p ∈ q.1, 1 ≤ p.2
  r1 : 1 ≤ q.2
  tot : q.2 * size q.1 ≤ T
theorem each_le {ls : Lots} (h : ∀ p ∈ ls, 1 ≤ p.2) : ∀ p ∈ ls, p.2 ≤ size ls := by
  induction ls with
  | nil => intro p hp; cases hp
  | cons q r ih =>
    intro p hp
    have a := h q (by simp)
    have b := size_nonneg (ls := r) fun z hz => by have := h z (by simp [hz]); omega
    rw [size_cons]
    rcases List.mem_cons.1 hp with rfl | hp
    · omega
    · have := ih (fun z hz => h z (by simp [hz])) p hp
      omega
theorem len_le {ls : Lots} (h : ∀ p ∈ ls, 1 ≤ p.2) : (ls.length : Int) ≤ size ls := by
  induction ls with
  | nil => simp [size]
  | cons q r ih =>
    have a := h q (by simp)
    have := ih fun z hz => h z (by simp [hz])
    rw [size_cons, List.length_cons]
    omega
theorem Row.s1 {T : Int} {q : Lots × Int} (h : Row T q) : 1 ≤ size q.1 := by
  have := len_le h.pos
  have := h.lo
  omega
theorem Row.sT {T : Int} {q : Lots × Int} (h : Row T q) : size q.1 ≤ T ∧ q.2 ≤ T := by
  have a := h.s1
  have b := h.r1
  have c := h.tot
  have d : size q.1 ≤ q.2 * size q.1 := by
    have := Int.mul_le_mul_of_nonneg_right b (show 0 ≤ size q.1 by omega)
    omega
  have e : q.2 ≤ q.2 * size q.1 := by
    have := Int.mul_le_mul_of_nonneg_left a (show 0 ≤ q.2 by omega)
    omega
  omega
theorem Row.ok {T : Int} {q : Lots × Int} (h : Row T q) (hT : T ≤ 100000) : OkPl q.1 ∧ q.2 ≤ MAX := by
  have := h.sT
  refine ⟨⟨h.lo, h.hi, h.name, fun p hp => ⟨h.pos p hp, ?_⟩⟩, by simp only [MAX]; omega⟩
  have := each_le h.pos p hp
  simp only [MAX]
  omega
theorem Row.mono {T S : Int} {q : Lots × Int} (h : Row T q) (l : T ≤ S) : Row S q := ⟨h.lo, h.hi, h.name, h.pos, h.r1, Int.le_trans h.tot l⟩
section
variable {n : Nat}
theorem lots {B : Nat} {d : D} {xs : List Str} {m w : Int} (hr : Bag B d) (hB : B + 1000 < BG.LIMB) (x1 : 1 ≤ xs.length) (x5 : xs.length ≤ 5) (ok : ∀ x ∈ xs, OkName x) (m1 : 1 ≤ m) (m12 : m ≤ 12) (w1 : 1 ≤ w) (w4 : w ≤ 5) :
    (runF Pr (n + 2) 64 [.ow d, .fz (.lst (xs.map .str)), .fz (.int m), .fz (.int w)]).wp fun v os => ∃ (ls : Lots) (d' : D), v = .n (.lst (lotsD ls)) ∧ os = [.ow d', .fz (.lst (xs.map .str)), .fz (.int m), .fz (.int w)] ∧ 1 ≤ ls.length ∧ (ls.length : Int) ≤ m ∧ (∀ p ∈ ls, OkName p.1 ∧ 1 ≤ p.2 ∧ p.2 ≤ w) ∧ Bag (B + 40) d' := by
  refine wp_runF (bd := c_law_lots) (np := 4) (nl := 6) rfl rfl ?_
  walk_at "pv0"
  rw [wSs_cons]
  wp_walk using 1, sortD_strs (xs := xs) (by omega), Option.map_some
  have ly : (sortStr xs).length = xs.length := (sortStr_perm xs).length_eq
  have my : ∀ y ∈ sortStr xs, OkName y := fun y hy => ok y ((sortStr_perm xs).mem_iff.1 hy)
  generalize sortStr xs = ys at *
  rw [wSs_cons]
  walk_at "pv1"
  refine FOut.imp (pick bg hr (by omega) (by omega) (by omega)) ?_
  rintro v os ⟨q, d1, rfl, rfl, q0, q1, hr1⟩
  walk_at "pv1"
  refine ⟨by unfold small; exact decide_eq_true (by omega), ?_⟩
  refine wG_inv (fun rest acc ρ => ∃ (ls : Lots) (d2 : D), acc = lotsD ls ∧ ρ = [.pw d2, .fz (.lst (xs.map .str)), .fz (.int m), .fz (.int w), .fz (.lst (ys.map .str)), .no] ∧ ls.length + rest.length = (1 + q).toNat ∧ (∀ p ∈ ls, OkName p.1 ∧ 1 ≤ p.2 ∧ p.2 ≤ w) ∧ Bag (B + 1 + 2 * ls.length) d2) ⟨[], d1, rfl, rfl, by simp [mapRange], fun p hp => (by cases hp), hr1.mono (by simp)⟩ ?_ ?_
  · rintro y rest acc ρ ⟨ls, d2, rfl, rfl, e1, e2, hr2⟩
    simp only [List.length_cons] at e1
    walk_at "pv1"
    refine FOut.imp (pick bg hr2 (by omega) (by omega) (by omega)) ?_
    rintro v os ⟨z, d3, rfl, rfl, b0, b1, hr3⟩
    obtain ⟨k, rfl⟩ : ∃ k : Nat, z = k := ⟨z.toNat, by omega⟩
    have hk : k < ys.length := by omega
    wp_walk using 1, at_nat, List.getElem?_map, List.getElem?_eq_getElem hk, Option.map_some
    refine FOut.imp (pick bg hr3 (by omega) (by omega) (by omega)) ?_
    rintro v os ⟨z, d4, rfl, rfl, c0, c1, hr4⟩
    walk_at "pv1"
    refine ⟨by simp [LIM], ls ++ [(ys[k], 1 + z)], d4, by simp [lotsD], rfl, by simp; omega, ?_, hr4.mono (by simp; omega)⟩
    intro p hp
    rcases List.mem_append.1 hp with hp | hp
    · exact e2 p hp
    · rw [List.mem_singleton.1 hp]; exact ⟨my _ (List.getElem_mem hk), by simp only; omega, by simp only; omega⟩
  rintro acc ρ ⟨ls, d2, rfl, rfl, e1, e2, hr2⟩
  have e1 : ls.length = (1 + q).toNat := by simpa using e1
  walk_at "pv1"
  exact ⟨by simp only [LIM]; omega, ls, d2, rfl, rfl, by omega, by omega, e2, hr2.mono (by omega)⟩
theorem pieces {T : Int} {ls : Lots} {r : Int} (h : Row T (ls, r)) (hT : T ≤ 100000) : runF Pr (n + 1) 65 [.fz (.lst (lotsD ls)), .fz (.int r)] = .ok (.n (.lst ((pw (exL ls) r.toNat).map .str))) [.fz (.lst (lotsD ls)), .fz (.int r)] := by
  have sT := h.sT
  have tot := h.tot
  have s1 := h.s1
  have r1 := h.r1
  simp only at sT tot s1 r1
  refine FOut.get (wp_runF (bd := c_law_pieces) (np := 2) (nl := 5) rfl rfl ?_)
  walk_at "pv0"
  rw [wSs_cons]
  walk_at "pv1"
  refine ⟨by simp [LIM], ?_⟩
  rw [wSs_cons]
  walk_at "pv1"
  refine wFor_mapL (fun a r' ρ => ∃ s3 s4, ρ = [.fz (.lst (lotsD ls)), .fz (.int r), .ow (.lst ((exL a).map .str)), s3, s4] ∧ npw s3 ∧ npw s4) ⟨.no, .no, rfl, trivial, trivial⟩ ?_ ?_
  · rintro a y r' ρ ea ⟨s3, s4, rfl, n3, n4⟩
    have pos : ∀ p ∈ ls, 1 ≤ p.2 := h.pos
    have py := pos y (by rw [← ea]; simp)
    have sz : size a + y.2 + size r' = size ls := by rw [← ea, size_app, size_cons]; omega
    have sa : ((exL a).length : Int) = size a := exL_len fun p hp => pos p (by rw [← ea]; simp [hp])
    have sr : 0 ≤ size r' := size_nonneg fun p hp => by have := pos p (by rw [← ea]; simp [hp]); omega
    wp_walk using 1, n3, n4
    rw [wSs_cons]
    wp_walk using 1, n3, n4
    refine ⟨by simp [LIM], ⟨by simp only [LIM]; omega, by unfold small; exact decide_eq_true (by omega)⟩, by simp [LIM]; omega, ?_⟩
    have e : (exL a).map D.str ++ (List.replicate y.2.toNat [D.str y.1]).flatten = (exL (a ++ [y])).map D.str := by
      rw [exL_app, exL_one, List.map_append, List.map_replicate, List.flatten_replicate_singleton]
    rw [e]
    exact ⟨_, _, rfl, trivial, trivial⟩
  · rintro ρ ⟨s3, s4, rfl, n3, n4⟩
    dsimp only
    have sl : ((exL ls).length : Int) = size ls := exL_len h.pos
    have bd : (exL ls).length * r.toNat ≤ LIM := by
      have e : ((exL ls).length * r.toNat : Nat) = ((r * size ls).toNat) := by
        have : (((exL ls).length * r.toNat : Nat) : Int) = r * size ls := by
          rw [Int.natCast_mul, sl, Int.toNat_of_nonneg (by omega), Int.mul_comm]
        omega
      rw [e]
      simp only [LIM]
      omega
    rw [wSs_cons]
    wp_walk using 1, n3, n4
    refine ⟨⟨bd, by unfold small; exact decide_eq_true (by omega)⟩, ?_⟩
    unfold pw
    rw [List.map_flatten, List.map_replicate]
end
end L05

set_option Elab.async false
set_option linter.all false
set_option maxRecDepth 100000
set_option maxHeartbeats 4000000
namespace L05
open PySem
open PV LN TB PL BG WD
open L2 (Key)
theorem name_lt {s : Str} (h : OkName s) : ∀ c ∈ s.cps.toList, c < 4294967296 := fun c hc => by
  have := h.az c hc
  exact (show ∀ c ∈ ("abcdefghijklmnopqrstuvwxyz" : Str).cps.toList, c < 4294967296 by decide) c this
/-! ### the pieces one by one -/
theorem exL_at : ∀ {ls : Lots} {q : Int}, (∀ p ∈ ls, 1 ≤ p.2) → 0 ≤ q → q < size ls → (exL ls)[q.toNat]? = some (kindAt ls q)
  | [], q, _, h0, h1 => by simp [size] at h1; omega
  | p :: r, q, hp, h0, h1 => by
    have p1 := hp p List.mem_cons_self
    rw [size_cons] at h1
    unfold kindAt exL
    by_cases c : q < p.2
    · rw [if_pos c, List.getElem?_append_left (by rw [List.length_replicate]; omega), List.getElem?_replicate, if_pos (by omega)]
    · rw [if_neg c, List.getElem?_append_right (by rw [List.length_replicate]; omega), List.length_replicate]
      have ih := exL_at (ls := r) (q := q - p.2) (fun z hz => hp z (List.mem_cons_of_mem _ hz)) (by omega) (by omega)
      rw [show q.toNat - p.2.toNat = (q - p.2).toNat from by omega]
      exact ih
theorem pw_at {α : Type} {u : List α} (h : u ≠ []) : ∀ {n i : Nat}, i < n * u.length → (pw u n)[i]? = u[i % u.length]?
  | 0, i, hi => by omega
  | n + 1, i, hi => by
    have l0 := List.length_pos_iff.2 h
    rw [pw_succ]
    by_cases c : i < u.length
    · rw [List.getElem?_append_left c, Nat.mod_eq_of_lt c]
    · rw [List.getElem?_append_right (by omega), pw_at h (by rw [Nat.succ_mul] at hi; omega)]
      rw [Nat.mod_eq_sub_mod (show i ≥ u.length by omega)]
theorem pw_mem {α : Type} {u : List α} {n : Nat} (n1 : 1 ≤ n) {x : α} : x ∈ pw u n ↔ x ∈ u := by
  obtain ⟨k, rfl⟩ : ∃ k, n = k + 1 := ⟨n - 1, by omega⟩
  unfold pw
  constructor
  · intro h
    obtain ⟨l, hl, hx⟩ := List.mem_flatten.1 h
    rw [List.eq_of_mem_replicate hl] at hx
    exact hx
  · intro h
    exact List.mem_flatten.2 ⟨u, by simp, h⟩
theorem exL_mem : ∀ {ls : Lots} {x : Str}, (∀ p ∈ ls, 1 ≤ p.2) → (x ∈ exL ls ↔ x ∈ ls.map (·.1))
  | [], x, _ => by simp [exL]
  | p :: r, x, hp => by
    have p1 := hp p List.mem_cons_self
    unfold exL
    rw [List.mem_append, List.map_cons, List.mem_cons, exL_mem fun z hz => hp z (List.mem_cons_of_mem _ hz), List.mem_replicate]
    constructor
    · rintro (h | h)
      · exact .inl h.2
      · exact .inr h
    · rintro (h | h)
      · exact .inl ⟨by omega, h⟩
      · exact .inr h
theorem exL_cnt {x : Str} : ∀ {ls : Lots}, (∀ p ∈ ls, 1 ≤ p.2) → (((exL ls).filter fun y => y == x).length : Int) = how ls x
  | [], _ => rfl
  | p :: r, hp => by
    have p1 := hp p List.mem_cons_self
    have ih := exL_cnt (x := x) (ls := r) fun z hz => hp z (List.mem_cons_of_mem _ hz)
    unfold exL
    rw [List.filter_append, List.length_append]
    unfold how at *
    rw [List.filterMap_cons]
    by_cases e : p.1 = x
    · simp only [e, if_true, List.sum_cons]
      rw [← ih, List.filter_replicate, if_pos (by simp [e]), List.length_replicate]
      omega
    · simp only [e, if_false]
      rw [← ih, List.filter_replicate, if_neg (by simpa using e)]
      simp
theorem pw_cnt {x : Str} {u : List Str} : ∀ {n : Nat}, ((pw u n).filter fun y => y == x).length = n * (u.filter fun y => y == x).length
  | 0 => by simp [pw_zero]
  | n + 1 => by rw [pw_succ, List.filter_append, List.length_append, pw_cnt, Nat.succ_mul, Nat.add_comm]
theorem exL_rev : ∀ {ls : Lots}, exL ls.reverse = (exL ls).reverse
  | [] => rfl
  | p :: r => by
    rw [List.reverse_cons, exL_app, exL_rev, exL_one]
    conv => rhs; unfold exL
    rw [List.reverse_append, List.reverse_replicate]
theorem pw_rev {α : Type} {u : List α} : ∀ {n : Nat}, (pw u n).reverse = pw u.reverse n
  | 0 => rfl
  | n + 1 => by
    rw [pw_succ, List.reverse_append, pw_rev, pw_succ, pw_self]
theorem dedup_mem : ∀ {ys : List Str} {x : Str}, x ∈ dedup ys ↔ x ∈ ys := PV.dedup_mem
theorem dedup_perm {a b : List Str} (h : ∀ x, x ∈ a ↔ x ∈ b) : (dedup a).Perm (dedup b) :=
  (List.perm_ext_iff_of_nodup PV.dedup_nodup PV.dedup_nodup).2 fun x => by rw [PV.dedup_mem, PV.dedup_mem]; exact h x
theorem dedup_len : ∀ {a : List Str}, (dedup a).length ≤ a.length
  | [] => Nat.le_refl _
  | x :: r => by
    have := dedup_len (a := r)
    unfold dedup
    split
    · simp only [List.length_cons]; omega
    · simp only [List.length_cons]; omega
/-- the names, ascending -/
def nms (ls : Lots) : List Str := sortStr (dedup (ls.map (·.1)))
theorem sort_of_perm {a b : List Str} (h : a.Perm b) : sortStr a = sortStr b :=
  List.Perm.eq_of_pairwise (fun _ _ _ _ a b => SLe.anti a b) (sortStr_rises a) (sortStr_rises b) (((sortStr_perm a).trans h).trans (sortStr_perm b).symm)
theorem sset_of {ys : List Str} {ls : Lots} (h : ∀ x, x ∈ ys ↔ x ∈ ls.map (·.1)) (l : ls.length ≤ 12) (y : ys.length ≤ 4000) : opD .sset [.lst (ys.map .str)] = some (.n (.lst ((nms ls).map .str))) := by
  have p := dedup_perm h
  have dl := dedup_len (a := ls.map (·.1))
  rw [List.length_map] at dl
  show ((strsOf (ys.map D.str)).bind fun ys => if ys.length ≤ 4000 ∧ (dedup ys).length < 64 then nD (.lst ((sortStr (dedup ys)).map .str)) else none) = _
  rw [strsOf_map]
  simp only [Option.bind_some]
  rw [if_pos ⟨y, by rw [p.length_eq]; omega⟩, sort_of_perm p]
  rfl
theorem oCount_strs {ys : List Str} {x : Str} : oCount (.lst (ys.map .str)) (.str x) = some (.f (.int ((ys.filter fun y => y == x).length : Nat))) := by
  show ((strsOf (ys.map D.str)).bind fun zs => fD (.int ((zs.filter fun z => z == x).length : Nat))) = _
  rw [strsOf_map]
  rfl
theorem mapRange_zero {m : Nat} : mapRange 0 m = (List.range m).map fun x : Nat => D.int (x : Int) := by simp [mapRange]
section
variable {n : Nat}
theorem Plan_lots {ls : Lots} {r : Int} (hl : ls.length ≤ 12) : runF Pr (n + 1) 51 [.fz (planD ls r)] = .ok (.n (.lst (lotsD ls))) [.fz (planD ls r)] := by
  refine FOut.get (wp_runF (bd := c_Plan_lots) (np := 1) (nl := 1) rfl rfl ?_)
  walk_at "pv0"
  rw [wSs_cons]
  wp_walk using 1, tk.f2
theorem Plan_rounds {ls : Lots} {r : Int} : runF Pr (n + 1) 52 [.fz (planD ls r)] = .ok (.f (.int r)) [.fz (planD ls r)] := by
  refine FOut.get (wp_runF (bd := c_Plan_rounds) (np := 1) (nl := 1) rfl rfl ?_)
  walk_at "pv0"
  rw [wSs_cons]
  wp_walk using 1, tk.f3
theorem Plan_names {ls : Lots} {r : Int} (hl : ls.length ≤ 12) : runF Pr (n + 1) 54 [.fz (planD ls r)] = .ok (.n (.lst ((nms ls).map .str))) [.fz (planD ls r)] := by
  have ss := sset_of (ys := ls.map (·.1)) (ls := ls) (fun _ => Iff.rfl) hl (by simp; omega)
  refine FOut.get (wp_runF (bd := c_Plan_names) (np := 1) (nl := 3) rfl rfl ?_)
  walk_at "pv0"
  rw [wSs_cons]
  wp_walk using 1, tk.f2
  refine wG_mapL (fun p : Str × Int => .str p.1) (fun p hp => ?_) ?_
  · walk_at "pv1"
  · rw [show ls.map (fun p : Str × Int => D.str p.1) = (ls.map (·.1)).map D.str from by simp]
    wp_walk using 1, ss
    simp only [LIM]
    omega
theorem told_right {ls : Lots} {r : Int} (h : Row 240 (ls, r)) : runF Pr (n + 2) 67 [.fz (planD ls r), .fz (.lst (lotsD ls)), .fz (.int r)] = .ok (.f (.bl true)) [.fz (planD ls r), .fz (.lst (lotsD ls)), .fz (.int r)] := by
  have hi : ls.length ≤ 12 := h.hi
  obtain ⟨ok, rM⟩ := h.ok (by decide)
  have tot : r * size ls ≤ 240 := h.tot
  have r1 : 1 ≤ r := h.r1
  have pos : ∀ p ∈ ls, 1 ≤ p.2 := h.pos
  have s1 : 1 ≤ size ls := h.s1
  obtain ⟨t, er⟩ : ∃ t, oRepr (.lst [.lst (lotsD ls), .int r]) = some (.f (.str t)) := by
    have a1 : ∀ p ∈ ls, Rp 1 662 (lotD p) := fun p hp => by
      have nm := ok.name p hp
      have mm := ok.many p hp
      refine Rp.tup (n := 0) (w := 330) (ds := [.str p.1, .int p.2]) fun d hd => ?_
      simp only [List.mem_cons, List.not_mem_nil, or_false] at hd
      rcases hd with rfl | rfl
      · exact Rp.str (name_lt nm) (by have := nm.hi; omega)
      · exact Rp.int_of (by simp only [MAX] at mm; omega) (by simp only [MAX] at mm; omega)
    have a2 : Rp 2 8000 (.lst (lotsD ls)) := (Rp.lst (n := 1) (w := 662) fun d hd => by
      obtain ⟨p, hp, rfl⟩ := List.mem_map.1 hd
      exact a1 p hp).mono (by decide) (by rw [List.length_map]; have := Nat.mul_le_mul_right 663 hi; omega)
    refine Rp.repr (n := 3) (w := 2 * 8001) (Rp.lst (n := 2) (w := 8000) (ds := [.lst (lotsD ls), .int r]) fun d hd => ?_) (by decide) (by decide)
    simp only [List.mem_cons, List.not_mem_nil, or_false] at hd
    rcases hd with rfl | rfl
    · exact a2
    · exact (Rp.int_of (i := r) (by omega) (by simp only [MAX] at rM; omega)).mono (by decide) (by decide)
  have et : oEq true (.str t) (.str t) = some (.f (.bl false)) := by rw [oEq_str]; simp
  have Wl : ((pw (exL ls) r.toNat).length : Int) = r * size ls := by
    rw [pw_len, Int.natCast_mul, exL_len pos, Int.toNat_of_nonneg (by omega)]
  have ss := sset_of (ys := pw (exL ls) r.toNat) (ls := ls) (fun x => by rw [pw_mem (by omega), exL_mem pos]) hi (by omega)
  refine FOut.get (wp_runF (bd := c_law_told_right) (np := 3) (nl := 4) rfl rfl ?_)
  walk_at "pv0"
  rw [wSs_cons]
  wp_walk using 1, show Pr.mt 1 8 = some 51 from rfl, Plan_lots (r := r) hi, show Pr.mt 1 9 = some 52 from rfl, Plan_rounds, er, et
  refine ⟨by decide, by decide, ?_⟩
  rw [wSs_cons]
  wp_walk using 1, pieces h (by decide)
  rw [wSs_cons]
  wp_walk using 1, tk.p10, Plan_pieces tk ok r1 rM, is_int bg, show Pr.mt 1 11 = some 54 from rfl, Plan_names (r := r) hi, ss, List.length_map, Wl, decide_true, oEq_strs
theorem kinds_all {ls : Lots} {r : Int} {V : List Str} (eV : V = pw (exL ls) r.toNat) (h : Row 240 (ls, r)) : (List.range V.length).map (fun x : Nat => D.str (kindAt ls ((x : Int) % size ls))) = V.map D.str ∧ (V.length : Int) = r * size ls := by
  have r1 : 1 ≤ r := h.r1
  have pos : ∀ p ∈ ls, 1 ≤ p.2 := h.pos
  have s1 : 1 ≤ size ls := h.s1
  have ne : exL ls ≠ [] := fun e => by
    have := exL_len pos
    rw [e] at this
    simp at this
    omega
  constructor
  · apply List.ext_getElem?
    intro i
    rw [List.getElem?_map, List.getElem?_map]
    by_cases c : i < V.length
    · rw [List.getElem?_range c, eV, pw_at ne (by rw [← pw_len, ← eV]; exact c)]
      have le := exL_len pos
      have e2 := exL_at (ls := ls) (q := (i : Int) % size ls) pos (Int.emod_nonneg _ (by omega)) (Int.emod_lt_of_pos _ (by omega))
      rw [show ((i : Int) % size ls).toNat = i % (exL ls).length from by rw [← le, ← Int.natCast_emod, Int.toNat_natCast]] at e2
      rw [e2]
      rfl
    · rw [List.getElem?_eq_none (by simpa using c), List.getElem?_eq_none (by simpa using c)]
      rfl
  · rw [eV, pw_len, Int.natCast_mul, exL_len pos, Int.toNat_of_nonneg (by omega)]
theorem cnt_all {ls : Lots} {r : Int} {V : List Str} (eV : V = pw (exL ls) r.toNat) (h : Row 240 (ls, r)) (x : Str) : ((V.filter fun y => y == x).length : Int) = r * how ls x := by
  have r1 : 1 ≤ r := h.r1
  rw [eV, pw_cnt, Int.natCast_mul, exL_cnt h.pos, Int.toNat_of_nonneg (by omega)]
theorem pieces_rightP {P : Pg} (hP : P = Pr) {ls : Lots} {r : Int} {xs V : List Str} (eV : V = pw (exL ls) r.toNat) (h : Row 240 (ls, r)) (hx : ∀ x ∈ xs, OkName x) (lx : xs.length ≤ 100) : runF P (n + 5) 68 [.fz (planD ls r), .fz (.lst (V.map .str)), .fz (.lst (xs.map .str))] = .ok (.f (.bl true)) [.fz (planD ls r), .fz (.lst (V.map .str)), .fz (.lst (xs.map .str))] := by
  obtain ⟨ew, Wl⟩ := kinds_all eV h
  have cn := cnt_all eV h
  obtain ⟨ok, rM⟩ := h.ok (by decide)
  have tot : r * size ls ≤ 240 := h.tot
  have r1 : 1 ≤ r := h.r1
  simp only at ok rM
  clear eV h
  have tkP : TB.OkB P := by rw [hP]; exact tk
  have qkP : PL.OkQ P := by rw [hP]; exact qk
  have bgP : BG.Has P := by rw [hP]; exact bg
  have hf : P.fd 68 = some (.body 3 5 c_law_pieces_right) := by rw [hP]; rfl
  clear hP
  refine FOut.get (wp_runF hf rfl ?_)
  walk_at "pv0"
  rw [wSs_cons]
  wp_walk using 1, List.length_map, mapRange_zero, Int.toNat_natCast
  refine ⟨by unfold small; exact decide_eq_true (by omega), ?_⟩
  refine wG_mapL (fun x : Nat => .str (kindAt ls ((x : Int) % size ls))) (fun x hx => ?_) ?_
  · have lx : x < V.length := List.mem_range.1 hx
    have k := Plan_kind_of tkP (n := n) (k := (x : Int) + 1) ok r1 rM (by omega) (by omega)
    rw [show (x : Int) + 1 - 1 = x from by omega] at k
    wp_walk using 1, tkP.p12, k
  · rw [ew]
    wp_walk using 1, oEq_strs, decide_true
    refine ⟨by simp only [LIM]; omega, ?_⟩
    rw [wSs_cons]
    walk_at "pv1"
    refine wG_filterL (fun _ : Str => (none : Option D)) (fun y hy => ?_) ?_
    · have hm := Plan_how_many qkP (n := n + 2) ok r1 rM (hx y hy)
      wp_walk using 1, qkP.p13, hm, oCount_strs, is_int bgP, cn, decide_true
    · rw [show List.filterMap (fun _ : Str => (none : Option D)) xs = [] from by simp]
      walk_at "pv1"
      exact ⟨by decide, by decide, rfl⟩
theorem pieces_right {ls : Lots} {r : Int} {xs V : List Str} (eV : V = pw (exL ls) r.toNat) (h : Row 240 (ls, r)) (hx : ∀ x ∈ xs, OkName x) (lx : xs.length ≤ 100) : runF Pr (n + 5) 68 [.fz (planD ls r), .fz (.lst (V.map .str)), .fz (.lst (xs.map .str))] = .ok (.f (.bl true)) [.fz (planD ls r), .fz (.lst (V.map .str)), .fz (.lst (xs.map .str))] :=
  pieces_rightP (P := Pr) rfl eV h hx lx
end
end L05

set_option Elab.async false
set_option linter.all false
set_option maxRecDepth 100000
set_option maxHeartbeats 4000000
namespace L05
open PySem
open PV LN TB PL BG WD
open L2 (Key)
theorem names_at {P : Pg} (h : BG.Has P) {n B : Nat} {d : D} {m : Nat} {M : Int} (e : M = m) (hr : Bag B d) (hB : B + 1000 < BG.LIMB) (m5 : m ≤ 5) :
    (runF P (n + 2) 63 [.ow d, .fz (.int M)]).wp fun v os => ∃ (xs : List Str) (d' : D), v = .n (.lst (xs.map .str)) ∧ os = [.ow d', .fz (.int M)] ∧ xs.length = m ∧ xs.Nodup ∧ (∀ x ∈ xs, LN.OkName x) ∧ Bag (B + 20 * m) d' := by
  subst e
  exact BG.names h hr hB m5
theorem size_bd {w : Int} (w0 : 0 ≤ w) : ∀ {ls : Lots}, (∀ p ∈ ls, p.2 ≤ w) → size ls ≤ ls.length * w
  | [], _ => by simp [size]
  | p :: r, h => by
    have a := h p List.mem_cons_self
    have b := size_bd w0 (ls := r) fun q hq => h q (List.mem_cons_of_mem _ hq)
    rw [size_cons, List.length_cons, Int.natCast_succ, Int.add_mul, Int.one_mul]
    omega
theorem Row.rev {T : Int} {ls : Lots} {r : Int} (h : Row T (ls, r)) : Row T (ls.reverse, r) :=
  ⟨by rw [List.length_reverse]; exact h.lo, by rw [List.length_reverse]; exact h.hi, fun p hp => h.name p (List.mem_reverse.1 hp), fun p hp => h.pos p (List.mem_reverse.1 hp), h.r1, by simp only [rev_size]; exact h.tot⟩
theorem OKN {xs : List Str} (h : ∀ x ∈ xs, OkName x) : ∀ x ∈ xs ++ [("zz" : Str), "zzzzzzzz", "q"], OkName x := fun x hx => by
  rcases List.mem_append.1 hx with hx | hx
  · exact h x hx
  · simp only [List.mem_cons, List.not_mem_nil, or_false] at hx
    rcases hx with rfl | rfl | rfl <;> exact ⟨by decide, by decide, by decide⟩
section
variable {n : Nat}
theorem right {B : Nat} {d : D} (hr : Bag B d) (hB : B + 2000 < BG.LIMB) : (runF Pr (n + 9) 24 [.ow d]).wp fun v os => v = .f (.bl true) ∧ ∃ d', os = [.ow d'] ∧ Bag (B + 1000) d' := by
  refine wp_runF (bd := c_law_right) (np := 1) (nl := 10) rfl rfl ?_
  walk_at "pv0"
  rw [wSs_cons]
  walk_at "pv1"
  refine FOut.imp (pick bg hr (by omega) (by decide) (by decide)) ?_
  rintro v os ⟨q, d1, rfl, rfl, q0, q1, hr1⟩
  obtain ⟨m, em⟩ : ∃ m : Nat, 1 + q = (m : Int) := ⟨(1 + q).toNat, by omega⟩
  have m1 : 1 ≤ m := by omega
  have m4 : m ≤ 4 := by omega
  walk_at "pv1"
  refine FOut.imp (names_at bg em hr1 (by omega) (by omega)) ?_
  rintro v os ⟨xs, d2, rfl, rfl, xl, nd, ok, hr2⟩
  have hr2 : Bag (B + 81) d2 := hr2.mono (by omega)
  walk_at "pv1"
  rw [wSs_cons]
  walk_at "pv1"
  refine ⟨by decide, ?_⟩
  refine FOut.imp (pick bg hr2 (by omega) (by decide) (by decide)) ?_
  rintro v os ⟨q, d3, rfl, rfl, q0, q1, hr3⟩
  obtain ⟨w, ew, w0, w1⟩ : ∃ w : Int, at? [D.int 1, D.int 2, D.int 5] q = some (.int w) ∧ 1 ≤ w ∧ w ≤ 5 := by
    rcases (by omega : q = 0 ∨ q = 1 ∨ q = 2) with rfl | rfl | rfl
    · exact ⟨_, rfl, by decide, by decide⟩
    · exact ⟨_, rfl, by decide, by decide⟩
    · exact ⟨_, rfl, by decide, by decide⟩
  wp_walk using 1, ew, Option.map_some
  refine FOut.imp (lots (m := 12) hr3 (by omega) (by omega) (by omega) ok (by decide) (by decide) w0 w1) ?_
  rintro v os ⟨ls, d4, rfl, rfl, l1, l12, hls, hr4⟩
  walk_at "pv1"
  refine FOut.imp (pick bg hr4 (by omega) (by decide) (by decide)) ?_
  rintro v os ⟨q, d5, rfl, rfl, q0, q1, hr5⟩
  obtain ⟨r, er⟩ : ∃ r, r = 1 + q := ⟨_, rfl⟩
  walk_at "pv1"
  rw [← er]
  have r1 : 1 ≤ r := by omega
  have r4 : r ≤ 4 := by omega
  have sz := size_bd (w := 5) (by decide) (ls := ls) fun p hp => by have := (hls p hp).2.2; omega
  have s0 : 0 ≤ size ls := size_nonneg fun p hp => by have := (hls p hp).2.1; omega
  have row : Row 240 (ls, r) := ⟨l1, (show ls.length ≤ 12 by omega), fun p hp => (hls p hp).1, fun p hp => (hls p hp).2.1, r1, by
    have : r * size ls ≤ 4 * size ls := Int.mul_le_mul_of_nonneg_right r4 s0
    simp only
    omega⟩
  have rowR := row.rev
  obtain ⟨okp, rM⟩ := row.ok (by decide)
  obtain ⟨okpR, _⟩ := rowR.ok (by decide)
  simp only at okp rM okpR
  have hi : ls.length ≤ 12 := by omega
  have hiR : ls.reverse.length ≤ 12 := by rw [List.length_reverse]; omega
  have okx := OKN ok
  have lx : (xs ++ [("zz" : Str), "zzzzzzzz", "q"]).length ≤ 100 := by rw [List.length_append, xl]; simp; omega
  rw [wSs_cons]
  walk_at "pv1"
  have pi := Plan_init' tk (n := n + 2) okp r1 rM (s := .ow (.lst (lotsD ls))) (.inr rfl)
  rw [wSs_cons]
  wp_walk using 1, tk.p0, pi
  rw [wSs_cons]
  walk_at "pv1"
  refine ⟨by simp only [lotsD, List.length_map, LIM]; omega, ?_⟩
  rw [wSs_cons]
  wp_walk using 1, pieces row (by decide)
  have eo : xs.map D.str ++ [D.str (Str.ofString "zz"), .str (Str.ofString "zzzzzzzz"), .str (Str.ofString "q")] = (xs ++ [("zz" : Str), "zzzzzzzz", "q"]).map D.str := by simp
  rw [eo]
  refine ⟨by simp only [LIM]; omega, by decide, by simp only [LIM]; omega, ?_⟩
  have t1 := told_right (n := n + 6) row
  have p1 := pieces_right (n := n + 3) (r := r) rfl row okx lx
  have t2 := told_right (n := n + 6) rowR
  have p2 := pieces_right (n := n + 3) (r := r) rfl rowR okx lx
  have bk := Plan_backwards qk (n := n + 1) okp r1 rM
  have bk2 := Plan_backwards qk (n := n + 1) okpR r1 rM
  rw [List.reverse_reverse] at bk2
  have rv : (lotsD ls).reverse = lotsD ls.reverse := List.map_reverse.symm
  have rp : ((pw (exL ls) r.toNat).map D.str).reverse = (pw (exL ls.reverse) r.toNat).map D.str := by rw [← List.map_reverse, pw_rev, exL_rev]
  rw [wSs_cons]
  wp_walk using 1, t1, p1
  rw [wSs_cons]
  wp_walk using 1, qk.p14, bk
  rw [wSs_cons]
  wp_walk using 1, rv, rp, t2, p2
  have a1 := Plan_lots (n := n + 7) (ls := ls) (r := r) hi
  have a2 := Plan_names (n := n + 7) (ls := ls) (r := r) hi
  have a3 := Plan_lots (n := n + 7) (ls := ls.reverse) (r := r) hiR
  have a4 := Plan_names (n := n + 7) (ls := ls.reverse) (r := r) hiR
  rw [wSs_cons]
  wp_walk using 1, show Pr.mt 1 8 = some 51 from rfl, show Pr.mt 1 11 = some 54 from rfl, a1, a2, a3, a4
  have nlen : ∀ zs : Lots, zs.length ≤ 12 → (nms zs).length < LIM := fun zs hz => by
    have a := (sortStr_perm (dedup (zs.map (·.1)))).length_eq
    have b := dedup_len (a := zs.map (·.1))
    rw [List.length_map] at b
    show (sortStr (dedup (zs.map (·.1)))).length < LIM
    simp only [LIM]
    omega
  refine ⟨⟨List.cons_ne_nil _ _, by
    simp only [List.all_cons, List.all_nil, newL, lotsD, List.length_map, Bool.and_true, Bool.and_eq_true, decide_eq_true_eq]
    have n1 := nlen ls hi
    have n2 := nlen ls.reverse hiR
    have : ls.length < LIM := by simp only [LIM]; omega
    have : ls.reverse.length < LIM := by simp only [LIM]; omega
    exact ⟨by assumption, n1, by assumption, n2⟩⟩, ?_⟩
  rw [wSs_cons]
  wp_walk using 1, t1, rv, t2
  rw [wSs_cons]
  wp_walk using 1, show Pr.mt 1 8 = some 51 from rfl, qk.p14, bk2, a1, p1
  rw [(oEq_lots : oEq false (.lst (lotsD ls)) (.lst (lotsD ls)) = _), decide_eq_true (p := ls = ls) rfl]
  wp_walk using 1, p1
  exact ⟨_, rfl, hr5.mono (by omega)⟩
end
end L05

set_option Elab.async false
set_option linter.all false
set_option maxRecDepth 100000
set_option maxHeartbeats 4000000
namespace L05
open PySem
open PV LN TB PL BG WD
open L2 (Key)
theorem told : oEq false (.lst [.int 8, .lst [.str "a", .str "b"], .lst [.str "b", .str "b", .str "a", .str "b", .str "a"], .int 6]) (.lst [.int 8, .lst [.str "a", .str "b"], .lst [.str "b", .str "b", .str "a", .str "b", .str "a"], .int 6]) = some (.f (.bl true)) := rfl
theorem nms3 : nms [(("b" : Str), 2), ("a", 1), ("b", 1)] = [("a" : Str), "b"] := by decide +kernel
theorem kat : ([1, 2, 3, 4, 7] : List Int).map (fun k : Int => kindAt [(("b" : Str), 2), ("a", 1), ("b", 1)] ((k - 1) % size [(("b" : Str), 2), ("a", 1), ("b", 1)])) = [("b" : Str), "b", "a", "b", "a"] := by decide +kernel
section
variable {n : Nat}
theorem law {ns : List Int} : (runF Pr (n + 14) 25 [.fz (.lst (ns.map .int))]).wp fun v _ => v = .f (.bl true) := by
  have lim : ∀ B, B ≤ 3000 → B + 2000 < BG.LIMB := fun B h => by
    have : B + 2000 < 1000000000000 := by omega
    exact this
  refine wp_runF (bd := c_law) (np := 1) (nl := 7) rfl rfl ?_
  walk_at "pv0"
  rw [wSs_cons]
  walk_at "pv1"
  rw [show ∀ l : List Int, cut (l.map D.int) none (some 8) ++ [D.int 0] = (l.take 8 ++ [0]).map D.int from fun l => by simp [cut, slIx, List.map_take]]
  refine ⟨by decide, by simp [LIM, cut, slIx]; omega, ?_⟩
  refine wFor_all (fun ρ => ∃ s1 s2 s3, ρ = [.fz (.lst (ns.map .int)), s1, s2, s3, .no, .no, .no] ∧ npw s1 ∧ npw s2 ∧ npw s3) ⟨_, _, _, rfl, trivial, trivial, trivial⟩ ?_ ?_
  · intro d hd ρ
    obtain ⟨c, hc, rfl⟩ := List.mem_map.1 hd
    rintro ⟨s1, s2, s3, rfl, n1, n2, n3⟩
    wp_walk using 1, n1, n2, n3
    rw [wSs_cons]
    wp_walk using 1, n1, n2, n3
    refine FOut.imp (BG.bag bg) ?_
    rintro v os ⟨d1, rfl, rfl, hr1⟩
    wp_walk using 1, n1, n2, n3
    rw [wSs_cons]
    wp_walk using 1, n1, n2, n3
    refine ⟨by decide, ?_⟩
    refine wFor_inv (fun r ρ => ∃ s1 s3 d, ρ = [.fz (.lst (ns.map .int)), s1, .ow d, s3, .no, .no, .no] ∧ npw s1 ∧ npw s3 ∧ Bag (3000 - 1000 * r.length) d ∧ r.length ≤ 2) ?_ ?_ ?_
    · exact ⟨_, s3, d1, rfl, trivial, n3, hr1.mono (by omega), by decide⟩
    · rintro d r ρ ⟨s1, s3, d2, rfl, n1, n3, hr2, hl⟩
      rw [List.length_cons] at hr2 hl
      wp_walk using 1, n1, n3
      rw [wSs_cons]
      wp_walk using 1, n1, n3
      refine FOut.imp (right hr2 (lim _ (by omega))) ?_
      rintro v os ⟨rfl, d4, rfl, hr4⟩
      walk_at "pv1"
      exact ⟨_, _, _, rfl, n1, trivial, hr4.mono (by omega), by omega⟩
    · rintro ρ ⟨s1, s3, d2, rfl, n1, n3, hr2, hl⟩
      exact ⟨s1, _, s3, rfl, n1, trivial, n3⟩
  · rintro ρ ⟨s1, s2, s3, rfl, n1, n2, n3⟩
    dsimp only
    have oa : OkName "a" := ⟨by decide, by decide, by decide⟩
    have ob : OkName "b" := ⟨by decide, by decide, by decide⟩
    have row : Row 240 ([(("b" : Str), 2), ("a", 1), ("b", 1)], 2) := ⟨by decide, by decide, by
      intro p hp
      simp at hp
      rcases hp with rfl | rfl | rfl
      · exact ob
      · exact oa
      · exact ob, by decide, by decide, by decide⟩
    obtain ⟨k0, rM⟩ := row.ok (by decide)
    simp only at k0 rM
    have i0 := Plan_init' tk (n := n + 7) k0 (show (1 : Int) ≤ 2 by decide) rM (.inl rfl)
    have pp := Plan_pieces tk (n := n + 12) k0 (show (1 : Int) ≤ 2 by decide) rM
    have pk := fun k (k1 : (1 : Int) ≤ k) (k2 : k ≤ 2 * size [(("b" : Str), 2), ("a", 1), ("b", 1)]) => Plan_kind_of tk (n := n + 9) (k := k) k0 (show (1 : Int) ≤ 2 by decide) rM k1 k2
    have ph := Plan_how_many qk (n := n + 11) k0 (show (1 : Int) ≤ 2 by decide) rM ob
    have pn := Plan_names (n := n + 12) (ls := [(("b" : Str), 2), ("a", 1), ("b", 1)]) (r := 2) (by decide)
    simp only [lotsD, List.map_cons, List.map_nil, lotD] at i0 pp pk ph pn
    rw [wSs_cons]
    wp_walk using 1, n1, n2, n3, tk.p0, i0
    refine ⟨by decide, by decide, by decide, by decide, ?_⟩
    rw [nms3] at pn
    rw [wSs_cons]
    wp_walk using 1, n1, n2, n3, tk.p10, tk.p12, show Pr.mt 1 11 = some 54 from rfl, qk.p13, pp, pn
    rw [show ([.int 1, .int 2, .int 3, .int 4, .int 7] : List D) = ([1, 2, 3, 4, 7] : List Int).map D.int from rfl]
    refine ⟨by decide, ?_⟩
    refine wG_mapL (fun k : Int => .str (kindAt [(("b" : Str), 2), ("a", 1), ("b", 1)] ((k - 1) % size [(("b" : Str), 2), ("a", 1), ("b", 1)]))) (fun k hk => ?_) ?_
    · have hk' : 1 ≤ k ∧ k ≤ 2 * size [(("b" : Str), 2), ("a", 1), ("b", 1)] := by
        rw [show size [(("b" : Str), 2), ("a", 1), ("b", 1)] = 4 from by decide]
        simp only [List.mem_cons, List.not_mem_nil, or_false] at hk
        omega
      have k3 := pk k hk'.1 hk'.2
      wp_walk using 1, tk.p12, k3
    · rw [show ([1, 2, 3, 4, 7] : List Int).map (fun k : Int => D.str (kindAt [(("b" : Str), 2), ("a", 1), ("b", 1)] ((k - 1) % size [(("b" : Str), 2), ("a", 1), ("b", 1)]))) = [.str "b", .str "b", .str "a", .str "b", .str "a"] from (List.map_map (f := fun k : Int => kindAt [(("b" : Str), 2), ("a", 1), ("b", 1)] ((k - 1) % size [(("b" : Str), 2), ("a", 1), ("b", 1)])) (g := D.str)).symm.trans (congrArg (List.map D.str) kat)]
      wp_walk using 1, qk.p13, ph
      refine ⟨by decide, by decide, ?_⟩
      rw [show 2 * size [(("b" : Str), 2), ("a", 1), ("b", 1)] = 8 from by decide, show 2 * how [(("b" : Str), 2), ("a", 1), ("b", 1)] "b" = 6 from by decide]
      rw [wSs_cons]
      wp_walk using 1, told
      exact ⟨by decide, by decide, by decide⟩
end
theorem plain : ∀ ns : List Int, ns.length ≤ 63 → (∀ z ∈ ns, Builtin.Int.intBits z ≤ 1048576) → ∃ os, runF Pr 41 25 [.fz (.lst (ns.map D.int))] = .ok (.f (.bl true)) os := fun ns _ _ => by
  have h := law (n := 27) (ns := ns)
  cases e : runF Pr (27 + 14) 25 [.fz (.lst (ns.map D.int))] with
  | ok v os =>
    rw [e] at h
    have h : v = .f (.bl true) := h
    subst h
    exact ⟨os, rfl⟩
  | exc x os => rw [e] at h; exact h.elim
  | bad => rw [e] at h; exact h.elim
end L05

set_option Elab.async false
set_option linter.all false
set_option maxRecDepth 100000
set_option maxHeartbeats 4000000
namespace L05
open PySem L2 PV
def top (i : Nat) : Stmt := PySem.Challenge.pw_linepaces_k05_pieces_one_by_one.main.body.getD i (.Pass ⟨0, 0, 0, 0⟩)
abbrev st_is_int : Stmt := top 2
abbrev st_is_whole : Stmt := top 3
abbrev st_is_many : Stmt := top 4
abbrev st_is_name : Stmt := top 5
abbrev st_is_lot : Stmt := top 6
abbrev st_require_lots : Stmt := top 15
abbrev st_Plan_init : Stmt := inClass (top 17) 0
abbrev st_Plan_lots : Stmt := inClass (top 17) 1
abbrev st_Plan_rounds : Stmt := inClass (top 17) 2
abbrev st_Plan_pieces : Stmt := inClass (top 17) 3
abbrev st_Plan_names : Stmt := inClass (top 17) 4
abbrev st_Plan_kind_of : Stmt := inClass (top 17) 6
abbrev st_Plan_how_many : Stmt := inClass (top 17) 7
abbrev st_Plan_backwards : Stmt := inClass (top 17) 8
abbrev st_lot_at : Stmt := top 18
abbrev st_require_piece : Stmt := top 19
abbrev st_law_bag : Stmt := top 21
abbrev st_law_pick : Stmt := top 22
abbrev st_law_names : Stmt := top 23
abbrev st_law_lots : Stmt := top 24
abbrev st_law_pieces : Stmt := top 25
abbrev st_law_is : Stmt := top 26
abbrev st_law_told_right : Stmt := top 27
abbrev st_law_pieces_right : Stmt := top 28
abbrev st_law_right : Stmt := top 29
abbrev st_law : Stmt := top 30
abbrev N_is_int : List Str := ["value"]
theorem sc_is_int : FnScope N_is_int ["value"] (defScope st_is_int) := ⟨rfl, rfl, rfl, by decide +kernel, rfl, by decide +kernel, by decide +kernel⟩
abbrev N_is_whole : List Str := ["value", "low", "high"]
theorem sc_is_whole : FnScope N_is_whole ["value", "low", "high"] (defScope st_is_whole) := ⟨rfl, rfl, rfl, by decide +kernel, rfl, by decide +kernel, by decide +kernel⟩
abbrev N_is_many : List Str := ["value"]
theorem sc_is_many : FnScope N_is_many ["value"] (defScope st_is_many) := ⟨rfl, rfl, rfl, by decide +kernel, rfl, by decide +kernel, by decide +kernel⟩
abbrev N_is_name : List Str := ["value", "letter"]
theorem sc_is_name : FnScope N_is_name ["value"] (defScope st_is_name) := ⟨rfl, rfl, rfl, by decide +kernel, rfl, by decide +kernel, by decide +kernel⟩
abbrev N_is_lot : List Str := ["value"]
theorem sc_is_lot : FnScope N_is_lot ["value"] (defScope st_is_lot) := ⟨rfl, rfl, rfl, by decide +kernel, rfl, by decide +kernel, by decide +kernel⟩
abbrev N_require_lots : List Str := ["value", "most", "index", "lot"]
theorem sc_require_lots : FnScope N_require_lots ["value", "most"] (defScope st_require_lots) := ⟨rfl, rfl, rfl, by decide +kernel, rfl, by decide +kernel, by decide +kernel⟩
abbrev N_Plan_init : List Str := ["self", "lots", "rounds"]
theorem sc_Plan_init : FnScope N_Plan_init ["self", "lots", "rounds"] (defScope st_Plan_init) := ⟨rfl, rfl, rfl, by decide +kernel, rfl, by decide +kernel, by decide +kernel⟩
abbrev N_Plan_lots : List Str := ["self"]
theorem sc_Plan_lots : FnScope N_Plan_lots ["self"] (defScope st_Plan_lots) := ⟨rfl, rfl, rfl, by decide +kernel, rfl, by decide +kernel, by decide +kernel⟩
abbrev N_Plan_rounds : List Str := ["self"]
theorem sc_Plan_rounds : FnScope N_Plan_rounds ["self"] (defScope st_Plan_rounds) := ⟨rfl, rfl, rfl, by decide +kernel, rfl, by decide +kernel, by decide +kernel⟩
abbrev N_Plan_pieces : List Str := ["self", "name", "many"]
theorem sc_Plan_pieces : FnScope N_Plan_pieces ["self"] (defScope st_Plan_pieces) := ⟨rfl, rfl, rfl, by decide +kernel, rfl, by decide +kernel, by decide +kernel⟩
abbrev N_Plan_names : List Str := ["self", "name", "many"]
theorem sc_Plan_names : FnScope N_Plan_names ["self"] (defScope st_Plan_names) := ⟨rfl, rfl, rfl, by decide +kernel, rfl, by decide +kernel, by decide +kernel⟩
abbrev N_Plan_kind_of : List Str := ["self", "piece"]
theorem sc_Plan_kind_of : FnScope N_Plan_kind_of ["self", "piece"] (defScope st_Plan_kind_of) := ⟨rfl, rfl, rfl, by decide +kernel, rfl, by decide +kernel, by decide +kernel⟩
abbrev N_Plan_how_many : List Str := ["self", "name", "own", "many"]
theorem sc_Plan_how_many : FnScope N_Plan_how_many ["self", "name"] (defScope st_Plan_how_many) := ⟨rfl, rfl, rfl, by decide +kernel, rfl, by decide +kernel, by decide +kernel⟩
abbrev N_Plan_backwards : List Str := ["self"]
theorem sc_Plan_backwards : FnScope N_Plan_backwards ["self"] (defScope st_Plan_backwards) := ⟨rfl, rfl, rfl, by decide +kernel, rfl, by decide +kernel, by decide +kernel⟩
abbrev N_lot_at : List Str := ["plan", "piece", "turn", "rest", "index"]
theorem sc_lot_at : FnScope N_lot_at ["plan", "piece"] (defScope st_lot_at) := ⟨rfl, rfl, rfl, by decide +kernel, rfl, by decide +kernel, by decide +kernel⟩
abbrev N_require_piece : List Str := ["plan", "value"]
theorem sc_require_piece : FnScope N_require_piece ["plan", "value"] (defScope st_require_piece) := ⟨rfl, rfl, rfl, by decide +kernel, rfl, by decide +kernel, by decide +kernel⟩
abbrev N_law_bag : List Str := ["_law_cell"]
theorem sc_law_bag : FnScope N_law_bag ["_law_cell"] (defScope st_law_bag) := ⟨rfl, rfl, rfl, by decide +kernel, rfl, by decide +kernel, by decide +kernel⟩
abbrev N_law_pick : List Str := ["_law_bag_here", "_law_many", "_law_told", "_law_seed", "_law_turn", "_law_first", "_law_second", "_law_drawn"]
theorem sc_law_pick : FnScope N_law_pick ["_law_bag_here", "_law_many"] (defScope st_law_pick) := ⟨rfl, rfl, rfl, by decide +kernel, rfl, by decide +kernel, by decide +kernel⟩
abbrev N_law_names : List Str := ["_law_bag_here", "_law_many", "_law_found", "_law_turn", "_law_letters", "_law_word", "_law_spot", "_law_spare"]
theorem sc_law_names : FnScope N_law_names ["_law_bag_here", "_law_many"] (defScope st_law_names) := ⟨rfl, rfl, rfl, by decide +kernel, rfl, by decide +kernel, by decide +kernel⟩
abbrev N_law_lots : List Str := ["_law_bag_here", "_law_kinds", "_law_many", "_law_most", "_law_names_here", "_law_turn"]
theorem sc_law_lots : FnScope N_law_lots ["_law_bag_here", "_law_kinds", "_law_many", "_law_most"] (defScope st_law_lots) := ⟨rfl, rfl, rfl, by decide +kernel, rfl, by decide +kernel, by decide +kernel⟩
abbrev N_law_pieces : List Str := ["_law_lots_here", "_law_rounds", "_law_found", "_law_name", "_law_many"]
theorem sc_law_pieces : FnScope N_law_pieces ["_law_lots_here", "_law_rounds"] (defScope st_law_pieces) := ⟨rfl, rfl, rfl, by decide +kernel, rfl, by decide +kernel, by decide +kernel⟩
abbrev N_law_is : List Str := ["_law_told", "_law_due"]
theorem sc_law_is : FnScope N_law_is ["_law_told", "_law_due"] (defScope st_law_is) := ⟨rfl, rfl, rfl, by decide +kernel, rfl, by decide +kernel, by decide +kernel⟩
abbrev N_law_told_right : List Str := ["_law_plan", "_law_lots_here", "_law_rounds", "_law_pieces_here"]
theorem sc_law_told_right : FnScope N_law_told_right ["_law_plan", "_law_lots_here", "_law_rounds"] (defScope st_law_told_right) := ⟨rfl, rfl, rfl, by decide +kernel, rfl, by decide +kernel, by decide +kernel⟩
abbrev N_law_pieces_right : List Str := ["_law_plan", "_law_pieces_here", "_law_names_here", "_law_spot", "_law_name"]
theorem sc_law_pieces_right : FnScope N_law_pieces_right ["_law_plan", "_law_pieces_here", "_law_names_here"] (defScope st_law_pieces_right) := ⟨rfl, rfl, rfl, by decide +kernel, rfl, by decide +kernel, by decide +kernel⟩
abbrev N_law_right : List Str := ["_law_bag_here", "_law_names_here", "_law_lots_here", "_law_rounds", "_law_passed", "_law_plan", "_law_pieces_here", "_law_others", "_law_back", "_law_told"]
theorem sc_law_right : FnScope N_law_right ["_law_bag_here"] (defScope st_law_right) := ⟨rfl, rfl, rfl, by decide +kernel, rfl, by decide +kernel, by decide +kernel⟩
abbrev N_law : List Str := ["_law_script", "_law_cell", "_law_bag_here", "_law_turn", "_law_plan", "_law_told", "_law_piece"]
theorem sc_law : FnScope N_law ["_law_script"] (defScope st_law) := ⟨rfl, rfl, rfl, by decide +kernel, rfl, by decide +kernel, by decide +kernel⟩
abbrev anames : List Str := ["own_places", "own_kinds", "own_lots", "own_rounds", "own_line", "own_table", "ends_known", "ends_line", "ends_plan", "ends_vector", "ends_name", "ends_station", "own_moments", "own_pieces", "own_due", "own_calls", "own_past", "own_floor", "own_plan", "key", "index", "part", "moment"]
structure Tx (K : PySem.W.Frag) (mg : Str → Option Value) where
  C_Plan : Addr
  cl_Plan : Cls K C_Plan
  g_Plan : mg "Plan" = some (.ref C_Plan)
  ic_Plan : IsC K C_Plan
  A_is_int : Addr
  D_is_int : FuncData
  F_is_int : L2.Fun K "is_int" "is_int" st_is_int A_is_int D_is_int
  b_is_int : Binds K D_is_int ["value"] []
  g_is_int : mg "is_int" = some (.ref A_is_int)
  A_is_whole : Addr
  D_is_whole : FuncData
  F_is_whole : L2.Fun K "is_whole" "is_whole" st_is_whole A_is_whole D_is_whole
  b_is_whole : Binds K D_is_whole ["value", "low", "high"] []
  g_is_whole : mg "is_whole" = some (.ref A_is_whole)
  A_is_many : Addr
  D_is_many : FuncData
  F_is_many : L2.Fun K "is_many" "is_many" st_is_many A_is_many D_is_many
  b_is_many : Binds K D_is_many ["value"] []
  g_is_many : mg "is_many" = some (.ref A_is_many)
  A_is_name : Addr
  D_is_name : FuncData
  F_is_name : L2.Fun K "is_name" "is_name" st_is_name A_is_name D_is_name
  b_is_name : Binds K D_is_name ["value"] []
  g_is_name : mg "is_name" = some (.ref A_is_name)
  A_is_lot : Addr
  D_is_lot : FuncData
  F_is_lot : L2.Fun K "is_lot" "is_lot" st_is_lot A_is_lot D_is_lot
  b_is_lot : Binds K D_is_lot ["value"] []
  g_is_lot : mg "is_lot" = some (.ref A_is_lot)
  A_require_lots : Addr
  D_require_lots : FuncData
  F_require_lots : L2.Fun K "require_lots" "require_lots" st_require_lots A_require_lots D_require_lots
  b_require_lots : Binds K D_require_lots ["value", "most"] []
  g_require_lots : mg "require_lots" = some (.ref A_require_lots)
  A_Plan_init : Addr
  D_Plan_init : FuncData
  F_Plan_init : L2.Fun K "__init__" "Plan.__init__" st_Plan_init A_Plan_init D_Plan_init
  b_Plan_init : Binds K D_Plan_init ["self", "lots", "rounds"] []
  mk_Plan : Mk K C_Plan A_Plan_init
  A_Plan_lots : Addr
  D_Plan_lots : FuncData
  F_Plan_lots : L2.Fun K "lots" "Plan.lots" st_Plan_lots A_Plan_lots D_Plan_lots
  b_Plan_lots : Binds K D_Plan_lots ["self"] []
  P_Plan_lots : Addr
  p_Plan_lots : PropOf K C_Plan "lots" P_Plan_lots A_Plan_lots
  A_Plan_rounds : Addr
  D_Plan_rounds : FuncData
  F_Plan_rounds : L2.Fun K "rounds" "Plan.rounds" st_Plan_rounds A_Plan_rounds D_Plan_rounds
  b_Plan_rounds : Binds K D_Plan_rounds ["self"] []
  P_Plan_rounds : Addr
  p_Plan_rounds : PropOf K C_Plan "rounds" P_Plan_rounds A_Plan_rounds
  A_Plan_pieces : Addr
  D_Plan_pieces : FuncData
  F_Plan_pieces : L2.Fun K "pieces" "Plan.pieces" st_Plan_pieces A_Plan_pieces D_Plan_pieces
  b_Plan_pieces : Binds K D_Plan_pieces ["self"] []
  P_Plan_pieces : Addr
  p_Plan_pieces : PropOf K C_Plan "pieces" P_Plan_pieces A_Plan_pieces
  A_Plan_names : Addr
  D_Plan_names : FuncData
  F_Plan_names : L2.Fun K "names" "Plan.names" st_Plan_names A_Plan_names D_Plan_names
  b_Plan_names : Binds K D_Plan_names ["self"] []
  P_Plan_names : Addr
  p_Plan_names : PropOf K C_Plan "names" P_Plan_names A_Plan_names
  A_Plan_kind_of : Addr
  D_Plan_kind_of : FuncData
  F_Plan_kind_of : L2.Fun K "kind_of" "Plan.kind_of" st_Plan_kind_of A_Plan_kind_of D_Plan_kind_of
  b_Plan_kind_of : Binds K D_Plan_kind_of ["self", "piece"] []
  m_Plan_kind_of : Meth K C_Plan "kind_of" A_Plan_kind_of
  A_Plan_how_many : Addr
  D_Plan_how_many : FuncData
  F_Plan_how_many : L2.Fun K "how_many" "Plan.how_many" st_Plan_how_many A_Plan_how_many D_Plan_how_many
  b_Plan_how_many : Binds K D_Plan_how_many ["self", "name"] []
  m_Plan_how_many : Meth K C_Plan "how_many" A_Plan_how_many
  A_Plan_backwards : Addr
  D_Plan_backwards : FuncData
  F_Plan_backwards : L2.Fun K "backwards" "Plan.backwards" st_Plan_backwards A_Plan_backwards D_Plan_backwards
  b_Plan_backwards : Binds K D_Plan_backwards ["self"] []
  m_Plan_backwards : Meth K C_Plan "backwards" A_Plan_backwards
  A_lot_at : Addr
  D_lot_at : FuncData
  F_lot_at : L2.Fun K "lot_at" "lot_at" st_lot_at A_lot_at D_lot_at
  b_lot_at : Binds K D_lot_at ["plan", "piece"] []
  g_lot_at : mg "lot_at" = some (.ref A_lot_at)
  A_require_piece : Addr
  D_require_piece : FuncData
  F_require_piece : L2.Fun K "require_piece" "require_piece" st_require_piece A_require_piece D_require_piece
  b_require_piece : Binds K D_require_piece ["plan", "value"] []
  g_require_piece : mg "require_piece" = some (.ref A_require_piece)
  A_law_bag : Addr
  D_law_bag : FuncData
  F_law_bag : L2.Fun K "_law_bag" "_law_bag" st_law_bag A_law_bag D_law_bag
  b_law_bag : Binds K D_law_bag ["_law_cell"] []
  g_law_bag : mg "_law_bag" = some (.ref A_law_bag)
  A_law_pick : Addr
  D_law_pick : FuncData
  F_law_pick : L2.Fun K "_law_pick" "_law_pick" st_law_pick A_law_pick D_law_pick
  b_law_pick : Binds K D_law_pick ["_law_bag_here", "_law_many"] []
  g_law_pick : mg "_law_pick" = some (.ref A_law_pick)
  A_law_names : Addr
  D_law_names : FuncData
  F_law_names : L2.Fun K "_law_names" "_law_names" st_law_names A_law_names D_law_names
  b_law_names : Binds K D_law_names ["_law_bag_here", "_law_many"] []
  g_law_names : mg "_law_names" = some (.ref A_law_names)
  A_law_lots : Addr
  D_law_lots : FuncData
  F_law_lots : L2.Fun K "_law_lots" "_law_lots" st_law_lots A_law_lots D_law_lots
  b_law_lots : Binds K D_law_lots ["_law_bag_here", "_law_kinds", "_law_many", "_law_most"] []
  g_law_lots : mg "_law_lots" = some (.ref A_law_lots)
  A_law_pieces : Addr
  D_law_pieces : FuncData
  F_law_pieces : L2.Fun K "_law_pieces" "_law_pieces" st_law_pieces A_law_pieces D_law_pieces
  b_law_pieces : Binds K D_law_pieces ["_law_lots_here", "_law_rounds"] []
  g_law_pieces : mg "_law_pieces" = some (.ref A_law_pieces)
  A_law_is : Addr
  D_law_is : FuncData
  F_law_is : L2.Fun K "_law_is" "_law_is" st_law_is A_law_is D_law_is
  b_law_is : Binds K D_law_is ["_law_told", "_law_due"] []
  g_law_is : mg "_law_is" = some (.ref A_law_is)
  A_law_told_right : Addr
  D_law_told_right : FuncData
  F_law_told_right : L2.Fun K "_law_told_right" "_law_told_right" st_law_told_right A_law_told_right D_law_told_right
  b_law_told_right : Binds K D_law_told_right ["_law_plan", "_law_lots_here", "_law_rounds"] []
  g_law_told_right : mg "_law_told_right" = some (.ref A_law_told_right)
  A_law_pieces_right : Addr
  D_law_pieces_right : FuncData
  F_law_pieces_right : L2.Fun K "_law_pieces_right" "_law_pieces_right" st_law_pieces_right A_law_pieces_right D_law_pieces_right
  b_law_pieces_right : Binds K D_law_pieces_right ["_law_plan", "_law_pieces_here", "_law_names_here"] []
  g_law_pieces_right : mg "_law_pieces_right" = some (.ref A_law_pieces_right)
  A_law_right : Addr
  D_law_right : FuncData
  F_law_right : L2.Fun K "_law_right" "_law_right" st_law_right A_law_right D_law_right
  b_law_right : Binds K D_law_right ["_law_bag_here"] []
  g_law_right : mg "_law_right" = some (.ref A_law_right)
  A_law : Addr
  D_law : FuncData
  F_law : L2.Fun K "law" "law" st_law A_law D_law
  b_law : Binds K D_law ["_law_script"] []
  g_law : mg "law" = some (.ref A_law)
  na_Plan_own_lots : NoAttr K C_Plan "own_lots"
  na_Plan_own_rounds : NoAttr K C_Plan "own_rounds"
  i_MOST_LOTS : ∃ t, mg "MOST_LOTS" = some (.int 12 t)
  i_MOST_NUMBER : ∃ t, mg "MOST_NUMBER" = some (.int 1000000000000000000000000000000 t)
  n_all : mg "all" = none
  n_bool : mg "bool" = none
  n_divmod : mg "divmod" = none
  n_enumerate : mg "enumerate" = none
  n_int : mg "int" = none
  n_isinstance : mg "isinstance" = none
  n_len : mg "len" = none
  n_list : mg "list" = none
  n_max : mg "max" = none
  n_range : mg "range" = none
  n_repr : mg "repr" = none
  n_set : mg "set" = none
  n_sorted : mg "sorted" = none
  n_str : mg "str" = none
  n_sum : mg "sum" = none
  n_tuple : mg "tuple" = none
section
variable {P : Program} {w : World} {K : PySem.W.Frag} {mg : Str → Option Value} {base : Heap}
abbrev Tx.nm (T : Tx K mg) : Nm := ⟨K, fun C => if C = 1 then T.C_Plan else 0, anOf anames⟩
theorem an_inj : ∀ a b, anOf anames a = anOf anames b → a = b := anOf_inj (by decide +kernel) (by decide +kernel)
theorem kt (T : Tx K mg) {n : Nat} : Kt T.nm (tbl Pr n) := ⟨an_inj, fun C a h => by
  have h := flOf_mem (tab := flL) h
  simp only [flL, List.mem_cons, Prod.mk.injEq, List.not_mem_nil, or_false] at h
  rcases h with ⟨rfl, rfl⟩ | ⟨rfl, rfl⟩
  · exact ⟨T.cl_Plan, T.na_Plan_own_lots⟩
  · exact ⟨T.cl_Plan, T.na_Plan_own_rounds⟩⟩
theorem only_Plan_lots : ∀ B f, mtOf mtL B 8 = some f → B = 1 ∧ f = 51 := mtOf_only (by decide)
theorem only_Plan_rounds : ∀ B f, mtOf mtL B 9 = some f → B = 1 ∧ f = 52 := mtOf_only (by decide)
theorem only_Plan_pieces : ∀ B f, mtOf mtL B 10 = some f → B = 1 ∧ f = 53 := mtOf_only (by decide)
theorem only_Plan_names : ∀ B f, mtOf mtL B 11 = some f → B = 1 ∧ f = 54 := mtOf_only (by decide)
theorem free_Plan_kind_of : ∀ i, anOf anames i ≠ "kind_of" := anOf_ne (by decide +kernel) (by decide +kernel)
theorem only_Plan_kind_of : ∀ B f, mtOf mtL B 12 = some f → B = 1 ∧ f = 56 := mtOf_only (by decide)
theorem free_Plan_how_many : ∀ i, anOf anames i ≠ "how_many" := anOf_ne (by decide +kernel) (by decide +kernel)
theorem only_Plan_how_many : ∀ B f, mtOf mtL B 13 = some f → B = 1 ∧ f = 57 := mtOf_only (by decide)
theorem free_Plan_backwards : ∀ i, anOf anames i ≠ "backwards" := anOf_ne (by decide +kernel) (by decide +kernel)
theorem only_Plan_backwards : ∀ B f, mtOf mtL B 14 = some f → B = 1 ∧ f = 58 := mtOf_only (by decide)
theorem K_is_int (T : Tx K mg) : ∀ n, Keeps P w K mg base T.nm (runF Pr n 0) 1 T.A_is_int := fun n => by
  cases n with
  | zero => exact keeps_zero T.F_is_int
  | succ n =>
  exact keeps_of T.F_is_int sc_is_int T.b_is_int rfl rfl rfl (by decide) fun cdv A outer s H E o r =>
    (ss_cons (s_ret (k_and (k_isi PV.ty_int (fun _ => rfl) T.n_isinstance T.n_int rfl (e_var (pv 0))) (k_one (k_not (k_isi PV.ty_bool (fun _ => rfl) T.n_isinstance T.n_bool rfl (e_var (pv 0)))))))
      ss_nil)
theorem K_is_whole (T : Tx K mg) : ∀ n, Keeps P w K mg base T.nm (runF Pr n 1) 2 T.A_is_whole := fun n => by
  cases n with
  | zero => exact keeps_zero T.F_is_whole
  | succ n =>
  have F_is_int := K_is_int (P := P) (w := w) (base := base) T n
  exact keeps_of T.F_is_whole sc_is_whole T.b_is_whole rfl rfl rfl (by decide) fun cdv A outer s H E o r =>
    (ss_cons (s_ret (k_and (k_call F_is_int T.g_is_int (r.mono (by decide)) o (k_cons (e_var (pv 0)) k_nil)) (k_one (k_chn (z_le o) (z_le o) (e_var (pv 1)) (e_var (pv 0)) (e_var (pv 2))))))
      ss_nil)
theorem K_is_many (T : Tx K mg) : ∀ n, Keeps P w K mg base T.nm (runF Pr n 46) 3 T.A_is_many := fun n => by
  cases n with
  | zero => exact keeps_zero T.F_is_many
  | succ n =>
  have F_is_whole := K_is_whole (P := P) (w := w) (base := base) T n
  exact keeps_of T.F_is_many sc_is_many T.b_is_many rfl rfl rfl (by decide) fun cdv A outer s H E o r =>
    (ss_cons (s_ret (k_call F_is_whole T.g_is_whole (r.mono (by decide)) o (k_cons (e_var (pv 0)) (k_cons k_int (k_cons (k_glbI T.i_MOST_NUMBER) k_nil)))))
      ss_nil)
theorem K_is_name (T : Tx K mg) : ∀ n, Keeps P w K mg base T.nm (runF Pr n 3) 1 T.A_is_name := fun n => by
  cases n with
  | zero => exact keeps_zero T.F_is_name
  | succ n =>
  exact keeps_of T.F_is_name sc_is_name T.b_is_name rfl rfl rfl (by decide) fun cdv A outer s H E o r =>
    (ss_cons (s_if (PW.pt (w_or (t_not (t_vl (k_isi PV.ty_str (fun _ => rfl) T.n_isinstance T.n_str rfl (e_var (pv 0))))) (w_or1 (t_not (t_chn (z_le o) (z_le o) k_int (k_blt (c_len o.hk) T.n_len (k_cons (e_var (pv 0)) k_nil)) k_int))))) (ss_cons (s_ret k_bl)
      ss_nil) ss_nil)
      (ss_cons (s_ret (k_blt (c_all o.hc o.hk) T.n_all (k_cons (k_lc o (own := [("letter", 1)]) (p_seq (e_var (pv 0))) (blkOk_by (N := N_is_name) (sc := defScope st_is_name) (by decide +kernel)) (by decide) (fun _ _ _ _ _ => (g_nm o.blk (i := 1) rfl (by first | exact .inl rfl | exact .inr rfl) (by first | exact .inl rfl | exact .inr rfl))) (fun _ _ _ _ _ => kt_nil) (fun _ _ _ _ _ => (k_cmp (z_in o.blk) (e_var (pv 1)) k_str))) k_nil)))
      ss_nil))
theorem K_is_lot (T : Tx K mg) : ∀ n, Keeps P w K mg base T.nm (runF Pr n 47) 4 T.A_is_lot := fun n => by
  cases n with
  | zero => exact keeps_zero T.F_is_lot
  | succ n =>
  have F_is_name := K_is_name (P := P) (w := w) (base := base) T n
  have F_is_many := K_is_many (P := P) (w := w) (base := base) T n
  exact keeps_of T.F_is_lot sc_is_lot T.b_is_lot rfl rfl rfl (by decide) fun cdv A outer s H E o r =>
    (ss_cons (s_ret (k_and (k_isi PV.ty_tuple (fun _ => rfl) T.n_isinstance T.n_tuple rfl (e_var (pv 0))) (k_and (k_cmp (z_eq o) (k_blt (c_len o.hk) T.n_len (k_cons (e_var (pv 0)) k_nil)) k_int) (k_and (k_call F_is_name T.g_is_name (r.mono (by decide)) o (k_cons (k_sub o (e_var (pv 0)) k_int) k_nil)) (k_one (k_call F_is_many T.g_is_many (r.mono (by decide)) o (k_cons (k_sub o (e_var (pv 0)) k_int) k_nil)))))))
      ss_nil)
theorem K_require_lots (T : Tx K mg) : ∀ n, Keeps P w K mg base T.nm (runF Pr n 48) 5 T.A_require_lots := fun n => by
  cases n with
  | zero => exact keeps_zero T.F_require_lots
  | succ n =>
  have F_is_lot := K_is_lot (P := P) (w := w) (base := base) T n
  exact keeps_of T.F_require_lots sc_require_lots T.b_require_lots rfl rfl rfl (by decide) fun cdv A outer s H E o r =>
    (ss_cons (s_if (PW.pt (w_or (t_not (t_vl (k_isi PV.ty_list (fun _ => rfl) T.n_isinstance T.n_list rfl (e_var (pv 0))))) (w_or1 (t_not (t_chn (z_le o) (z_le o) k_int (k_blt (c_len o.hk) T.n_len (k_cons (e_var (pv 0)) k_nil)) (e_var (pv 1))))))) (ss_cons s_wall
      ss_nil) ss_nil)
      (ss_cons (s_forE o PassesOwn.never T.n_enumerate (pv 0) (g_tp o (gn_cons o (i := 2) rfl (by first | exact .inl rfl | exact .inr rfl) (by first | exact .inl rfl | exact .inr rfl) (gn_cons o (i := 3) rfl (by first | exact .inl rfl | exact .inr rfl) (by first | exact .inl rfl | exact .inr rfl) gn_nil))) (ss_cons (s_if (t_not (t_vl (k_call F_is_lot T.g_is_lot (r.mono (by decide)) o (k_cons (e_var (pv 3)) k_nil)))) (ss_cons s_wall
      ss_nil) ss_nil)
      ss_nil))
      ss_nil))
theorem K_Plan_init (T : Tx K mg) : ∀ n, Keeps P w K mg base T.nm (runF Pr n 50) 6 T.A_Plan_init := fun n => by
  cases n with
  | zero => exact keeps_zero T.F_Plan_init
  | succ n =>
  have F_is_many := K_is_many (P := P) (w := w) (base := base) T n
  have F_require_lots := K_require_lots (P := P) (w := w) (base := base) T n
  exact keeps_of T.F_Plan_init sc_Plan_init T.b_Plan_init rfl rfl rfl (by decide) fun cdv A outer s H E o r =>
    (ss_cons (s_exp (k_call F_require_lots T.g_require_lots (r.mono (by decide)) o (k_cons (e_var (pv 1)) (k_cons (k_glbI T.i_MOST_LOTS) k_nil))))
      (ss_cons (s_if (t_not (t_vl (k_call F_is_many T.g_is_many (r.mono (by decide)) o (k_cons (e_var (pv 2)) k_nil)))) (ss_cons s_wall
      ss_nil) ss_nil)
      (ss_cons (s_fld o (kt T) (i := 0) (pv 0) (k_typ (c_tuple o.hk) T.n_tuple (k_cons (e_var (pv 1)) k_nil)))
      (ss_cons (s_fld o (kt T) (i := 0) (pv 0) (e_var (pv 2)))
      ss_nil))))
theorem K_Plan_lots (T : Tx K mg) : ∀ n, Keeps P w K mg base T.nm (runF Pr n 51) 1 T.A_Plan_lots := fun n => by
  cases n with
  | zero => exact keeps_zero T.F_Plan_lots
  | succ n =>
  exact keeps_of T.F_Plan_lots sc_Plan_lots T.b_Plan_lots rfl rfl rfl (by decide) fun cdv A outer s H E o r =>
    (ss_cons (s_ret (k_typ (c_list o.hc o.hk) T.n_list (k_cons (k_fld o (kt T) (e_var (pv 0))) k_nil)))
      ss_nil)
theorem K_Plan_rounds (T : Tx K mg) : ∀ n, Keeps P w K mg base T.nm (runF Pr n 52) 1 T.A_Plan_rounds := fun n => by
  cases n with
  | zero => exact keeps_zero T.F_Plan_rounds
  | succ n =>
  exact keeps_of T.F_Plan_rounds sc_Plan_rounds T.b_Plan_rounds rfl rfl rfl (by decide) fun cdv A outer s H E o r =>
    (ss_cons (s_ret (k_fld o (kt T) (e_var (pv 0))))
      ss_nil)
theorem K_Plan_pieces (T : Tx K mg) : ∀ n, Keeps P w K mg base T.nm (runF Pr n 53) 1 T.A_Plan_pieces := fun n => by
  cases n with
  | zero => exact keeps_zero T.F_Plan_pieces
  | succ n =>
  exact keeps_of T.F_Plan_pieces sc_Plan_pieces T.b_Plan_pieces rfl rfl rfl (by decide) fun cdv A outer s H E o r =>
    (ss_cons (s_ret (k_bin (z_mul o) (k_fld o (kt T) (e_var (pv 0))) (k_blt (c_sum o.hc o.hk) T.n_sum (k_cons (k_lc o (own := [("name", 1), ("many", 2)]) (p_seq (k_fld o (kt T) (e_var (pv 0)))) (blkOk_by (N := N_Plan_pieces) (sc := defScope st_Plan_pieces) (by decide +kernel)) (by decide) (fun _ _ _ _ _ => (g_tp o.blk (gn_cons o.blk (i := 1) rfl (by first | exact .inl rfl | exact .inr rfl) (by first | exact .inl rfl | exact .inr rfl) (gn_cons o.blk (i := 2) rfl (by first | exact .inl rfl | exact .inr rfl) (by first | exact .inl rfl | exact .inr rfl) gn_nil)))) (fun _ _ _ _ _ => kt_nil) (fun _ _ _ _ _ => (e_var (pv 2)))) k_nil))))
      ss_nil)
theorem K_Plan_names (T : Tx K mg) : ∀ n, Keeps P w K mg base T.nm (runF Pr n 54) 1 T.A_Plan_names := fun n => by
  cases n with
  | zero => exact keeps_zero T.F_Plan_names
  | succ n =>
  exact keeps_of T.F_Plan_names sc_Plan_names T.b_Plan_names rfl rfl rfl (by decide) fun cdv A outer s H E o r =>
    (ss_cons (s_ret (k_sset o T.n_sorted T.n_set (k_lc o (own := [("name", 1), ("many", 2)]) (p_seq (k_fld o (kt T) (e_var (pv 0)))) (blkOk_by (N := N_Plan_names) (sc := defScope st_Plan_names) (by decide +kernel)) (by decide) (fun _ _ _ _ _ => (g_tp o.blk (gn_cons o.blk (i := 1) rfl (by first | exact .inl rfl | exact .inr rfl) (by first | exact .inl rfl | exact .inr rfl) (gn_cons o.blk (i := 2) rfl (by first | exact .inl rfl | exact .inr rfl) (by first | exact .inl rfl | exact .inr rfl) gn_nil)))) (fun _ _ _ _ _ => kt_nil) (fun _ _ _ _ _ => (e_var (pv 1))))))
      ss_nil)
theorem K_lot_at (T : Tx K mg) : ∀ n, Keeps P w K mg base T.nm (runF Pr n 59) 3 T.A_lot_at := fun n => by
  cases n with
  | zero => exact keeps_zero T.F_lot_at
  | succ n =>
  have F_Plan_pieces := K_Plan_pieces (P := P) (w := w) (base := base) T n
  exact keeps_of T.F_lot_at sc_lot_at T.b_lot_at rfl rfl rfl (by decide) fun cdv A outer s H E o r =>
    (ss_cons (s_asgT o (own := false) (fun _ => by intro z; cases z) (k_blt c_dvm T.n_divmod (k_cons (k_bin (z_sub o) (e_var (pv 1)) k_int) (k_cons (k_bin (z_fdv o) (k_prop (Cn := 1) T.cl_Plan T.p_Plan_pieces F_Plan_pieces only_Plan_pieces (r.mono (by decide)) o (e_var (pv 0))) (k_fld o (kt T) (e_var (pv 0)))) k_nil))) (g_tp o (gn_cons o (i := 2) rfl (by first | exact .inl rfl | exact .inr rfl) (by first | exact .inl rfl | exact .inr rfl) (gn_cons o (i := 3) rfl (by first | exact .inl rfl | exact .inr rfl) (by first | exact .inl rfl | exact .inr rfl) gn_nil))))
      (ss_cons (s_asg o (i := 4) (own := false) rfl (by first | exact .inl rfl | exact .inr rfl) k_int (by first | exact .inl rfl | exact .inr rfl))
      (ss_cons (s_whl PassesOwn.never (t_cmp (z_ge o) (e_var (pv 3)) (k_sub o (k_sub o (k_fld o (kt T) (e_var (pv 0))) (e_var (pv 4))) k_int)) (ss_cons (s_aug o (i := 3) rfl (by first | exact .inl rfl | exact .inr rfl) (k_sub o (k_sub o (k_fld o (kt T) (e_var (pv 0))) (e_var (pv 4))) k_int) q_sub (by first | exact .inl rfl | exact .inr rfl))
      (ss_cons (s_aug o (i := 4) rfl (by first | exact .inl rfl | exact .inr rfl) k_int q_add (by first | exact .inl rfl | exact .inr rfl))
      ss_nil)))
      (ss_cons (s_ret (k_tup (k_cons (e_var (pv 2)) (k_cons (e_var (pv 4)) (k_cons (e_var (pv 3)) k_nil)))))
      ss_nil))))
theorem K_require_piece (T : Tx K mg) : ∀ n, Keeps P w K mg base T.nm (runF Pr n 60) 3 T.A_require_piece := fun n => by
  cases n with
  | zero => exact keeps_zero T.F_require_piece
  | succ n =>
  have F_is_whole := K_is_whole (P := P) (w := w) (base := base) T n
  have F_Plan_pieces := K_Plan_pieces (P := P) (w := w) (base := base) T n
  exact keeps_of T.F_require_piece sc_require_piece T.b_require_piece rfl rfl rfl (by decide) fun cdv A outer s H E o r =>
    (ss_cons (s_if (t_not (t_vl (k_call F_is_whole T.g_is_whole (r.mono (by decide)) o (k_cons (e_var (pv 1)) (k_cons k_int (k_cons (k_prop (Cn := 1) T.cl_Plan T.p_Plan_pieces F_Plan_pieces only_Plan_pieces (r.mono (by decide)) o (e_var (pv 0))) k_nil)))))) (ss_cons s_wall
      ss_nil) ss_nil)
      ss_nil)
theorem K_Plan_kind_of (T : Tx K mg) : ∀ n, Keeps P w K mg base T.nm (runF Pr n 56) 4 T.A_Plan_kind_of := fun n => by
  cases n with
  | zero => exact keeps_zero T.F_Plan_kind_of
  | succ n =>
  have F_lot_at := K_lot_at (P := P) (w := w) (base := base) T n
  have F_require_piece := K_require_piece (P := P) (w := w) (base := base) T n
  exact keeps_of T.F_Plan_kind_of sc_Plan_kind_of T.b_Plan_kind_of rfl rfl rfl (by decide) fun cdv A outer s H E o r =>
    (ss_cons (s_exp (k_call F_require_piece T.g_require_piece (r.mono (by decide)) o (k_cons (e_var (pv 0)) (k_cons (e_var (pv 1)) k_nil))))
      (ss_cons (s_ret (k_sub o (k_sub o (k_fld o (kt T) (e_var (pv 0))) (k_sub o (k_call F_lot_at T.g_lot_at (r.mono (by decide)) o (k_cons (e_var (pv 0)) (k_cons (e_var (pv 1)) k_nil))) k_int)) k_int))
      ss_nil))
theorem K_Plan_how_many (T : Tx K mg) : ∀ n, Keeps P w K mg base T.nm (runF Pr n 57) 2 T.A_Plan_how_many := fun n => by
  cases n with
  | zero => exact keeps_zero T.F_Plan_how_many
  | succ n =>
  have F_is_name := K_is_name (P := P) (w := w) (base := base) T n
  exact keeps_of T.F_Plan_how_many sc_Plan_how_many T.b_Plan_how_many rfl rfl rfl (by decide) fun cdv A outer s H E o r =>
    (ss_cons (s_if (t_not (t_vl (k_call F_is_name T.g_is_name (r.mono (by decide)) o (k_cons (e_var (pv 1)) k_nil)))) (ss_cons s_wall
      ss_nil) ss_nil)
      (ss_cons (s_ret (k_bin (z_mul o) (k_fld o (kt T) (e_var (pv 0))) (k_blt (c_sum o.hc o.hk) T.n_sum (k_cons (k_lc o (own := [("own", 2), ("many", 3)]) (p_seq (k_fld o (kt T) (e_var (pv 0)))) (blkOk_by (N := N_Plan_how_many) (sc := defScope st_Plan_how_many) (by decide +kernel)) (by decide) (fun _ _ _ _ _ => (g_tp o.blk (gn_cons o.blk (i := 2) rfl (by first | exact .inl rfl | exact .inr rfl) (by first | exact .inl rfl | exact .inr rfl) (gn_cons o.blk (i := 3) rfl (by first | exact .inl rfl | exact .inr rfl) (by first | exact .inl rfl | exact .inr rfl) gn_nil)))) (fun _ _ _ _ _ => (kt_one (t_cmp (z_eq o.blk) (e_var (pv 2)) (e_var (pv 1))))) (fun _ _ _ _ _ => (e_var (pv 3)))) k_nil))))
      ss_nil))
theorem K_Plan_backwards (T : Tx K mg) : ∀ n, Keeps P w K mg base T.nm (runF Pr n 58) 8 T.A_Plan_backwards := fun n => by
  cases n with
  | zero => exact keeps_zero T.F_Plan_backwards
  | succ n =>
  have F_Plan_init := K_Plan_init (P := P) (w := w) (base := base) T n
  exact keeps_of T.F_Plan_backwards sc_Plan_backwards T.b_Plan_backwards rfl rfl rfl (by decide) fun cdv A outer s H E o r =>
    (ss_cons (s_ret (k_new (C := 1) T.mk_Plan F_Plan_init rfl T.g_Plan (r.mono (by decide)) o (k_cons (k_typ (c_list o.hc o.hk) T.n_list (k_cons (k_rev o (k_fld o (kt T) (e_var (pv 0)))) k_nil)) (k_cons (k_fld o (kt T) (e_var (pv 0))) k_nil))))
      ss_nil)
theorem K_law_bag (T : Tx K mg) : ∀ n, Keeps P w K mg base T.nm (runF Pr n 61) 1 T.A_law_bag := fun n => by
  cases n with
  | zero => exact keeps_zero T.F_law_bag
  | succ n =>
  exact keeps_of T.F_law_bag sc_law_bag T.b_law_bag rfl rfl rfl (by decide) fun cdv A outer s H E o r =>
    (ss_cons (s_ret (k_lst (k_cons (k_blt (c_max2 o.hc) T.n_max (k_cons k_int (k_cons (k_bin (z_sub o) (e_var (pv 0)) (k_bin (z_pow o) k_int k_int)) k_nil))) (k_cons (e_var (pv 0)) (k_cons k_int k_nil)))))
      ss_nil)
theorem K_law_pick (T : Tx K mg) : ∀ n, Keeps P w K mg base T.nm (runF Pr n 62) 1 T.A_law_pick := fun n => by
  cases n with
  | zero => exact keeps_zero T.F_law_pick
  | succ n =>
  exact keeps_of T.F_law_pick sc_law_pick T.b_law_pick rfl rfl rfl (by decide) fun cdv A outer s H E o r =>
    (ss_cons (s_sub o (i := 0) (pv 0) k_int (k_bin (z_add o) (k_sub o (e_var (pv 0)) k_int) k_int))
      (ss_cons (s_if (t_cmp (z_gt o) (k_sub o (e_var (pv 0)) k_int) k_int) (ss_cons (s_asg o (i := 2) (own := false) rfl (by first | exact .inl rfl | exact .inr rfl) (k_bin (z_mod o) (k_typ c_int T.n_int (k_cons (k_sub o (e_var (pv 0)) k_int) k_nil)) (e_var (pv 1))) (by first | exact .inl rfl | exact .inr rfl))
      (ss_cons (s_sub o (i := 0) (pv 0) k_int (k_bin (z_fdv o) (k_typ c_int T.n_int (k_cons (k_sub o (e_var (pv 0)) k_int) k_nil)) (e_var (pv 1))))
      (ss_cons (s_ret (e_var (pv 2)))
      ss_nil))) ss_nil)
      (ss_cons (s_par2 o (i := 3) (j := 4) (owns := [false, false]) rfl rfl (by decide) rfl rfl (k_cons (k_typ c_int T.n_int (k_cons (k_sub o (e_var (pv 0)) k_int) k_nil)) (k_cons (k_typ c_int T.n_int (k_cons (k_sub o (e_var (pv 0)) k_int) k_nil)) k_nil)))
      (ss_cons (s_asg o (i := 5) (own := false) rfl (by first | exact .inl rfl | exact .inr rfl) (k_bin (z_mod o) (k_typ c_int T.n_int (k_cons (k_bin (z_add o) (k_bin (z_add o) (k_bin (z_mul o) (k_bin (z_mod o) (e_var (pv 3)) k_int) k_int) (k_bin (z_mul o) (e_var (pv 4)) k_int)) k_int) k_nil)) k_int) (by first | exact .inl rfl | exact .inr rfl))
      (ss_cons (s_asg o (i := 6) (own := false) rfl (by first | exact .inl rfl | exact .inr rfl) (k_bin (z_mod o) (k_typ c_int T.n_int (k_cons (k_bin (z_add o) (k_bin (z_mul o) (e_var (pv 5)) (e_var (pv 5))) (k_bin (z_mul o) (e_var (pv 4)) k_int)) k_nil)) k_int) (by first | exact .inl rfl | exact .inr rfl))
      (ss_cons (s_asg o (i := 7) (own := false) rfl (by first | exact .inl rfl | exact .inr rfl) (k_bin (z_fdv o) (k_typ c_int T.n_int (k_cons (k_bin (z_add o) (k_bin (z_mul o) (e_var (pv 5)) k_int) (e_var (pv 6))) k_nil)) k_int) (by first | exact .inl rfl | exact .inr rfl))
      (ss_cons (s_if (t_cmp (z_gt o) (e_var (pv 1)) (k_bin (z_pow o) k_int k_int)) (ss_cons (s_asg o (i := 7) (own := false) rfl (by first | exact .inl rfl | exact .inr rfl) (k_bin (z_add o) (k_bin (z_pow o) (e_var (pv 7)) k_int) (e_var (pv 6))) (by first | exact .inl rfl | exact .inr rfl))
      ss_nil) ss_nil)
      (ss_cons (s_ret (k_bin (z_mod o) (k_typ c_int T.n_int (k_cons (e_var (pv 7)) k_nil)) (e_var (pv 1))))
      ss_nil))))))))
theorem K_law_names (T : Tx K mg) : ∀ n, Keeps P w K mg base T.nm (runF Pr n 63) 2 T.A_law_names := fun n => by
  cases n with
  | zero => exact keeps_zero T.F_law_names
  | succ n =>
  have F_law_pick := K_law_pick (P := P) (w := w) (base := base) T n
  exact keeps_of T.F_law_names sc_law_names T.b_law_names rfl rfl rfl (by decide) fun cdv A outer s H E o r =>
    (ss_cons (s_asg o (i := 2) (own := true) rfl (by first | exact .inl rfl | exact .inr rfl) (k_lst k_nil) (by first | exact .inl rfl | exact .inr rfl))
      (ss_cons (s_for o PassesOwn.never (p_rng T.n_range (e_var (pv 1))) (g_nm o (i := 3) rfl (by first | exact .inl rfl | exact .inr rfl) (by first | exact .inl rfl | exact .inr rfl)) (ss_cons (s_setLc o (i := 4) (w := false) rfl rfl (sw_true rfl rfl rfl (by decide +kernel)) (own := [("_law_spot", 6)]) (p_rng T.n_range (k_bin (z_add o) k_int (k_call F_law_pick T.g_law_pick (r.mono (by decide)) o (k_cons (e_var (pv 0)) (k_cons k_int k_nil))))) (blkOk_by (N := N_law_names) (sc := defScope st_law_names) (by decide +kernel)) (by decide) (fun _ _ _ _ _ => (g_nm o.blk (i := 6) rfl (by first | exact .inl rfl | exact .inr rfl) (by first | exact .inl rfl | exact .inr rfl))) (fun _ _ _ _ _ => kt_nil) (fun _ _ _ _ _ => (k_sub o.blk k_str (k_call F_law_pick T.g_law_pick (r.mono (by decide)) o.blk (k_cons (e_var (pv 0)) (k_cons k_int k_nil))))))
      (ss_cons (s_asg o (i := 5) (own := false) rfl (by first | exact .inl rfl | exact .inr rfl) (k_sl o (k_join o (e_var (pv 4))) pb_none (pb_some rfl) po_none (po_some (k_sub o (k_lst (k_cons k_int (k_cons k_int (k_cons k_int (k_cons k_int k_nil))))) (k_call F_law_pick T.g_law_pick (r.mono (by decide)) o (k_cons (e_var (pv 0)) (k_cons k_int k_nil)))))) (by first | exact .inl rfl | exact .inr rfl))
      (ss_cons (s_exp (k_mut (mo := .append) o PySem.F.slot_list_append PySem.F.type_list_append mt_append (pv 2) (k_cons (k_sub o (k_lc o (own := [("_law_spare", 7)]) (p_seq (k_lst (k_cons (e_var (pv 5)) (k_cons k_str (k_cons k_str (k_cons k_str (k_cons k_str (k_cons k_str (k_cons k_str k_nil))))))))) (blkOk_by (N := N_law_names) (sc := defScope st_law_names) (by decide +kernel)) (by decide) (fun _ _ _ _ _ => (g_nm o.blk (i := 7) rfl (by first | exact .inl rfl | exact .inr rfl) (by first | exact .inl rfl | exact .inr rfl))) (fun _ _ _ _ _ => (kt_one (t_cmp (z_nin o.blk) (e_var (pv 7)) (e_var (pv 2))))) (fun _ _ _ _ _ => (e_var (pv 7)))) k_int) k_nil)))
      ss_nil))))
      (ss_cons (s_ret (e_var (pv 2)))
      ss_nil)))
theorem K_law_lots (T : Tx K mg) : ∀ n, Keeps P w K mg base T.nm (runF Pr n 64) 2 T.A_law_lots := fun n => by
  cases n with
  | zero => exact keeps_zero T.F_law_lots
  | succ n =>
  have F_law_pick := K_law_pick (P := P) (w := w) (base := base) T n
  exact keeps_of T.F_law_lots sc_law_lots T.b_law_lots rfl rfl rfl (by decide) fun cdv A outer s H E o r =>
    (ss_cons (s_asg o (i := 4) (own := false) rfl (by first | exact .inl rfl | exact .inr rfl) (k_blt (c_sorted o.hc o.hk) T.n_sorted (k_cons (e_var (pv 1)) k_nil)) (by first | exact .inl rfl | exact .inr rfl))
      (ss_cons (s_ret (k_lc o (own := [("_law_turn", 5)]) (p_rng T.n_range (k_bin (z_add o) k_int (k_call F_law_pick T.g_law_pick (r.mono (by decide)) o (k_cons (e_var (pv 0)) (k_cons (e_var (pv 2)) k_nil))))) (blkOk_by (N := N_law_lots) (sc := defScope st_law_lots) (by decide +kernel)) (by decide) (fun _ _ _ _ _ => (g_nm o.blk (i := 5) rfl (by first | exact .inl rfl | exact .inr rfl) (by first | exact .inl rfl | exact .inr rfl))) (fun _ _ _ _ _ => kt_nil) (fun _ _ _ _ _ => (k_tup (k_cons (k_sub o.blk (e_var (pv 4)) (k_call F_law_pick T.g_law_pick (r.mono (by decide)) o.blk (k_cons (e_var (pv 0)) (k_cons (k_blt (c_len o.blk.hk) T.n_len (k_cons (e_var (pv 4)) k_nil)) k_nil)))) (k_cons (k_bin (z_add o.blk) k_int (k_call F_law_pick T.g_law_pick (r.mono (by decide)) o.blk (k_cons (e_var (pv 0)) (k_cons (e_var (pv 3)) k_nil)))) k_nil))))))
      ss_nil))
theorem K_law_pieces (T : Tx K mg) : ∀ n, Keeps P w K mg base T.nm (runF Pr n 65) 1 T.A_law_pieces := fun n => by
  cases n with
  | zero => exact keeps_zero T.F_law_pieces
  | succ n =>
  exact keeps_of T.F_law_pieces sc_law_pieces T.b_law_pieces rfl rfl rfl (by decide) fun cdv A outer s H E o r =>
    (ss_cons (s_asg o (i := 2) (own := true) rfl (by first | exact .inl rfl | exact .inr rfl) (k_lst k_nil) (by first | exact .inl rfl | exact .inr rfl))
      (ss_cons (s_for o PassesOwn.never (p_seq (e_var (pv 0))) (g_tp o (gn_cons o (i := 3) rfl (by first | exact .inl rfl | exact .inr rfl) (by first | exact .inl rfl | exact .inr rfl) (gn_cons o (i := 4) rfl (by first | exact .inl rfl | exact .inr rfl) (by first | exact .inl rfl | exact .inr rfl) gn_nil))) (ss_cons (s_exp (k_mut (mo := .extend) o PySem.F.slot_list_extend PySem.F.type_list_extend mt_ext (pv 2) (k_cons (k_bin (z_mul o) (k_lst (k_cons (e_var (pv 3)) k_nil)) (e_var (pv 4))) k_nil)))
      ss_nil))
      (ss_cons (s_ret (k_bin (z_mul o) (e_var (pv 2)) (e_var (pv 1))))
      ss_nil)))
theorem K_law_is (T : Tx K mg) : ∀ n, Keeps P w K mg base T.nm (runF Pr n 66) 1 T.A_law_is := fun n => by
  cases n with
  | zero => exact keeps_zero T.F_law_is
  | succ n =>
  exact keeps_of T.F_law_is sc_law_is T.b_law_is rfl rfl rfl (by decide) fun cdv A outer s H E o r =>
    (ss_cons (s_ret (k_and (k_isi PV.ty_int (fun _ => rfl) T.n_isinstance T.n_int rfl (e_var (pv 0))) (k_and (k_not (k_isi PV.ty_bool (fun _ => rfl) T.n_isinstance T.n_bool rfl (e_var (pv 0)))) (k_one (k_cmp (z_eq o) (e_var (pv 0)) (e_var (pv 1)))))))
      ss_nil)
theorem K_law_told_right (T : Tx K mg) : ∀ n, Keeps P w K mg base T.nm (runF Pr n 67) 3 T.A_law_told_right := fun n => by
  cases n with
  | zero => exact keeps_zero T.F_law_told_right
  | succ n =>
  have F_law_is := K_law_is (P := P) (w := w) (base := base) T n
  have F_Plan_pieces := K_Plan_pieces (P := P) (w := w) (base := base) T n
  have F_Plan_names := K_Plan_names (P := P) (w := w) (base := base) T n
  have F_law_pieces := K_law_pieces (P := P) (w := w) (base := base) T n
  have F_Plan_rounds := K_Plan_rounds (P := P) (w := w) (base := base) T n
  have F_Plan_lots := K_Plan_lots (P := P) (w := w) (base := base) T n
  exact keeps_of T.F_law_told_right sc_law_told_right T.b_law_told_right rfl rfl rfl (by decide) fun cdv A outer s H E o r =>
    (ss_cons (s_if (t_cmp (z_ne o) (k_blt (c_repr o.hu o.hg) T.n_repr (k_cons (k_lst (k_cons (k_prop (Cn := 1) T.cl_Plan T.p_Plan_lots F_Plan_lots only_Plan_lots (r.mono (by decide)) o (e_var (pv 0))) (k_cons (k_prop (Cn := 1) T.cl_Plan T.p_Plan_rounds F_Plan_rounds only_Plan_rounds (r.mono (by decide)) o (e_var (pv 0))) k_nil))) k_nil)) (k_blt (c_repr o.hu o.hg) T.n_repr (k_cons (k_lst (k_cons (e_var (pv 1)) (k_cons (e_var (pv 2)) k_nil))) k_nil))) (ss_cons (s_ret k_bl)
      ss_nil) ss_nil)
      (ss_cons (s_asg o (i := 3) (own := false) rfl (by first | exact .inl rfl | exact .inr rfl) (k_call F_law_pieces T.g_law_pieces (r.mono (by decide)) o (k_cons (e_var (pv 1)) (k_cons (e_var (pv 2)) k_nil))) (by first | exact .inl rfl | exact .inr rfl))
      (ss_cons (s_ret (k_and (k_call F_law_is T.g_law_is (r.mono (by decide)) o (k_cons (k_prop (Cn := 1) T.cl_Plan T.p_Plan_pieces F_Plan_pieces only_Plan_pieces (r.mono (by decide)) o (e_var (pv 0))) (k_cons (k_blt (c_len o.hk) T.n_len (k_cons (e_var (pv 3)) k_nil)) k_nil))) (k_one (k_cmp (z_eq o) (k_prop (Cn := 1) T.cl_Plan T.p_Plan_names F_Plan_names only_Plan_names (r.mono (by decide)) o (e_var (pv 0))) (k_sset o T.n_sorted T.n_set (e_var (pv 3)))))))
      ss_nil)))
theorem K_law_pieces_right (T : Tx K mg) : ∀ n, Keeps P w K mg base T.nm (runF Pr n 68) 5 T.A_law_pieces_right := fun n => by
  cases n with
  | zero => exact keeps_zero T.F_law_pieces_right
  | succ n =>
  have F_law_is := K_law_is (P := P) (w := w) (base := base) T n
  have F_Plan_how_many := K_Plan_how_many (P := P) (w := w) (base := base) T n
  have F_Plan_kind_of := K_Plan_kind_of (P := P) (w := w) (base := base) T n
  exact keeps_of T.F_law_pieces_right sc_law_pieces_right T.b_law_pieces_right rfl rfl rfl (by decide) fun cdv A outer s H E o r =>
    (ss_cons (s_if (t_cmp (z_ne o) (k_lc o (own := [("_law_spot", 3)]) (p_rng T.n_range (k_blt (c_len o.hk) T.n_len (k_cons (e_var (pv 1)) k_nil))) (blkOk_by (N := N_law_pieces_right) (sc := defScope st_law_pieces_right) (by decide +kernel)) (by decide) (fun _ _ _ _ _ => (g_nm o.blk (i := 3) rfl (by first | exact .inl rfl | exact .inr rfl) (by first | exact .inl rfl | exact .inr rfl))) (fun _ _ _ _ _ => kt_nil) (fun _ _ _ _ _ => (k_meth (Cn := 1) T.cl_Plan T.m_Plan_kind_of F_Plan_kind_of only_Plan_kind_of free_Plan_kind_of (r.mono (by decide)) o.blk (e_var (pv 0)) (k_cons (k_bin (z_add o.blk) (e_var (pv 3)) k_int) k_nil)))) (e_var (pv 1))) (ss_cons (s_ret k_bl)
      ss_nil) ss_nil)
      (ss_cons (s_ret (k_cmp (z_eq o) (k_lc o (own := [("_law_name", 4)]) (p_seq (e_var (pv 2))) (blkOk_by (N := N_law_pieces_right) (sc := defScope st_law_pieces_right) (by decide +kernel)) (by decide) (fun _ _ _ _ _ => (g_nm o.blk (i := 4) rfl (by first | exact .inl rfl | exact .inr rfl) (by first | exact .inl rfl | exact .inr rfl))) (fun _ _ _ _ _ => (kt_one (t_not (t_vl (k_call F_law_is T.g_law_is (r.mono (by decide)) o.blk (k_cons (k_meth (Cn := 1) T.cl_Plan T.m_Plan_how_many F_Plan_how_many only_Plan_how_many free_Plan_how_many (r.mono (by decide)) o.blk (e_var (pv 0)) (k_cons (e_var (pv 4)) k_nil)) (k_cons (k_lcn o.blk (e_var (pv 1)) (e_var (pv 4))) k_nil))))))) (fun _ _ _ _ _ => (e_var (pv 4)))) (k_lst k_nil)))
      ss_nil))
theorem K_law_right (T : Tx K mg) : ∀ n, Keeps P w K mg base T.nm (runF Pr n 24) 9 T.A_law_right := fun n => by
  cases n with
  | zero => exact keeps_zero T.F_law_right
  | succ n =>
  have F_Plan_backwards := K_Plan_backwards (P := P) (w := w) (base := base) T n
  have F_Plan_lots := K_Plan_lots (P := P) (w := w) (base := base) T n
  have F_law_pieces_right := K_law_pieces_right (P := P) (w := w) (base := base) T n
  have F_law_told_right := K_law_told_right (P := P) (w := w) (base := base) T n
  have F_Plan_names := K_Plan_names (P := P) (w := w) (base := base) T n
  have F_law_pieces := K_law_pieces (P := P) (w := w) (base := base) T n
  have F_Plan_init := K_Plan_init (P := P) (w := w) (base := base) T n
  have F_law_pick := K_law_pick (P := P) (w := w) (base := base) T n
  have F_law_lots := K_law_lots (P := P) (w := w) (base := base) T n
  have F_law_names := K_law_names (P := P) (w := w) (base := base) T n
  exact keeps_of T.F_law_right sc_law_right T.b_law_right rfl rfl rfl (by decide) fun cdv A outer s H E o r =>
    (ss_cons (s_asg o (i := 1) (own := false) rfl (by first | exact .inl rfl | exact .inr rfl) (k_call F_law_names T.g_law_names (r.mono (by decide)) o (k_cons (e_var (pv 0)) (k_cons (k_bin (z_add o) k_int (k_call F_law_pick T.g_law_pick (r.mono (by decide)) o (k_cons (e_var (pv 0)) (k_cons k_int k_nil)))) k_nil))) (by first | exact .inl rfl | exact .inr rfl))
      (ss_cons (s_par2 o (i := 2) (j := 3) (owns := [false, false]) rfl rfl (by decide) rfl rfl (k_cons (k_call F_law_lots T.g_law_lots (r.mono (by decide)) o (k_cons (e_var (pv 0)) (k_cons (e_var (pv 1)) (k_cons k_int (k_cons (k_sub o (k_lst (k_cons k_int (k_cons k_int (k_cons k_int k_nil)))) (k_call F_law_pick T.g_law_pick (r.mono (by decide)) o (k_cons (e_var (pv 0)) (k_cons k_int k_nil)))) k_nil))))) (k_cons (k_bin (z_add o) k_int (k_call F_law_pick T.g_law_pick (r.mono (by decide)) o (k_cons (e_var (pv 0)) (k_cons k_int k_nil)))) k_nil)))
      (ss_cons (s_asg o (i := 4) (own := true) rfl (by first | exact .inl rfl | exact .inr rfl) (k_typ (c_list o.hc o.hk) T.n_list (k_cons (e_var (pv 2)) k_nil)) (by first | exact .inl rfl | exact .inr rfl))
      (ss_cons (s_asg o (i := 5) (own := false) rfl (by first | exact .inl rfl | exact .inr rfl) (k_new (C := 1) T.mk_Plan F_Plan_init rfl T.g_Plan (r.mono (by decide)) o (k_cons (e_var (pv 4)) (k_cons (e_var (pv 3)) k_nil))) (by first | exact .inl rfl | exact .inr rfl))
      (ss_cons (s_exp (k_mut (mo := .append) o PySem.F.slot_list_append PySem.F.type_list_append mt_append (pv 4) (k_cons (k_tup (k_cons k_str (k_cons k_int k_nil))) k_nil)))
      (ss_cons (s_par2 o (i := 6) (j := 7) (owns := [false, false]) rfl rfl (by decide) rfl rfl (k_cons (k_call F_law_pieces T.g_law_pieces (r.mono (by decide)) o (k_cons (e_var (pv 2)) (k_cons (e_var (pv 3)) k_nil))) (k_cons (k_bin (z_add o) (e_var (pv 1)) (k_lst (k_cons k_str (k_cons k_str (k_cons k_str k_nil))))) k_nil)))
      (ss_cons (s_if (PW.pt (w_or (t_not (t_vl (k_call F_law_told_right T.g_law_told_right (r.mono (by decide)) o (k_cons (e_var (pv 5)) (k_cons (e_var (pv 2)) (k_cons (e_var (pv 3)) k_nil)))))) (w_or1 (t_not (t_vl (k_call F_law_pieces_right T.g_law_pieces_right (r.mono (by decide)) o (k_cons (e_var (pv 5)) (k_cons (e_var (pv 6)) (k_cons (e_var (pv 7)) k_nil))))))))) (ss_cons (s_ret k_bl)
      ss_nil) ss_nil)
      (ss_cons (s_asg o (i := 8) (own := false) rfl (by first | exact .inl rfl | exact .inr rfl) (k_meth0 (Cn := 1) T.cl_Plan T.m_Plan_backwards F_Plan_backwards only_Plan_backwards free_Plan_backwards (r.mono (by decide)) o (e_var (pv 5))) (by first | exact .inl rfl | exact .inr rfl))
      (ss_cons (s_if (PW.pt (w_or (t_not (t_vl (k_call F_law_told_right T.g_law_told_right (r.mono (by decide)) o (k_cons (e_var (pv 8)) (k_cons (k_rev o (e_var (pv 2))) (k_cons (e_var (pv 3)) k_nil)))))) (w_or1 (t_not (t_vl (k_call F_law_pieces_right T.g_law_pieces_right (r.mono (by decide)) o (k_cons (e_var (pv 8)) (k_cons (k_rev o (e_var (pv 6))) (k_cons (e_var (pv 7)) k_nil))))))))) (ss_cons (s_ret k_bl)
      ss_nil) ss_nil)
      (ss_cons (s_apt o PassesOwn.never (j := 9) rfl (by first | exact .inl rfl | exact .inr rfl) (by first | exact .inl rfl | exact .inr rfl) (pv 9) (k_cons (k_prop (Cn := 1) T.cl_Plan T.p_Plan_lots F_Plan_lots only_Plan_lots (r.mono (by decide)) o (e_var (pv 5))) (k_cons (k_prop (Cn := 1) T.cl_Plan T.p_Plan_names F_Plan_names only_Plan_names (r.mono (by decide)) o (e_var (pv 5))) (k_cons (k_prop (Cn := 1) T.cl_Plan T.p_Plan_lots F_Plan_lots only_Plan_lots (r.mono (by decide)) o (e_var (pv 8))) (k_cons (k_prop (Cn := 1) T.cl_Plan T.p_Plan_names F_Plan_names only_Plan_names (r.mono (by decide)) o (e_var (pv 8))) k_nil)))) pe_str pe_int)
      (ss_cons (s_if (PW.pt (w_or (t_not (t_vl (k_call F_law_told_right T.g_law_told_right (r.mono (by decide)) o (k_cons (e_var (pv 5)) (k_cons (e_var (pv 2)) (k_cons (e_var (pv 3)) k_nil)))))) (w_or1 (t_not (t_vl (k_call F_law_told_right T.g_law_told_right (r.mono (by decide)) o (k_cons (e_var (pv 8)) (k_cons (k_rev o (e_var (pv 2))) (k_cons (e_var (pv 3)) k_nil))))))))) (ss_cons (s_ret k_bl)
      ss_nil) ss_nil)
      (ss_cons (s_ret (k_and (k_cmp (z_eq o) (k_prop (Cn := 1) T.cl_Plan T.p_Plan_lots F_Plan_lots only_Plan_lots (r.mono (by decide)) o (k_meth0 (Cn := 1) T.cl_Plan T.m_Plan_backwards F_Plan_backwards only_Plan_backwards free_Plan_backwards (r.mono (by decide)) o (e_var (pv 8)))) (e_var (pv 2))) (k_one (k_call F_law_pieces_right T.g_law_pieces_right (r.mono (by decide)) o (k_cons (e_var (pv 5)) (k_cons (e_var (pv 6)) (k_cons (e_var (pv 7)) k_nil)))))))
      ss_nil))))))))))))
theorem K_law (T : Tx K mg) (n : Nat) : Keeps P w K mg base T.nm (runF Pr (n + 1) 25) 10 T.A_law := by
  have F_Plan_how_many := K_Plan_how_many (P := P) (w := w) (base := base) T n
  have F_Plan_kind_of := K_Plan_kind_of (P := P) (w := w) (base := base) T n
  have F_Plan_names := K_Plan_names (P := P) (w := w) (base := base) T n
  have F_Plan_pieces := K_Plan_pieces (P := P) (w := w) (base := base) T n
  have F_Plan_init := K_Plan_init (P := P) (w := w) (base := base) T n
  have F_law_right := K_law_right (P := P) (w := w) (base := base) T n
  have F_law_bag := K_law_bag (P := P) (w := w) (base := base) T n
  exact keeps_of T.F_law sc_law T.b_law rfl rfl rfl (by decide) fun cdv A outer s H E o r =>
    (ss_cons (s_for o PassesOwn.never (p_seq (k_bin (z_add o) (k_sl o (e_var (pv 0)) pb_none (pb_some rfl) po_none (po_some k_int)) (k_lst (k_cons k_int k_nil)))) (g_nm o (i := 1) rfl (by first | exact .inl rfl | exact .inr rfl) (by first | exact .inl rfl | exact .inr rfl)) (ss_cons (s_asg o (i := 2) (own := true) rfl (by first | exact .inl rfl | exact .inr rfl) (k_call F_law_bag T.g_law_bag (r.mono (by decide)) o (k_cons (e_var (pv 1)) k_nil)) (by first | exact .inl rfl | exact .inr rfl))
      (ss_cons (s_for o PassesOwn.never (p_rng T.n_range k_int) (g_nm o (i := 3) rfl (by first | exact .inl rfl | exact .inr rfl) (by first | exact .inl rfl | exact .inr rfl)) (ss_cons (s_if (t_not (t_vl (k_call F_law_right T.g_law_right (r.mono (by decide)) o (k_cons (e_var (pv 2)) k_nil)))) (ss_cons (s_ret k_bl)
      ss_nil) ss_nil)
      ss_nil))
      ss_nil)))
      (ss_cons (s_asg o (i := 4) (own := false) rfl (by first | exact .inl rfl | exact .inr rfl) (k_new (C := 1) T.mk_Plan F_Plan_init rfl T.g_Plan (r.mono (by decide)) o (k_cons (k_lst (k_cons (k_tup (k_cons k_str (k_cons k_int k_nil))) (k_cons (k_tup (k_cons k_str (k_cons k_int k_nil))) (k_cons (k_tup (k_cons k_str (k_cons k_int k_nil))) k_nil)))) (k_cons k_int k_nil))) (by first | exact .inl rfl | exact .inr rfl))
      (ss_cons (s_asg o (i := 5) (own := false) rfl (by first | exact .inl rfl | exact .inr rfl) (k_lst (k_cons (k_prop (Cn := 1) T.cl_Plan T.p_Plan_pieces F_Plan_pieces only_Plan_pieces (r.mono (by decide)) o (e_var (pv 4))) (k_cons (k_prop (Cn := 1) T.cl_Plan T.p_Plan_names F_Plan_names only_Plan_names (r.mono (by decide)) o (e_var (pv 4))) (k_cons (k_lc o (own := [("_law_piece", 6)]) (p_seq (k_tup (k_cons k_int (k_cons k_int (k_cons k_int (k_cons k_int (k_cons k_int k_nil))))))) (blkOk_by (N := N_law) (sc := defScope st_law) (by decide +kernel)) (by decide) (fun _ _ _ _ _ => (g_nm o.blk (i := 6) rfl (by first | exact .inl rfl | exact .inr rfl) (by first | exact .inl rfl | exact .inr rfl))) (fun _ _ _ _ _ => kt_nil) (fun _ _ _ _ _ => (k_meth (Cn := 1) T.cl_Plan T.m_Plan_kind_of F_Plan_kind_of only_Plan_kind_of free_Plan_kind_of (r.mono (by decide)) o.blk (e_var (pv 4)) (k_cons (e_var (pv 6)) k_nil)))) (k_cons (k_meth (Cn := 1) T.cl_Plan T.m_Plan_how_many F_Plan_how_many only_Plan_how_many free_Plan_how_many (r.mono (by decide)) o (e_var (pv 4)) (k_cons k_str k_nil)) k_nil))))) (by first | exact .inl rfl | exact .inr rfl))
      (ss_cons (s_ret (k_cmp (z_eq o) (e_var (pv 5)) (k_lst (k_cons k_int (k_cons (k_lst (k_cons k_str (k_cons k_str k_nil))) (k_cons (k_lst (k_cons k_str (k_cons k_str (k_cons k_str (k_cons k_str (k_cons k_str k_nil)))))) (k_cons k_int k_nil)))))))
      ss_nil))))
end
end L05

set_option Elab.async false
set_option linter.all false
set_option maxRecDepth 100000
set_option maxHeartbeats 4000000
namespace L05
open PySem L2 PV
theorem all_mk {l : PySem.W.OpenLaw} {w : World} {K : PySem.W.Frag} {h : Heap} {mg : Str → Option Value} {fa C_Plan A_is_int A_is_whole A_is_many A_is_name A_is_lot A_require_lots A_Plan_init A_Plan_lots P_Plan_lots A_Plan_rounds P_Plan_rounds A_Plan_pieces P_Plan_pieces A_Plan_names P_Plan_names A_Plan_kind_of A_Plan_how_many A_Plan_backwards A_lot_at A_require_piece A_law_bag A_law_pick A_law_names A_law_lots A_law_pieces A_law_is A_law_told_right A_law_pieces_right A_law_right A_law : Addr} {od_is_int an_is_int : Option Addr} {sl_is_int : Array (Option Value)} {oc_is_int kV_is_int dc_is_int pm_is_int cd_is_int ct_is_int : Value} {od_is_whole an_is_whole : Option Addr} {sl_is_whole : Array (Option Value)} {oc_is_whole kV_is_whole dc_is_whole pm_is_whole cd_is_whole ct_is_whole : Value} {od_is_many an_is_many : Option Addr} {sl_is_many : Array (Option Value)} {oc_is_many kV_is_many dc_is_many pm_is_many cd_is_many ct_is_many : Value} {od_is_name an_is_name : Option Addr} {sl_is_name : Array (Option Value)} {oc_is_name kV_is_name dc_is_name pm_is_name cd_is_name ct_is_name : Value} {od_is_lot an_is_lot : Option Addr} {sl_is_lot : Array (Option Value)} {oc_is_lot kV_is_lot dc_is_lot pm_is_lot cd_is_lot ct_is_lot : Value} {od_require_lots an_require_lots : Option Addr} {sl_require_lots : Array (Option Value)} {oc_require_lots kV_require_lots dc_require_lots pm_require_lots cd_require_lots ct_require_lots : Value} {od_Plan_init an_Plan_init : Option Addr} {sl_Plan_init : Array (Option Value)} {oc_Plan_init kV_Plan_init dc_Plan_init pm_Plan_init cd_Plan_init ct_Plan_init : Value} {od_Plan_lots an_Plan_lots : Option Addr} {sl_Plan_lots : Array (Option Value)} {oc_Plan_lots kV_Plan_lots dc_Plan_lots pm_Plan_lots cd_Plan_lots ct_Plan_lots : Value} {rest_Plan_lots : List Value} {od_Plan_rounds an_Plan_rounds : Option Addr} {sl_Plan_rounds : Array (Option Value)} {oc_Plan_rounds kV_Plan_rounds dc_Plan_rounds pm_Plan_rounds cd_Plan_rounds ct_Plan_rounds : Value} {rest_Plan_rounds : List Value} {od_Plan_pieces an_Plan_pieces : Option Addr} {sl_Plan_pieces : Array (Option Value)} {oc_Plan_pieces kV_Plan_pieces dc_Plan_pieces pm_Plan_pieces cd_Plan_pieces ct_Plan_pieces : Value} {rest_Plan_pieces : List Value} {od_Plan_names an_Plan_names : Option Addr} {sl_Plan_names : Array (Option Value)} {oc_Plan_names kV_Plan_names dc_Plan_names pm_Plan_names cd_Plan_names ct_Plan_names : Value} {rest_Plan_names : List Value} {od_Plan_kind_of an_Plan_kind_of : Option Addr} {sl_Plan_kind_of : Array (Option Value)} {oc_Plan_kind_of kV_Plan_kind_of dc_Plan_kind_of pm_Plan_kind_of cd_Plan_kind_of ct_Plan_kind_of : Value} {od_Plan_how_many an_Plan_how_many : Option Addr} {sl_Plan_how_many : Array (Option Value)} {oc_Plan_how_many kV_Plan_how_many dc_Plan_how_many pm_Plan_how_many cd_Plan_how_many ct_Plan_how_many : Value} {od_Plan_backwards an_Plan_backwards : Option Addr} {sl_Plan_backwards : Array (Option Value)} {oc_Plan_backwards kV_Plan_backwards dc_Plan_backwards pm_Plan_backwards cd_Plan_backwards ct_Plan_backwards : Value} {od_lot_at an_lot_at : Option Addr} {sl_lot_at : Array (Option Value)} {oc_lot_at kV_lot_at dc_lot_at pm_lot_at cd_lot_at ct_lot_at : Value} {od_require_piece an_require_piece : Option Addr} {sl_require_piece : Array (Option Value)} {oc_require_piece kV_require_piece dc_require_piece pm_require_piece cd_require_piece ct_require_piece : Value} {od_law_bag an_law_bag : Option Addr} {sl_law_bag : Array (Option Value)} {oc_law_bag kV_law_bag dc_law_bag pm_law_bag cd_law_bag ct_law_bag : Value} {od_law_pick an_law_pick : Option Addr} {sl_law_pick : Array (Option Value)} {oc_law_pick kV_law_pick dc_law_pick pm_law_pick cd_law_pick ct_law_pick : Value} {od_law_names an_law_names : Option Addr} {sl_law_names : Array (Option Value)} {oc_law_names kV_law_names dc_law_names pm_law_names cd_law_names ct_law_names : Value} {od_law_lots an_law_lots : Option Addr} {sl_law_lots : Array (Option Value)} {oc_law_lots kV_law_lots dc_law_lots pm_law_lots cd_law_lots ct_law_lots : Value} {od_law_pieces an_law_pieces : Option Addr} {sl_law_pieces : Array (Option Value)} {oc_law_pieces kV_law_pieces dc_law_pieces pm_law_pieces cd_law_pieces ct_law_pieces : Value} {od_law_is an_law_is : Option Addr} {sl_law_is : Array (Option Value)} {oc_law_is kV_law_is dc_law_is pm_law_is cd_law_is ct_law_is : Value} {od_law_told_right an_law_told_right : Option Addr} {sl_law_told_right : Array (Option Value)} {oc_law_told_right kV_law_told_right dc_law_told_right pm_law_told_right cd_law_told_right ct_law_told_right : Value} {od_law_pieces_right an_law_pieces_right : Option Addr} {sl_law_pieces_right : Array (Option Value)} {oc_law_pieces_right kV_law_pieces_right dc_law_pieces_right pm_law_pieces_right cd_law_pieces_right ct_law_pieces_right : Value} {od_law_right an_law_right : Option Addr} {sl_law_right : Array (Option Value)} {oc_law_right kV_law_right dc_law_right pm_law_right cd_law_right ct_law_right : Value} {od_law an_law : Option Addr} {sl_law : Array (Option Value)} {oc_law kV_law dc_law pm_law cd_law ct_law : Value} {t_MOST_LOTS : Nat} {t_MOST_NUMBER : Nat} (X : K.In h) (G : h.Ns mainGlobals mg) (hfa : mg "law" = some (.ref fa))
    (gC_Plan : PySem.W.nsIn K mainGlobals "Plan" = some (some (.ref C_Plan)))
    (pg_Plan : PySem.W.plainGet K C_Plan Str.empty = true)
    (hd_Plan : PySem.W.hasDictIn K C_Plan = true)
    (po_Plan : PySem.W.plainOver K C_Plan = true)
    (sa_Plan : PySem.W.findIn K (.ref C_Plan) "__setattr__" = some (some (.builtin "object.__setattr__")))
    (ha_Plan : PySem.W.findIn K (.ref C_Plan) "__class__" = some (some (.builtin "object.__class__")))
    (hn_Plan : PySem.W.specialIn K (.builtin "object.__class__") "__get__" = some (some (.builtin "getset_descriptor.__get__")))
    (ht_Plan : PySem.W.takesIn K (.builtin "object.__class__") = some true)
    (hm_Plan : PySem.W.mroIn K C_Plan (.type "object") = some true)
    (is_Plan : PySem.W.isClsIn K C_Plan = true)
    (ty_Plan : PySem.W.typeIn K (.ref C_Plan) = some (.type "type"))
    (noNoneType_Plan : PySem.W.subIn K (.type "NoneType") (.ref C_Plan) = some false)
    (nobool_Plan : PySem.W.subIn K (.type "bool") (.ref C_Plan) = some false)
    (noint_Plan : PySem.W.subIn K (.type "int") (.ref C_Plan) = some false)
    (nostr_Plan : PySem.W.subIn K (.type "str") (.ref C_Plan) = some false)
    (nolist_Plan : PySem.W.subIn K (.type "list") (.ref C_Plan) = some false)
    (notuple_Plan : PySem.W.subIn K (.type "tuple") (.ref C_Plan) = some false)
    (nodict_Plan : PySem.W.subIn K (.type "dict") (.ref C_Plan) = some false)
    (a_is_int : PySem.W.nsIn K mainGlobals "is_int" = some (some (.ref A_is_int)))
    (l_is_int : K.lookup A_is_int = some ⟨oc_is_int, od_is_int, .func (PySem.W.fnOf "is_int" "is_int" (defArgs st_is_int) (defBody st_is_int) (defScope st_is_int) .none kV_is_int dc_is_int pm_is_int an_is_int cd_is_int ct_is_int), sl_is_int⟩)
    (c_is_int : PySem.W.codeIn K cd_is_int "is_int" = true)
    (k_is_int : PySem.W.keepIn K (.ref A_is_int) = true)
    (a_is_whole : PySem.W.nsIn K mainGlobals "is_whole" = some (some (.ref A_is_whole)))
    (l_is_whole : K.lookup A_is_whole = some ⟨oc_is_whole, od_is_whole, .func (PySem.W.fnOf "is_whole" "is_whole" (defArgs st_is_whole) (defBody st_is_whole) (defScope st_is_whole) .none kV_is_whole dc_is_whole pm_is_whole an_is_whole cd_is_whole ct_is_whole), sl_is_whole⟩)
    (c_is_whole : PySem.W.codeIn K cd_is_whole "is_whole" = true)
    (k_is_whole : PySem.W.keepIn K (.ref A_is_whole) = true)
    (a_is_many : PySem.W.nsIn K mainGlobals "is_many" = some (some (.ref A_is_many)))
    (l_is_many : K.lookup A_is_many = some ⟨oc_is_many, od_is_many, .func (PySem.W.fnOf "is_many" "is_many" (defArgs st_is_many) (defBody st_is_many) (defScope st_is_many) .none kV_is_many dc_is_many pm_is_many an_is_many cd_is_many ct_is_many), sl_is_many⟩)
    (c_is_many : PySem.W.codeIn K cd_is_many "is_many" = true)
    (k_is_many : PySem.W.keepIn K (.ref A_is_many) = true)
    (a_is_name : PySem.W.nsIn K mainGlobals "is_name" = some (some (.ref A_is_name)))
    (l_is_name : K.lookup A_is_name = some ⟨oc_is_name, od_is_name, .func (PySem.W.fnOf "is_name" "is_name" (defArgs st_is_name) (defBody st_is_name) (defScope st_is_name) .none kV_is_name dc_is_name pm_is_name an_is_name cd_is_name ct_is_name), sl_is_name⟩)
    (c_is_name : PySem.W.codeIn K cd_is_name "is_name" = true)
    (k_is_name : PySem.W.keepIn K (.ref A_is_name) = true)
    (a_is_lot : PySem.W.nsIn K mainGlobals "is_lot" = some (some (.ref A_is_lot)))
    (l_is_lot : K.lookup A_is_lot = some ⟨oc_is_lot, od_is_lot, .func (PySem.W.fnOf "is_lot" "is_lot" (defArgs st_is_lot) (defBody st_is_lot) (defScope st_is_lot) .none kV_is_lot dc_is_lot pm_is_lot an_is_lot cd_is_lot ct_is_lot), sl_is_lot⟩)
    (c_is_lot : PySem.W.codeIn K cd_is_lot "is_lot" = true)
    (k_is_lot : PySem.W.keepIn K (.ref A_is_lot) = true)
    (a_require_lots : PySem.W.nsIn K mainGlobals "require_lots" = some (some (.ref A_require_lots)))
    (l_require_lots : K.lookup A_require_lots = some ⟨oc_require_lots, od_require_lots, .func (PySem.W.fnOf "require_lots" "require_lots" (defArgs st_require_lots) (defBody st_require_lots) (defScope st_require_lots) .none kV_require_lots dc_require_lots pm_require_lots an_require_lots cd_require_lots ct_require_lots), sl_require_lots⟩)
    (c_require_lots : PySem.W.codeIn K cd_require_lots "require_lots" = true)
    (k_require_lots : PySem.W.keepIn K (.ref A_require_lots) = true)
    (a_Plan_init : PySem.W.findIn K (.ref C_Plan) "__init__" = some (some (.ref A_Plan_init)))
    (l_Plan_init : K.lookup A_Plan_init = some ⟨oc_Plan_init, od_Plan_init, .func (PySem.W.fnOf "__init__" "Plan.__init__" (defArgs st_Plan_init) (defBody st_Plan_init) (defScope st_Plan_init) .none kV_Plan_init dc_Plan_init pm_Plan_init an_Plan_init cd_Plan_init ct_Plan_init), sl_Plan_init⟩)
    (c_Plan_init : PySem.W.codeIn K cd_Plan_init "Plan.__init__" = true)
    (k_Plan_init : PySem.W.keepIn K (.ref A_Plan_init) = true)
    (i_Plan_init : PySem.W.isFn K (.ref A_Plan_init) = true)
    (mk_Plan : PySem.W.makesIn K C_Plan = true)
    (kc_Plan : PySem.W.keepIn K (.ref C_Plan) = true)
    (a_Plan_lots : PySem.W.findIn K (.ref C_Plan) "lots" = some (some (.ref P_Plan_lots)))
    (pget_Plan_lots : PySem.W.specialIn K (.ref P_Plan_lots) "__get__" = some (some (.builtin "property.__get__")))
    (ptak_Plan_lots : PySem.W.takesIn K (.ref P_Plan_lots) = some true)
    (prec_Plan_lots : PySem.W.recIn K P_Plan_lots "property" = some (.ref A_Plan_lots :: rest_Plan_lots))
    (l_Plan_lots : K.lookup A_Plan_lots = some ⟨oc_Plan_lots, od_Plan_lots, .func (PySem.W.fnOf "lots" "Plan.lots" (defArgs st_Plan_lots) (defBody st_Plan_lots) (defScope st_Plan_lots) .none kV_Plan_lots dc_Plan_lots pm_Plan_lots an_Plan_lots cd_Plan_lots ct_Plan_lots), sl_Plan_lots⟩)
    (c_Plan_lots : PySem.W.codeIn K cd_Plan_lots "Plan.lots" = true)
    (k_Plan_lots : PySem.W.keepIn K (.ref A_Plan_lots) = true)
    (a_Plan_rounds : PySem.W.findIn K (.ref C_Plan) "rounds" = some (some (.ref P_Plan_rounds)))
    (pget_Plan_rounds : PySem.W.specialIn K (.ref P_Plan_rounds) "__get__" = some (some (.builtin "property.__get__")))
    (ptak_Plan_rounds : PySem.W.takesIn K (.ref P_Plan_rounds) = some true)
    (prec_Plan_rounds : PySem.W.recIn K P_Plan_rounds "property" = some (.ref A_Plan_rounds :: rest_Plan_rounds))
    (l_Plan_rounds : K.lookup A_Plan_rounds = some ⟨oc_Plan_rounds, od_Plan_rounds, .func (PySem.W.fnOf "rounds" "Plan.rounds" (defArgs st_Plan_rounds) (defBody st_Plan_rounds) (defScope st_Plan_rounds) .none kV_Plan_rounds dc_Plan_rounds pm_Plan_rounds an_Plan_rounds cd_Plan_rounds ct_Plan_rounds), sl_Plan_rounds⟩)
    (c_Plan_rounds : PySem.W.codeIn K cd_Plan_rounds "Plan.rounds" = true)
    (k_Plan_rounds : PySem.W.keepIn K (.ref A_Plan_rounds) = true)
    (a_Plan_pieces : PySem.W.findIn K (.ref C_Plan) "pieces" = some (some (.ref P_Plan_pieces)))
    (pget_Plan_pieces : PySem.W.specialIn K (.ref P_Plan_pieces) "__get__" = some (some (.builtin "property.__get__")))
    (ptak_Plan_pieces : PySem.W.takesIn K (.ref P_Plan_pieces) = some true)
    (prec_Plan_pieces : PySem.W.recIn K P_Plan_pieces "property" = some (.ref A_Plan_pieces :: rest_Plan_pieces))
    (l_Plan_pieces : K.lookup A_Plan_pieces = some ⟨oc_Plan_pieces, od_Plan_pieces, .func (PySem.W.fnOf "pieces" "Plan.pieces" (defArgs st_Plan_pieces) (defBody st_Plan_pieces) (defScope st_Plan_pieces) .none kV_Plan_pieces dc_Plan_pieces pm_Plan_pieces an_Plan_pieces cd_Plan_pieces ct_Plan_pieces), sl_Plan_pieces⟩)
    (c_Plan_pieces : PySem.W.codeIn K cd_Plan_pieces "Plan.pieces" = true)
    (k_Plan_pieces : PySem.W.keepIn K (.ref A_Plan_pieces) = true)
    (a_Plan_names : PySem.W.findIn K (.ref C_Plan) "names" = some (some (.ref P_Plan_names)))
    (pget_Plan_names : PySem.W.specialIn K (.ref P_Plan_names) "__get__" = some (some (.builtin "property.__get__")))
    (ptak_Plan_names : PySem.W.takesIn K (.ref P_Plan_names) = some true)
    (prec_Plan_names : PySem.W.recIn K P_Plan_names "property" = some (.ref A_Plan_names :: rest_Plan_names))
    (l_Plan_names : K.lookup A_Plan_names = some ⟨oc_Plan_names, od_Plan_names, .func (PySem.W.fnOf "names" "Plan.names" (defArgs st_Plan_names) (defBody st_Plan_names) (defScope st_Plan_names) .none kV_Plan_names dc_Plan_names pm_Plan_names an_Plan_names cd_Plan_names ct_Plan_names), sl_Plan_names⟩)
    (c_Plan_names : PySem.W.codeIn K cd_Plan_names "Plan.names" = true)
    (k_Plan_names : PySem.W.keepIn K (.ref A_Plan_names) = true)
    (a_Plan_kind_of : PySem.W.findIn K (.ref C_Plan) "kind_of" = some (some (.ref A_Plan_kind_of)))
    (l_Plan_kind_of : K.lookup A_Plan_kind_of = some ⟨oc_Plan_kind_of, od_Plan_kind_of, .func (PySem.W.fnOf "kind_of" "Plan.kind_of" (defArgs st_Plan_kind_of) (defBody st_Plan_kind_of) (defScope st_Plan_kind_of) .none kV_Plan_kind_of dc_Plan_kind_of pm_Plan_kind_of an_Plan_kind_of cd_Plan_kind_of ct_Plan_kind_of), sl_Plan_kind_of⟩)
    (c_Plan_kind_of : PySem.W.codeIn K cd_Plan_kind_of "Plan.kind_of" = true)
    (k_Plan_kind_of : PySem.W.keepIn K (.ref A_Plan_kind_of) = true)
    (i_Plan_kind_of : PySem.W.isFn K (.ref A_Plan_kind_of) = true)
    (a_Plan_how_many : PySem.W.findIn K (.ref C_Plan) "how_many" = some (some (.ref A_Plan_how_many)))
    (l_Plan_how_many : K.lookup A_Plan_how_many = some ⟨oc_Plan_how_many, od_Plan_how_many, .func (PySem.W.fnOf "how_many" "Plan.how_many" (defArgs st_Plan_how_many) (defBody st_Plan_how_many) (defScope st_Plan_how_many) .none kV_Plan_how_many dc_Plan_how_many pm_Plan_how_many an_Plan_how_many cd_Plan_how_many ct_Plan_how_many), sl_Plan_how_many⟩)
    (c_Plan_how_many : PySem.W.codeIn K cd_Plan_how_many "Plan.how_many" = true)
    (k_Plan_how_many : PySem.W.keepIn K (.ref A_Plan_how_many) = true)
    (i_Plan_how_many : PySem.W.isFn K (.ref A_Plan_how_many) = true)
    (a_Plan_backwards : PySem.W.findIn K (.ref C_Plan) "backwards" = some (some (.ref A_Plan_backwards)))
    (l_Plan_backwards : K.lookup A_Plan_backwards = some ⟨oc_Plan_backwards, od_Plan_backwards, .func (PySem.W.fnOf "backwards" "Plan.backwards" (defArgs st_Plan_backwards) (defBody st_Plan_backwards) (defScope st_Plan_backwards) .none kV_Plan_backwards dc_Plan_backwards pm_Plan_backwards an_Plan_backwards cd_Plan_backwards ct_Plan_backwards), sl_Plan_backwards⟩)
    (c_Plan_backwards : PySem.W.codeIn K cd_Plan_backwards "Plan.backwards" = true)
    (k_Plan_backwards : PySem.W.keepIn K (.ref A_Plan_backwards) = true)
    (i_Plan_backwards : PySem.W.isFn K (.ref A_Plan_backwards) = true)
    (a_lot_at : PySem.W.nsIn K mainGlobals "lot_at" = some (some (.ref A_lot_at)))
    (l_lot_at : K.lookup A_lot_at = some ⟨oc_lot_at, od_lot_at, .func (PySem.W.fnOf "lot_at" "lot_at" (defArgs st_lot_at) (defBody st_lot_at) (defScope st_lot_at) .none kV_lot_at dc_lot_at pm_lot_at an_lot_at cd_lot_at ct_lot_at), sl_lot_at⟩)
    (c_lot_at : PySem.W.codeIn K cd_lot_at "lot_at" = true)
    (k_lot_at : PySem.W.keepIn K (.ref A_lot_at) = true)
    (a_require_piece : PySem.W.nsIn K mainGlobals "require_piece" = some (some (.ref A_require_piece)))
    (l_require_piece : K.lookup A_require_piece = some ⟨oc_require_piece, od_require_piece, .func (PySem.W.fnOf "require_piece" "require_piece" (defArgs st_require_piece) (defBody st_require_piece) (defScope st_require_piece) .none kV_require_piece dc_require_piece pm_require_piece an_require_piece cd_require_piece ct_require_piece), sl_require_piece⟩)
    (c_require_piece : PySem.W.codeIn K cd_require_piece "require_piece" = true)
    (k_require_piece : PySem.W.keepIn K (.ref A_require_piece) = true)
    (a_law_bag : PySem.W.nsIn K mainGlobals "_law_bag" = some (some (.ref A_law_bag)))
    (l_law_bag : K.lookup A_law_bag = some ⟨oc_law_bag, od_law_bag, .func (PySem.W.fnOf "_law_bag" "_law_bag" (defArgs st_law_bag) (defBody st_law_bag) (defScope st_law_bag) .none kV_law_bag dc_law_bag pm_law_bag an_law_bag cd_law_bag ct_law_bag), sl_law_bag⟩)
    (c_law_bag : PySem.W.codeIn K cd_law_bag "_law_bag" = true)
    (k_law_bag : PySem.W.keepIn K (.ref A_law_bag) = true)
    (a_law_pick : PySem.W.nsIn K mainGlobals "_law_pick" = some (some (.ref A_law_pick)))
    (l_law_pick : K.lookup A_law_pick = some ⟨oc_law_pick, od_law_pick, .func (PySem.W.fnOf "_law_pick" "_law_pick" (defArgs st_law_pick) (defBody st_law_pick) (defScope st_law_pick) .none kV_law_pick dc_law_pick pm_law_pick an_law_pick cd_law_pick ct_law_pick), sl_law_pick⟩)
    (c_law_pick : PySem.W.codeIn K cd_law_pick "_law_pick" = true)
    (k_law_pick : PySem.W.keepIn K (.ref A_law_pick) = true)
    (a_law_names : PySem.W.nsIn K mainGlobals "_law_names" = some (some (.ref A_law_names)))
    (l_law_names : K.lookup A_law_names = some ⟨oc_law_names, od_law_names, .func (PySem.W.fnOf "_law_names" "_law_names" (defArgs st_law_names) (defBody st_law_names) (defScope st_law_names) .none kV_law_names dc_law_names pm_law_names an_law_names cd_law_names ct_law_names), sl_law_names⟩)
    (c_law_names : PySem.W.codeIn K cd_law_names "_law_names" = true)
    (k_law_names : PySem.W.keepIn K (.ref A_law_names) = true)
    (a_law_lots : PySem.W.nsIn K mainGlobals "_law_lots" = some (some (.ref A_law_lots)))
    (l_law_lots : K.lookup A_law_lots = some ⟨oc_law_lots, od_law_lots, .func (PySem.W.fnOf "_law_lots" "_law_lots" (defArgs st_law_lots) (defBody st_law_lots) (defScope st_law_lots) .none kV_law_lots dc_law_lots pm_law_lots an_law_lots cd_law_lots ct_law_lots), sl_law_lots⟩)
    (c_law_lots : PySem.W.codeIn K cd_law_lots "_law_lots" = true)
    (k_law_lots : PySem.W.keepIn K (.ref A_law_lots) = true)
    (a_law_pieces : PySem.W.nsIn K mainGlobals "_law_pieces" = some (some (.ref A_law_pieces)))
    (l_law_pieces : K.lookup A_law_pieces = some ⟨oc_law_pieces, od_law_pieces, .func (PySem.W.fnOf "_law_pieces" "_law_pieces" (defArgs st_law_pieces) (defBody st_law_pieces) (defScope st_law_pieces) .none kV_law_pieces dc_law_pieces pm_law_pieces an_law_pieces cd_law_pieces ct_law_pieces), sl_law_pieces⟩)
    (c_law_pieces : PySem.W.codeIn K cd_law_pieces "_law_pieces" = true)
    (k_law_pieces : PySem.W.keepIn K (.ref A_law_pieces) = true)
    (a_law_is : PySem.W.nsIn K mainGlobals "_law_is" = some (some (.ref A_law_is)))
    (l_law_is : K.lookup A_law_is = some ⟨oc_law_is, od_law_is, .func (PySem.W.fnOf "_law_is" "_law_is" (defArgs st_law_is) (defBody st_law_is) (defScope st_law_is) .none kV_law_is dc_law_is pm_law_is an_law_is cd_law_is ct_law_is), sl_law_is⟩)
    (c_law_is : PySem.W.codeIn K cd_law_is "_law_is" = true)
    (k_law_is : PySem.W.keepIn K (.ref A_law_is) = true)
    (a_law_told_right : PySem.W.nsIn K mainGlobals "_law_told_right" = some (some (.ref A_law_told_right)))
    (l_law_told_right : K.lookup A_law_told_right = some ⟨oc_law_told_right, od_law_told_right, .func (PySem.W.fnOf "_law_told_right" "_law_told_right" (defArgs st_law_told_right) (defBody st_law_told_right) (defScope st_law_told_right) .none kV_law_told_right dc_law_told_right pm_law_told_right an_law_told_right cd_law_told_right ct_law_told_right), sl_law_told_right⟩)
    (c_law_told_right : PySem.W.codeIn K cd_law_told_right "_law_told_right" = true)
    (k_law_told_right : PySem.W.keepIn K (.ref A_law_told_right) = true)
    (a_law_pieces_right : PySem.W.nsIn K mainGlobals "_law_pieces_right" = some (some (.ref A_law_pieces_right)))
    (l_law_pieces_right : K.lookup A_law_pieces_right = some ⟨oc_law_pieces_right, od_law_pieces_right, .func (PySem.W.fnOf "_law_pieces_right" "_law_pieces_right" (defArgs st_law_pieces_right) (defBody st_law_pieces_right) (defScope st_law_pieces_right) .none kV_law_pieces_right dc_law_pieces_right pm_law_pieces_right an_law_pieces_right cd_law_pieces_right ct_law_pieces_right), sl_law_pieces_right⟩)
    (c_law_pieces_right : PySem.W.codeIn K cd_law_pieces_right "_law_pieces_right" = true)
    (k_law_pieces_right : PySem.W.keepIn K (.ref A_law_pieces_right) = true)
    (a_law_right : PySem.W.nsIn K mainGlobals "_law_right" = some (some (.ref A_law_right)))
    (l_law_right : K.lookup A_law_right = some ⟨oc_law_right, od_law_right, .func (PySem.W.fnOf "_law_right" "_law_right" (defArgs st_law_right) (defBody st_law_right) (defScope st_law_right) .none kV_law_right dc_law_right pm_law_right an_law_right cd_law_right ct_law_right), sl_law_right⟩)
    (c_law_right : PySem.W.codeIn K cd_law_right "_law_right" = true)
    (k_law_right : PySem.W.keepIn K (.ref A_law_right) = true)
    (a_law : PySem.W.nsIn K mainGlobals "law" = some (some (.ref A_law)))
    (l_law : K.lookup A_law = some ⟨oc_law, od_law, .func (PySem.W.fnOf "law" "law" (defArgs st_law) (defBody st_law) (defScope st_law) .none kV_law dc_law pm_law an_law cd_law ct_law), sl_law⟩)
    (c_law : PySem.W.codeIn K cd_law "law" = true)
    (k_law : PySem.W.keepIn K (.ref A_law) = true)
    (na_Plan_own_lots : PySem.W.findIn K (.ref C_Plan) "own_lots" = some none)
    (na_Plan_own_rounds : PySem.W.findIn K (.ref C_Plan) "own_rounds" = some none)
    (v_MOST_LOTS : PySem.W.nsIn K mainGlobals "MOST_LOTS" = some (some (.int 12 t_MOST_LOTS)))
    (v_MOST_NUMBER : PySem.W.nsIn K mainGlobals "MOST_NUMBER" = some (some (.int 1000000000000000000000000000000 t_MOST_NUMBER)))
    (z_all : PySem.W.nsIn K mainGlobals "all" = some none)
    (z_bool : PySem.W.nsIn K mainGlobals "bool" = some none)
    (z_divmod : PySem.W.nsIn K mainGlobals "divmod" = some none)
    (z_enumerate : PySem.W.nsIn K mainGlobals "enumerate" = some none)
    (z_int : PySem.W.nsIn K mainGlobals "int" = some none)
    (z_isinstance : PySem.W.nsIn K mainGlobals "isinstance" = some none)
    (z_len : PySem.W.nsIn K mainGlobals "len" = some none)
    (z_list : PySem.W.nsIn K mainGlobals "list" = some none)
    (z_max : PySem.W.nsIn K mainGlobals "max" = some none)
    (z_range : PySem.W.nsIn K mainGlobals "range" = some none)
    (z_repr : PySem.W.nsIn K mainGlobals "repr" = some none)
    (z_set : PySem.W.nsIn K mainGlobals "set" = some none)
    (z_sorted : PySem.W.nsIn K mainGlobals "sorted" = some none)
    (z_str : PySem.W.nsIn K mainGlobals "str" = some none)
    (z_sum : PySem.W.nsIn K mainGlobals "sum" = some none)
    (z_tuple : PySem.W.nsIn K mainGlobals "tuple" = some none)
    : ∀ base : Heap, K.In base → base.Ns mainGlobals mg → ∃ M : Nm, M.K = K ∧ Keeps l.prog w K mg base M (runF Pr 41 25) 10 fa := by
  have e : A_law = fa := by
    have e := hfa.symm.trans (PySem.W.mg_of X G a_law)
    cases e
    rfl
  subst e
  have F_is_int := fun_mk (st := st_is_int) l_is_int c_is_int k_is_int
  have F_is_whole := fun_mk (st := st_is_whole) l_is_whole c_is_whole k_is_whole
  have F_is_many := fun_mk (st := st_is_many) l_is_many c_is_many k_is_many
  have F_is_name := fun_mk (st := st_is_name) l_is_name c_is_name k_is_name
  have F_is_lot := fun_mk (st := st_is_lot) l_is_lot c_is_lot k_is_lot
  have F_require_lots := fun_mk (st := st_require_lots) l_require_lots c_require_lots k_require_lots
  have F_Plan_init := fun_mk (st := st_Plan_init) l_Plan_init c_Plan_init k_Plan_init
  have F_Plan_lots := fun_mk (st := st_Plan_lots) l_Plan_lots c_Plan_lots k_Plan_lots
  have F_Plan_rounds := fun_mk (st := st_Plan_rounds) l_Plan_rounds c_Plan_rounds k_Plan_rounds
  have F_Plan_pieces := fun_mk (st := st_Plan_pieces) l_Plan_pieces c_Plan_pieces k_Plan_pieces
  have F_Plan_names := fun_mk (st := st_Plan_names) l_Plan_names c_Plan_names k_Plan_names
  have F_Plan_kind_of := fun_mk (st := st_Plan_kind_of) l_Plan_kind_of c_Plan_kind_of k_Plan_kind_of
  have F_Plan_how_many := fun_mk (st := st_Plan_how_many) l_Plan_how_many c_Plan_how_many k_Plan_how_many
  have F_Plan_backwards := fun_mk (st := st_Plan_backwards) l_Plan_backwards c_Plan_backwards k_Plan_backwards
  have F_lot_at := fun_mk (st := st_lot_at) l_lot_at c_lot_at k_lot_at
  have F_require_piece := fun_mk (st := st_require_piece) l_require_piece c_require_piece k_require_piece
  have F_law_bag := fun_mk (st := st_law_bag) l_law_bag c_law_bag k_law_bag
  have F_law_pick := fun_mk (st := st_law_pick) l_law_pick c_law_pick k_law_pick
  have F_law_names := fun_mk (st := st_law_names) l_law_names c_law_names k_law_names
  have F_law_lots := fun_mk (st := st_law_lots) l_law_lots c_law_lots k_law_lots
  have F_law_pieces := fun_mk (st := st_law_pieces) l_law_pieces c_law_pieces k_law_pieces
  have F_law_is := fun_mk (st := st_law_is) l_law_is c_law_is k_law_is
  have F_law_told_right := fun_mk (st := st_law_told_right) l_law_told_right c_law_told_right k_law_told_right
  have F_law_pieces_right := fun_mk (st := st_law_pieces_right) l_law_pieces_right c_law_pieces_right k_law_pieces_right
  have F_law_right := fun_mk (st := st_law_right) l_law_right c_law_right k_law_right
  have F_law := fun_mk (st := st_law) l_law c_law k_law
  have T : { T : Tx K mg // T.A_law = A_law ∧ T.D_law = PySem.W.fnOf "law" "law" (defArgs st_law) (defBody st_law) (defScope st_law) .none kV_law dc_law pm_law an_law cd_law ct_law } := ⟨{
    C_Plan := C_Plan
    cl_Plan := ⟨pg_Plan, hd_Plan, po_Plan, sa_Plan⟩
    g_Plan := PySem.W.mg_of X G gC_Plan
    ic_Plan := isC_of ⟨pg_Plan, hd_Plan, po_Plan, sa_Plan⟩ ha_Plan hn_Plan ht_Plan hm_Plan is_Plan ty_Plan fun n hn => by simp only [List.mem_cons, List.not_mem_nil, or_false] at hn; rcases hn with rfl | rfl | rfl | rfl | rfl | rfl | rfl <;> assumption
    A_is_int := A_is_int
    D_is_int := _
    F_is_int := F_is_int
    b_is_int := F_is_int.binds (ps := ["value"]) fun _ _ _ _ _ _ us hl => match us, hl with | [_], _ => rfl
    g_is_int := PySem.W.mg_of X G a_is_int
    A_is_whole := A_is_whole
    D_is_whole := _
    F_is_whole := F_is_whole
    b_is_whole := F_is_whole.binds (ps := ["value", "low", "high"]) fun _ _ _ _ _ _ us hl => match us, hl with | [_, _, _], _ => rfl
    g_is_whole := PySem.W.mg_of X G a_is_whole
    A_is_many := A_is_many
    D_is_many := _
    F_is_many := F_is_many
    b_is_many := F_is_many.binds (ps := ["value"]) fun _ _ _ _ _ _ us hl => match us, hl with | [_], _ => rfl
    g_is_many := PySem.W.mg_of X G a_is_many
    A_is_name := A_is_name
    D_is_name := _
    F_is_name := F_is_name
    b_is_name := F_is_name.binds (ps := ["value"]) fun _ _ _ _ _ _ us hl => match us, hl with | [_], _ => rfl
    g_is_name := PySem.W.mg_of X G a_is_name
    A_is_lot := A_is_lot
    D_is_lot := _
    F_is_lot := F_is_lot
    b_is_lot := F_is_lot.binds (ps := ["value"]) fun _ _ _ _ _ _ us hl => match us, hl with | [_], _ => rfl
    g_is_lot := PySem.W.mg_of X G a_is_lot
    A_require_lots := A_require_lots
    D_require_lots := _
    F_require_lots := F_require_lots
    b_require_lots := F_require_lots.binds (ps := ["value", "most"]) fun _ _ _ _ _ _ us hl => match us, hl with | [_, _], _ => rfl
    g_require_lots := PySem.W.mg_of X G a_require_lots
    A_Plan_init := A_Plan_init
    D_Plan_init := _
    F_Plan_init := F_Plan_init
    b_Plan_init := F_Plan_init.binds (ps := ["self", "lots", "rounds"]) fun _ _ _ _ _ _ us hl => match us, hl with | [_, _, _], _ => rfl
    mk_Plan := ⟨mk_Plan, a_Plan_init, i_Plan_init, kc_Plan⟩
    A_Plan_lots := A_Plan_lots
    D_Plan_lots := _
    F_Plan_lots := F_Plan_lots
    b_Plan_lots := F_Plan_lots.binds (ps := ["self"]) fun _ _ _ _ _ _ us hl => match us, hl with | [_], _ => rfl
    P_Plan_lots := P_Plan_lots
    p_Plan_lots := ⟨a_Plan_lots, pget_Plan_lots, ptak_Plan_lots, ⟨_, prec_Plan_lots⟩⟩
    A_Plan_rounds := A_Plan_rounds
    D_Plan_rounds := _
    F_Plan_rounds := F_Plan_rounds
    b_Plan_rounds := F_Plan_rounds.binds (ps := ["self"]) fun _ _ _ _ _ _ us hl => match us, hl with | [_], _ => rfl
    P_Plan_rounds := P_Plan_rounds
    p_Plan_rounds := ⟨a_Plan_rounds, pget_Plan_rounds, ptak_Plan_rounds, ⟨_, prec_Plan_rounds⟩⟩
    A_Plan_pieces := A_Plan_pieces
    D_Plan_pieces := _
    F_Plan_pieces := F_Plan_pieces
    b_Plan_pieces := F_Plan_pieces.binds (ps := ["self"]) fun _ _ _ _ _ _ us hl => match us, hl with | [_], _ => rfl
    P_Plan_pieces := P_Plan_pieces
    p_Plan_pieces := ⟨a_Plan_pieces, pget_Plan_pieces, ptak_Plan_pieces, ⟨_, prec_Plan_pieces⟩⟩
    A_Plan_names := A_Plan_names
    D_Plan_names := _
    F_Plan_names := F_Plan_names
    b_Plan_names := F_Plan_names.binds (ps := ["self"]) fun _ _ _ _ _ _ us hl => match us, hl with | [_], _ => rfl
    P_Plan_names := P_Plan_names
    p_Plan_names := ⟨a_Plan_names, pget_Plan_names, ptak_Plan_names, ⟨_, prec_Plan_names⟩⟩
    A_Plan_kind_of := A_Plan_kind_of
    D_Plan_kind_of := _
    F_Plan_kind_of := F_Plan_kind_of
    b_Plan_kind_of := F_Plan_kind_of.binds (ps := ["self", "piece"]) fun _ _ _ _ _ _ us hl => match us, hl with | [_, _], _ => rfl
    m_Plan_kind_of := ⟨a_Plan_kind_of, i_Plan_kind_of, k_Plan_kind_of⟩
    A_Plan_how_many := A_Plan_how_many
    D_Plan_how_many := _
    F_Plan_how_many := F_Plan_how_many
    b_Plan_how_many := F_Plan_how_many.binds (ps := ["self", "name"]) fun _ _ _ _ _ _ us hl => match us, hl with | [_, _], _ => rfl
    m_Plan_how_many := ⟨a_Plan_how_many, i_Plan_how_many, k_Plan_how_many⟩
    A_Plan_backwards := A_Plan_backwards
    D_Plan_backwards := _
    F_Plan_backwards := F_Plan_backwards
    b_Plan_backwards := F_Plan_backwards.binds (ps := ["self"]) fun _ _ _ _ _ _ us hl => match us, hl with | [_], _ => rfl
    m_Plan_backwards := ⟨a_Plan_backwards, i_Plan_backwards, k_Plan_backwards⟩
    A_lot_at := A_lot_at
    D_lot_at := _
    F_lot_at := F_lot_at
    b_lot_at := F_lot_at.binds (ps := ["plan", "piece"]) fun _ _ _ _ _ _ us hl => match us, hl with | [_, _], _ => rfl
    g_lot_at := PySem.W.mg_of X G a_lot_at
    A_require_piece := A_require_piece
    D_require_piece := _
    F_require_piece := F_require_piece
    b_require_piece := F_require_piece.binds (ps := ["plan", "value"]) fun _ _ _ _ _ _ us hl => match us, hl with | [_, _], _ => rfl
    g_require_piece := PySem.W.mg_of X G a_require_piece
    A_law_bag := A_law_bag
    D_law_bag := _
    F_law_bag := F_law_bag
    b_law_bag := F_law_bag.binds (ps := ["_law_cell"]) fun _ _ _ _ _ _ us hl => match us, hl with | [_], _ => rfl
    g_law_bag := PySem.W.mg_of X G a_law_bag
    A_law_pick := A_law_pick
    D_law_pick := _
    F_law_pick := F_law_pick
    b_law_pick := F_law_pick.binds (ps := ["_law_bag_here", "_law_many"]) fun _ _ _ _ _ _ us hl => match us, hl with | [_, _], _ => rfl
    g_law_pick := PySem.W.mg_of X G a_law_pick
    A_law_names := A_law_names
    D_law_names := _
    F_law_names := F_law_names
    b_law_names := F_law_names.binds (ps := ["_law_bag_here", "_law_many"]) fun _ _ _ _ _ _ us hl => match us, hl with | [_, _], _ => rfl
    g_law_names := PySem.W.mg_of X G a_law_names
    A_law_lots := A_law_lots
    D_law_lots := _
    F_law_lots := F_law_lots
    b_law_lots := F_law_lots.binds (ps := ["_law_bag_here", "_law_kinds", "_law_many", "_law_most"]) fun _ _ _ _ _ _ us hl => match us, hl with | [_, _, _, _], _ => rfl
    g_law_lots := PySem.W.mg_of X G a_law_lots
    A_law_pieces := A_law_pieces
    D_law_pieces := _
    F_law_pieces := F_law_pieces
    b_law_pieces := F_law_pieces.binds (ps := ["_law_lots_here", "_law_rounds"]) fun _ _ _ _ _ _ us hl => match us, hl with | [_, _], _ => rfl
    g_law_pieces := PySem.W.mg_of X G a_law_pieces
    A_law_is := A_law_is
    D_law_is := _
    F_law_is := F_law_is
    b_law_is := F_law_is.binds (ps := ["_law_told", "_law_due"]) fun _ _ _ _ _ _ us hl => match us, hl with | [_, _], _ => rfl
    g_law_is := PySem.W.mg_of X G a_law_is
    A_law_told_right := A_law_told_right
    D_law_told_right := _
    F_law_told_right := F_law_told_right
    b_law_told_right := F_law_told_right.binds (ps := ["_law_plan", "_law_lots_here", "_law_rounds"]) fun _ _ _ _ _ _ us hl => match us, hl with | [_, _, _], _ => rfl
    g_law_told_right := PySem.W.mg_of X G a_law_told_right
    A_law_pieces_right := A_law_pieces_right
    D_law_pieces_right := _
    F_law_pieces_right := F_law_pieces_right
    b_law_pieces_right := F_law_pieces_right.binds (ps := ["_law_plan", "_law_pieces_here", "_law_names_here"]) fun _ _ _ _ _ _ us hl => match us, hl with | [_, _, _], _ => rfl
    g_law_pieces_right := PySem.W.mg_of X G a_law_pieces_right
    A_law_right := A_law_right
    D_law_right := _
    F_law_right := F_law_right
    b_law_right := F_law_right.binds (ps := ["_law_bag_here"]) fun _ _ _ _ _ _ us hl => match us, hl with | [_], _ => rfl
    g_law_right := PySem.W.mg_of X G a_law_right
    A_law := A_law
    D_law := _
    F_law := F_law
    b_law := F_law.binds (ps := ["_law_script"]) fun _ _ _ _ _ _ us hl => match us, hl with | [_], _ => rfl
    g_law := PySem.W.mg_of X G a_law
    na_Plan_own_lots := na_Plan_own_lots
    na_Plan_own_rounds := na_Plan_own_rounds
    i_MOST_LOTS := ⟨t_MOST_LOTS, PySem.W.mg_of X G v_MOST_LOTS⟩
    i_MOST_NUMBER := ⟨t_MOST_NUMBER, PySem.W.mg_of X G v_MOST_NUMBER⟩
    n_all := PySem.W.mg_none_of X G z_all
    n_bool := PySem.W.mg_none_of X G z_bool
    n_divmod := PySem.W.mg_none_of X G z_divmod
    n_enumerate := PySem.W.mg_none_of X G z_enumerate
    n_int := PySem.W.mg_none_of X G z_int
    n_isinstance := PySem.W.mg_none_of X G z_isinstance
    n_len := PySem.W.mg_none_of X G z_len
    n_list := PySem.W.mg_none_of X G z_list
    n_max := PySem.W.mg_none_of X G z_max
    n_range := PySem.W.mg_none_of X G z_range
    n_repr := PySem.W.mg_none_of X G z_repr
    n_set := PySem.W.mg_none_of X G z_set
    n_sorted := PySem.W.mg_none_of X G z_sorted
    n_str := PySem.W.mg_none_of X G z_str
    n_sum := PySem.W.mg_none_of X G z_sum
    n_tuple := PySem.W.mg_none_of X G z_tuple
    }, rfl, rfl⟩
  obtain ⟨T, e1, e2⟩ := T
  refine fun base _ _ => ⟨T.nm, rfl, ?_⟩
  have q := K_law (P := l.prog) (w := w) (base := base) T 40
  rw [e1] at q
  exact q
end L05
open PySem PySem.W PyProof.Rows in
set_option maxRecDepth 100000 in
set_option maxHeartbeats 0 in
theorem PySem.Challenge.cw_linepaces_k05_pieces_one_by_one_holds : PySem.Challenge.rw_linepaces_k05_pieces_one_by_one.Holds := by
  w_on; o_law; k_head; (case hw => w_witness2)
  k_fill
  refine PV.walk_go (l := PySem.Challenge.rw_linepaces_k05_pieces_one_by_one) (k := 10) (φ := PV.runF L05.Pr 41 25) rfl rfl ⟨rfl, by decide, by decide⟩ (by decide +kernel) L05.plain (fun w h Y => PySem.W.kIn_of Y) ?nl ?F
  case nl =>
    intro w
    rfl
  case F =>
    intro w mg fa h KX G hmg
    refine' L05.all_mk KX G hmg ?gC_Plan ?pg_Plan ?hd_Plan ?po_Plan ?sa_Plan ?ha_Plan ?hn_Plan ?ht_Plan ?hm_Plan ?is_Plan ?ty_Plan ?noNoneType_Plan ?nobool_Plan ?noint_Plan ?nostr_Plan ?nolist_Plan ?notuple_Plan ?nodict_Plan ?a_is_int ?l_is_int ?c_is_int ?k_is_int ?a_is_whole ?l_is_whole ?c_is_whole ?k_is_whole ?a_is_many ?l_is_many ?c_is_many ?k_is_many ?a_is_name ?l_is_name ?c_is_name ?k_is_name ?a_is_lot ?l_is_lot ?c_is_lot ?k_is_lot ?a_require_lots ?l_require_lots ?c_require_lots ?k_require_lots ?a_Plan_init ?l_Plan_init ?c_Plan_init ?k_Plan_init ?i_Plan_init ?mk_Plan ?kc_Plan ?a_Plan_lots ?pget_Plan_lots ?ptak_Plan_lots ?prec_Plan_lots ?l_Plan_lots ?c_Plan_lots ?k_Plan_lots ?a_Plan_rounds ?pget_Plan_rounds ?ptak_Plan_rounds ?prec_Plan_rounds ?l_Plan_rounds ?c_Plan_rounds ?k_Plan_rounds ?a_Plan_pieces ?pget_Plan_pieces ?ptak_Plan_pieces ?prec_Plan_pieces ?l_Plan_pieces ?c_Plan_pieces ?k_Plan_pieces ?a_Plan_names ?pget_Plan_names ?ptak_Plan_names ?prec_Plan_names ?l_Plan_names ?c_Plan_names ?k_Plan_names ?a_Plan_kind_of ?l_Plan_kind_of ?c_Plan_kind_of ?k_Plan_kind_of ?i_Plan_kind_of ?a_Plan_how_many ?l_Plan_how_many ?c_Plan_how_many ?k_Plan_how_many ?i_Plan_how_many ?a_Plan_backwards ?l_Plan_backwards ?c_Plan_backwards ?k_Plan_backwards ?i_Plan_backwards ?a_lot_at ?l_lot_at ?c_lot_at ?k_lot_at ?a_require_piece ?l_require_piece ?c_require_piece ?k_require_piece ?a_law_bag ?l_law_bag ?c_law_bag ?k_law_bag ?a_law_pick ?l_law_pick ?c_law_pick ?k_law_pick ?a_law_names ?l_law_names ?c_law_names ?k_law_names ?a_law_lots ?l_law_lots ?c_law_lots ?k_law_lots ?a_law_pieces ?l_law_pieces ?c_law_pieces ?k_law_pieces ?a_law_is ?l_law_is ?c_law_is ?k_law_is ?a_law_told_right ?l_law_told_right ?c_law_told_right ?k_law_told_right ?a_law_pieces_right ?l_law_pieces_right ?c_law_pieces_right ?k_law_pieces_right ?a_law_right ?l_law_right ?c_law_right ?k_law_right ?a_law ?l_law ?c_law ?k_law ?na_Plan_own_lots ?na_Plan_own_rounds ?v_MOST_LOTS ?v_MOST_NUMBER ?z_all ?z_bool ?z_divmod ?z_enumerate ?z_int ?z_isinstance ?z_len ?z_list ?z_max ?z_range ?z_repr ?z_set ?z_sorted ?z_str ?z_sum ?z_tuple
    (case gC_Plan => k_is)
    (case pg_Plan => k_is)
    (case hd_Plan => k_is)
    (case po_Plan => k_is)
    (case sa_Plan => k_is)
    (case ha_Plan => k_is)
    (case hn_Plan => k_is)
    (case ht_Plan => k_is)
    (case hm_Plan => k_is)
    (case is_Plan => k_is)
    (case ty_Plan => k_is)
    (case noNoneType_Plan => k_is)
    (case nobool_Plan => k_is)
    (case noint_Plan => k_is)
    (case nostr_Plan => k_is)
    (case nolist_Plan => k_is)
    (case notuple_Plan => k_is)
    (case nodict_Plan => k_is)
    (case a_is_int => k_is)
    (case l_is_int => k_is)
    (case c_is_int => k_is)
    (case k_is_int => k_is)
    (case a_is_whole => k_is)
    (case l_is_whole => k_is)
    (case c_is_whole => k_is)
    (case k_is_whole => k_is)
    (case a_is_many => k_is)
    (case l_is_many => k_is)
    (case c_is_many => k_is)
    (case k_is_many => k_is)
    (case a_is_name => k_is)
    (case l_is_name => k_is)
    (case c_is_name => k_is)
    (case k_is_name => k_is)
    (case a_is_lot => k_is)
    (case l_is_lot => k_is)
    (case c_is_lot => k_is)
    (case k_is_lot => k_is)
    (case a_require_lots => k_is)
    (case l_require_lots => k_is)
    (case c_require_lots => k_is)
    (case k_require_lots => k_is)
    (case a_Plan_init => k_is)
    (case l_Plan_init => k_is)
    (case c_Plan_init => k_is)
    (case k_Plan_init => k_is)
    (case i_Plan_init => k_is)
    (case mk_Plan => k_is)
    (case kc_Plan => k_is)
    (case a_Plan_lots => k_is)
    (case pget_Plan_lots => k_is)
    (case ptak_Plan_lots => k_is)
    (case prec_Plan_lots => k_is)
    (case l_Plan_lots => k_is)
    (case c_Plan_lots => k_is)
    (case k_Plan_lots => k_is)
    (case a_Plan_rounds => k_is)
    (case pget_Plan_rounds => k_is)
    (case ptak_Plan_rounds => k_is)
    (case prec_Plan_rounds => k_is)
    (case l_Plan_rounds => k_is)
    (case c_Plan_rounds => k_is)
    (case k_Plan_rounds => k_is)
    (case a_Plan_pieces => k_is)
    (case pget_Plan_pieces => k_is)
    (case ptak_Plan_pieces => k_is)
    (case prec_Plan_pieces => k_is)
    (case l_Plan_pieces => k_is)
    (case c_Plan_pieces => k_is)
    (case k_Plan_pieces => k_is)
    (case a_Plan_names => k_is)
    (case pget_Plan_names => k_is)
    (case ptak_Plan_names => k_is)
    (case prec_Plan_names => k_is)
    (case l_Plan_names => k_is)
    (case c_Plan_names => k_is)
    (case k_Plan_names => k_is)
    (case a_Plan_kind_of => k_is)
    (case l_Plan_kind_of => k_is)
    (case c_Plan_kind_of => k_is)
    (case k_Plan_kind_of => k_is)
    (case i_Plan_kind_of => k_is)
    (case a_Plan_how_many => k_is)
    (case l_Plan_how_many => k_is)
    (case c_Plan_how_many => k_is)
    (case k_Plan_how_many => k_is)
    (case i_Plan_how_many => k_is)
    (case a_Plan_backwards => k_is)
    (case l_Plan_backwards => k_is)
    (case c_Plan_backwards => k_is)
    (case k_Plan_backwards => k_is)
    (case i_Plan_backwards => k_is)
    (case a_lot_at => k_is)
    (case l_lot_at => k_is)
    (case c_lot_at => k_is)
    (case k_lot_at => k_is)
    (case a_require_piece => k_is)
    (case l_require_piece => k_is)
    (case c_require_piece => k_is)
    (case k_require_piece => k_is)
    (case a_law_bag => k_is)
    (case l_law_bag => k_is)
    (case c_law_bag => k_is)
    (case k_law_bag => k_is)
    (case a_law_pick => k_is)
    (case l_law_pick => k_is)
    (case c_law_pick => k_is)
    (case k_law_pick => k_is)
    (case a_law_names => k_is)
    (case l_law_names => k_is)
    (case c_law_names => k_is)
    (case k_law_names => k_is)
    (case a_law_lots => k_is)
    (case l_law_lots => k_is)
    (case c_law_lots => k_is)
    (case k_law_lots => k_is)
    (case a_law_pieces => k_is)
    (case l_law_pieces => k_is)
    (case c_law_pieces => k_is)
    (case k_law_pieces => k_is)
    (case a_law_is => k_is)
    (case l_law_is => k_is)
    (case c_law_is => k_is)
    (case k_law_is => k_is)
    (case a_law_told_right => k_is)
    (case l_law_told_right => k_is)
    (case c_law_told_right => k_is)
    (case k_law_told_right => k_is)
    (case a_law_pieces_right => k_is)
    (case l_law_pieces_right => k_is)
    (case c_law_pieces_right => k_is)
    (case k_law_pieces_right => k_is)
    (case a_law_right => k_is)
    (case l_law_right => k_is)
    (case c_law_right => k_is)
    (case k_law_right => k_is)
    (case a_law => k_is)
    (case l_law => k_is)
    (case c_law => k_is)
    (case k_law => k_is)
    (case na_Plan_own_lots => k_is)
    (case na_Plan_own_rounds => k_is)
    (case v_MOST_LOTS => k_is)
    (case v_MOST_NUMBER => k_is)
    (case z_all => k_is)
    (case z_bool => k_is)
    (case z_divmod => k_is)
    (case z_enumerate => k_is)
    (case z_int => k_is)
    (case z_isinstance => k_is)
    (case z_len => k_is)
    (case z_list => k_is)
    (case z_max => k_is)
    (case z_range => k_is)
    (case z_repr => k_is)
    (case z_set => k_is)
    (case z_sorted => k_is)
    (case z_str => k_is)
    (case z_sum => k_is)
    (case z_tuple => k_is)
