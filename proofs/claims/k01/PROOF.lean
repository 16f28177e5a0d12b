import PyProof.Rows.All
import Wide.All
import OpenK.AllK
import Wide.FinOn
import HandS.ForMost
import HandS.ForExc
import HandS.Wide
import HandS.TupMul
import HandS.TupAny
import HandS.Deep
import HandS.Defaults
import HandS.IsInst
import HandS.Zip
import HandS.Rev
import PyProof.StrBlock2
import HandS.SortInts
import HandS.RaiseMore
import HandS.Style
import HandS.More
import HandS.CallSlots
import HandS.NoneIn
import KE.KUnpackStar
import KE.KStateDown
import HandS.Ends
import HandS.Head0
import HandS.Head1
import HandS.Head2
import HandS.HeadEnd
import HandS.HeadHook1
import HandS.HeadHook2
import HandS.HeadHook3
import PySem.Challenge.RW_tierpile_k01_marks_of_a_text
set_option Elab.async false
set_option linter.all false
set_option maxRecDepth 100000
/-! Sal1: values, a small tree language, its plain meaning as a total function. -/
namespace TP
open PySem

/-- a value, seen by itself: texts are their codes; lst, dct: a list or dict that nobody changes any more; rol: a list that came from without -/
inductive PV where
  | non
  | bl (b : Bool)
  | int (i : Int)
  | str (x : List Nat)
  | tup (xs : List PV)
  | lst (xs : List PV)
  | rol (xs : List PV)
  | dct (ks : List L2.Key) (vs : List PV)
  | ref (l : Nat)
  | glo (x : Str)
  | ty (n : String)
  deriving Inhabited

/-- a slot of a frame: not bound; a value; a list or dict that is the slot's own -/
inductive Sl where
  | un
  | val (v : PV)
  | own (o : PV)
  deriving Inhabited

/-- what an expression gives: a value; a new list or dict that nobody else has; what a slot holds -/
inductive RV where
  | sh (v : PV)
  | fr (o : PV)
  | hd (i : Nat)
  deriving Inhabited

/-- an object of the store -/
inductive SO where
  | ins (c : Str) (fs : List (Str × PV))
  | box (o : PV)
  deriving Inhabited

structure SS where
  env : List Sl
  sto : List SO
  deriving Inhabited

inductive Res (α : Type) where
  | ok (a : α) (s : SS)
  | exc (x : PV) (s : SS)
  | bad
def Res.bind {α β : Type} (r : Res α) (f : α → SS → Res β) : Res β :=
  match r with
  | .ok a s => f a s
  | .exc x s => .exc x s
  | .bad => .bad

/-- operations on contents -/
inductive P where
  | add | sub | mul | fdiv | mod | pow | neg
  | eq | ne | lt | le | gt | ge
  | isin | notin
  | isN | notN
  | idx
  | len | abs | min2 | max2 | toInt | toTup | toList
  | all | any | sum
  | isi
  | isB (b : Bool) | notB (b : Bool)
  | join | split | starts | toStr
  | maxL | minL | sortd | revs
  deriving Inhabited

/-- deeds that change a list or dict -/
inductive M where
  | append | pop | insert | popAt | clear | reverse
  deriving Inhabited

/-- targets -/
inductive T where
  | nm (i : Nat)
  | tp (ts : List T)
  deriving Inhabited

mutual
inductive E where
  | var (i : Nat)
  | con (v : PV)
  | prim (p : P) (es : List E)
  | chain (p q : P) (a b c : E)
  | not (a : E)
  | and (es : List E)
  | or (es : List E)
  | ite (c a b : E)
  | tup (es : List E)
  | list (es : List E)
  | call (f : Str) (es : List E)
  | mut (m : M) (t : E) (es : List E)
  | slice (a lo hi : E)
  | lc (elt : E) (t : T) (it : I) (cs : List E) (own : List Nat)
  | dead
  | didx (x : Str) (tb : List (List Nat × PV)) (e : E)
  | callK (f : Str) (es : List E) (pm : List (Sum Nat PV))
  | callL (i : Nat) (fs : List Str) (es : List E)
  | sm (p : P) (t e : E)
inductive I where
  | of (e : E)
  | range (es : List E)
  | enum (e : E)
  | zip (a b : E)
  | rev (e : E)
end

inductive S where
  | asg (t : T) (e : E)
  | asgR (is : List Nat) (j : Nat) (e : E)
  | par (is : List Nat) (es : List E)
  | aug (i : Nat) (p : P) (e : E)
  | setix (a i e : E)
  | expr (e : E)
  | ret (e : E)
  | retN
  | pass
  | brk
  | cont
  | ite (c : E) (a b : List S)
  | while (c : E) (b : List S)
  | for (t : T) (it : I) (b : List S)
  | dead

/-- a def: how many params, slots, which params are stored, its body -/
structure Fd where
  np : Nat
  ns : Nat
  asg : List Nat
  body : List S

/-! ### contents -/
/-- a mutable object of the store stands for its content -/
def boxC (sto : List SO) : PV → PV
  | .ref l => (match sto[l]? with
    | some (.box o) => o
    | _ => .ref l)
  | v => v
def cont (s : SS) : RV → Option PV
  | .sh v => some (boxC s.sto v)
  | .fr o => some o
  | .hd i => (match s.env[i]? with
    | some (.val v) => some (boxC s.sto v)
    | some (.own o) => some o
    | _ => none)
def conts (s : SS) : List RV → Option (List PV)
  | [] => some []
  | r :: rs => match cont s r with
    | none => none
    | some c => match conts s rs with
      | none => none
      | some cs => some (c :: cs)
/-- a value that may be kept: the slot's own thing is from now on nobody's to change -/
def keep (s : SS) : RV → Option (PV × SS)
  | .sh v => some (v, s)
  | .fr o => some (o, s)
  | .hd i => (match s.env[i]? with
    | some (.val v) => some (v, s)
    | some (.own o) => some (o, { s with env := s.env.set i (.val o) })
    | _ => none)
def keeps (s : SS) : List RV → Option (List PV × SS)
  | [] => some ([], s)
  | r :: rs => match keep s r with
    | none => none
    | some (v, s1) => match keeps s1 rs with
      | none => none
      | some (vs, s2) => some (v :: vs, s2)

/-! ### operations -/
def szL : Nat := 16777216
mutual
/-- how deep data is; none: no data -/
def PV.deep : PV → Option Nat
  | .non => some 0
  | .bl _ => some 0
  | .int _ => some 0
  | .str x => if (x.all fun c => decide (c < 1114112)) then some 0 else none
  | .tup xs => (deeps xs).map (· + 1)
  | .lst xs => (deeps xs).map (· + 1)
  | _ => none
def deeps : List PV → Option Nat
  | [] => some 0
  | x :: xs => match x.deep, deeps xs with
    | some a, some b => some (max a b)
    | _, _ => none
end
mutual
def PV.eqv : PV → PV → Bool
  | .non, .non => true
  | .bl a, .bl b => a == b
  | .bl a, .int j => (if a then 1 else 0) == j
  | .int i, .bl b => i == (if b then 1 else 0)
  | .int i, .int j => i == j
  | .str x, .str y => x == y
  | .lst xs, .lst ys => eqvs xs ys
  | .tup xs, .tup ys => eqvs xs ys
  | _, _ => false
def eqvs : List PV → List PV → Bool
  | [], [] => true
  | x :: xs, y :: ys => x.eqv y && eqvs xs ys
  | _, _ => false
end
def dataOk (v : PV) : Bool := match v.deep with
  | some n => decide (n ≤ 60)
  | none => false
def intBig (i : Int) : Bool := decide (i.natAbs < 2 ^ 8000)
def cutL {α : Type} (xs : List α) (lo hi : Option Int) : List α := (xs.drop (HT.sIx xs.length 0 lo)).take (HT.sIx xs.length xs.length hi - HT.sIx xs.length 0 lo)
def tyName : PV → Option String
  | .non => some "NoneType"
  | .bl _ => some "bool"
  | .int _ => some "int"
  | .str _ => some "str"
  | .tup _ => some "tuple"
  | .lst _ => some "list"
  | .rol _ => some "list"
  | .dct _ _ => some "dict"
  | _ => none
def tyKnown (t : String) : Bool := t == "int" || t == "bool" || t == "str" || t == "tuple" || t == "list" || t == "dict"
def tySub (a b : String) : Bool := a == b || (a == "bool" && b == "int")
def tysOf : List PV → Option (List String)
  | [] => some []
  | .ty t :: r => if tyKnown t then (tysOf r).map (t :: ·) else none
  | _ => none
def bools : List PV → Option (List Bool)
  | [] => some []
  | .bl b :: xs => (bools xs).map (b :: ·)
  | _ => none
def intsL : List PV → Option (List Int)
  | [] => some []
  | .int i :: xs => (intsL xs).map (i :: ·)
  | _ => none
def small63 (i : Int) : Bool := decide (-(2 ^ 63) ≤ i) && decide (i < 2 ^ 63)
/-- a slice's bound: left out, or a number -/
def isAbs : E → Bool
  | .con .non => true
  | _ => false
def bndOf (s : SS) (ab : Bool) (r : RV) : Option (Option Int) := if ab then some none else match cont s r with
  | some (.int i) => some (some i)
  | _ => none
def PV.flat : PV → Bool
  | .non => true
  | .bl _ => true
  | .int _ => true
  | .str _ => true
  | _ => false
def isinB (x : PV) : PV → Option Bool
  | .tup xs => if x.flat && xs.all PV.flat then some (xs.any fun y => y.eqv x) else none
  | .lst xs => if x.flat && xs.all PV.flat then some (xs.any fun y => y.eqv x) else none
  | .str z => (match x with
    | .str [c] => some (decide (c ∈ z))
    | _ => none)
  | _ => none
def addSem : PV → PV → Option RV
  | .int i, .int j => some (.sh (.int (i + j)))
  | .str x, .str y => if x.length + y.length ≤ szL then some (.sh (.str (x ++ y))) else none
  | .tup xs, .tup ys => if xs.length + ys.length ≤ szL then some (.sh (.tup (xs ++ ys))) else none
  | .lst xs, .lst ys => if xs.length + ys.length ≤ szL then some (.fr (.lst (xs ++ ys))) else none
  | _, _ => none
def subSem : PV → PV → Option RV
  | .int i, .int j => some (.sh (.int (i - j)))
  | _, _ => none
def mulSem : PV → PV → Option RV
  | .int i, .int j => if intBig i && intBig j then some (.sh (.int (i * j))) else none
  | .lst xs, .int j => if small63 j && decide (xs.length * j.toNat ≤ szL) then some (.fr (.lst (List.replicate j.toNat xs).flatten)) else none
  | .str x, .int j => if small63 j && decide (x.length * j.toNat ≤ szL) then some (.sh (.str (List.replicate j.toNat x).flatten)) else none
  | .tup xs, .int j => if decide (-1000 ≤ j) && decide (j ≤ 1000) && decide (xs.length ≤ 1000) then some (.sh (.tup (List.replicate j.toNat xs).flatten)) else none
  | _, _ => none
def fdivSem : PV → PV → Option RV
  | .int i, .int j => if j ≠ 0 ∧ intBig j = true then some (.sh (.int (i.fdiv j))) else none
  | _, _ => none
def modSem : PV → PV → Option RV
  | .int i, .int j => if j ≠ 0 then some (.sh (.int (i.fmod j))) else none
  | _, _ => none
def powSem : PV → PV → Option RV
  | .int i, .int j => if 0 ≤ j ∧ j ≤ 1000000 ∧ i.natAbs < 2 ^ 64 then some (.sh (.int (i ^ j.toNat))) else none
  | _, _ => none
def negSem : PV → Option RV
  | .int i => some (.sh (.int (-i)))
  | _ => none
def eqSem (x y : PV) : Option RV := if dataOk x && dataOk y then some (.sh (.bl (x.eqv y))) else none
def neSem (x y : PV) : Option RV := if dataOk x && dataOk y then some (.sh (.bl (!x.eqv y))) else none
def ordSem (f : Int → Int → Bool) : PV → PV → Option RV
  | .int i, .int j => some (.sh (.bl (f i j)))
  | _, _ => none
def isNon : PV → Bool
  | .non => true
  | _ => false
def idxSem : PV → PV → Option RV
  | .lst xs, .int i => (L2.atI xs i).map .sh
  | .tup xs, .int i => (L2.atI xs i).map .sh
  | .rol xs, .int i => (L2.atI xs i).map .sh
  | .str xs, .int i => if xs.length ≤ szL then (L2.atI xs i).map (fun c => .sh (.str [c])) else none
  | _, _ => none
def slSem (l h : Option Int) : PV → Option RV
  | .lst xs => some (.fr (.lst (cutL xs l h)))
  | .tup xs => some (.sh (.tup (cutL xs l h)))
  | .str x => if x.length ≤ szL then some (.sh (.str (cutL x l h))) else none
  | _ => none
def lenSem : PV → Option RV
  | .lst xs => some (.sh (.int xs.length))
  | .tup xs => some (.sh (.int xs.length))
  | .rol xs => some (.sh (.int xs.length))
  | .str x => if x.length ≤ szL then some (.sh (.int x.length)) else none
  | _ => none
def toIntSem : PV → Option RV
  | .int i => some (.sh (.int i))
  | .bl b => some (.sh (.int (if b then 1 else 0)))
  | .str x => if x.length ≤ 640 then (intText? ⟨x.toArray⟩).map fun n => .sh (.int n) else none
  | _ => none
def toTupSem : PV → Option RV
  | .lst xs => some (.sh (.tup xs))
  | .tup xs => some (.sh (.tup xs))
  | _ => none
def toListSem : PV → Option RV
  | .lst xs => some (.fr (.lst xs))
  | .tup xs => some (.fr (.lst xs))
  | .rol xs => some (.fr (.lst xs))
  | _ => none
def absSem : PV → Option RV
  | .int i => some (.sh (.int (if i < 0 then -i else i)))
  | _ => none
def mmSem (f : Int → Int → Int) : PV → PV → Option RV
  | .int i, .int j => some (.sh (.int (f i j)))
  | _, _ => none
def allSem : PV → Option RV
  | .lst xs => (bools xs).map fun bs => .sh (.bl (bs.all id))
  | _ => none
def anySem : PV → Option RV
  | .lst xs => (bools xs).map fun bs => .sh (.bl (bs.any id))
  | _ => none
def sumSem : PV → Option RV
  | .lst xs => (intsL xs).map fun ns => .sh (.int ns.sum)
  | _ => none
def isiSem (x : PV) : PV → Option RV
  | .ty t => if tyKnown t then (tyName x).map fun a => .sh (.bl (tySub a t)) else none
  | .tup ts => (match tysOf ts with
    | some ns => (tyName x).map fun a => .sh (.bl (ns.any (tySub a)))
    | none => none)
  | _ => none
def strsL : List PV → Option (List (List Nat))
  | [] => some []
  | .str x :: xs => (strsL xs).map (x :: ·)
  | _ => none
def isBSem (b : Bool) : PV → Option RV
  | .bl c => some (.sh (.bl (decide (c = b))))
  | _ => none
def notBSem (b : Bool) : PV → Option RV
  | .bl c => some (.sh (.bl (!decide (c = b))))
  | _ => none
def joinOk (s : List Nat) (ys : List (List Nat)) : Bool := decide ((ys.map List.length).sum + ys.length * s.length ≤ szL)
def joinSem : PV → PV → Option RV
  | .str s, .lst xs => (match strsL xs with
    | some ys => if joinOk s ys then some (.sh (.str (TL.joinL s ys))) else none
    | none => none)
  | .str s, .tup xs => (match strsL xs with
    | some ys => if joinOk s ys then some (.sh (.str (TL.joinL s ys))) else none
    | none => none)
  | _, _ => none
def splitSem : PV → PV → Option RV
  | .str x, .str [c] => if x.length + 2 ≤ szL ∧ c < 256 then some (.fr (.lst ((TL.spl [c] 0 [] x).map .str))) else none
  | _, _ => none
def startsSem : PV → PV → Option RV
  | .str x, .str y => some (.sh (.bl (x.take y.length == y)))
  | _, _ => none
def toStrSem : PV → Option RV
  | .int i => if decide (i.natAbs < 2 ^ 1900) then some (.sh (.str (toString i : Str).cps.toList)) else none
  | .str x => some (.sh (.str x))
  | _ => none
def maxI : Int → List Int → Int
  | m, [] => m
  | m, x :: r => maxI (if m < x then x else m) r
def minI : Int → List Int → Int
  | m, [] => m
  | m, x :: r => minI (if x < m then x else m) r
def maxLSem : PV → Option RV
  | .lst xs => (match intsL xs with
    | some (n :: ns) => some (.sh (.int (maxI n ns)))
    | _ => none)
  | _ => none
def minLSem : PV → Option RV
  | .lst xs => (match intsL xs with
    | some (n :: ns) => some (.sh (.int (minI n ns)))
    | _ => none)
  | _ => none
def leS (x y : List Nat) : Bool := !decide (y < x)
def sortdSem : PV → Option RV
  | .lst xs => (match intsL xs with
    | some ns => some (.fr (.lst ((ns.mergeSort fun a b => decide (a ≤ b)).map .int)))
    | none => match strsL xs with
      | some ys => if ys.length < 64 then some (.fr (.lst ((ys.mergeSort leS).map .str))) else none
      | none => none)
  | _ => none
def revsSem : PV → Option RV
  | .lst xs => some (.fr (.lst xs.reverse))
  | _ => none
def primSem : P → List PV → Option RV
  | .add, [x, y] => addSem x y
  | .sub, [x, y] => subSem x y
  | .mul, [x, y] => mulSem x y
  | .fdiv, [x, y] => fdivSem x y
  | .mod, [x, y] => modSem x y
  | .pow, [x, y] => powSem x y
  | .neg, [x] => negSem x
  | .eq, [x, y] => eqSem x y
  | .ne, [x, y] => neSem x y
  | .lt, [x, y] => ordSem (fun i j => decide (i < j)) x y
  | .le, [x, y] => ordSem (fun i j => decide (i ≤ j)) x y
  | .gt, [x, y] => ordSem (fun i j => decide (j < i)) x y
  | .ge, [x, y] => ordSem (fun i j => decide (j ≤ i)) x y
  | .isin, [x, y] => (isinB x y).map fun b => .sh (.bl b)
  | .notin, [x, y] => (isinB x y).map fun b => .sh (.bl (!b))
  | .isN, [x] => some (.sh (.bl (isNon x)))
  | .notN, [x] => some (.sh (.bl (!isNon x)))
  | .idx, [x, y] => idxSem x y
  | .len, [x] => lenSem x
  | .abs, [x] => absSem x
  | .min2, [x, y] => mmSem (fun i j => if j < i then j else i) x y
  | .max2, [x, y] => mmSem (fun i j => if j > i then j else i) x y
  | .toInt, [x] => toIntSem x
  | .toTup, [x] => toTupSem x
  | .toList, [x] => toListSem x
  | .all, [x] => allSem x
  | .any, [x] => anySem x
  | .sum, [x] => sumSem x
  | .isi, [x, y] => isiSem x y
  | .isB b, [x] => isBSem b x
  | .notB b, [x] => notBSem b x
  | .join, [x, y] => joinSem x y
  | .split, [x, y] => splitSem x y
  | .starts, [x, y] => startsSem x y
  | .toStr, [x] => toStrSem x
  | .maxL, [x] => maxLSem x
  | .minL, [x] => minLSem x
  | .sortd, [x] => sortdSem x
  | .revs, [x] => revsSem x
  | _, _ => none

/-- the kind of thing that it changes -/
def mutTy (_ : M) (o : Option PV) : Bool := match o with
  | some (.lst _) => true
  | _ => false
def appSem : PV → List PV → Option (PV × PV)
  | .lst xs, [v] => if xs.length < szL then some (.lst (xs ++ [v]), .non) else none
  | _, _ => none
def popSem : PV → List PV → Option (PV × PV)
  | .lst xs, [] => (match xs.getLast? with
    | some v => some (.lst xs.dropLast, v)
    | none => none)
  | _, _ => none
def insSem : PV → List PV → Option (PV × PV)
  | .lst xs, [.int i, v] => if xs.length < szL ∧ 0 ≤ i ∧ i < 2 ^ 63 then some (.lst (xs.take i.toNat ++ [v] ++ xs.drop i.toNat), .non) else none
  | _, _ => none
def popASem : PV → List PV → Option (PV × PV)
  | .lst xs, [.int i] => if 0 ≤ i ∧ i < 2 ^ 63 then (match xs[i.toNat]? with
    | some v => some (.lst (xs.eraseIdx i.toNat), v)
    | none => none) else none
  | _, _ => none
def clrSem : PV → List PV → Option (PV × PV)
  | .lst _, [] => some (.lst [], .non)
  | _, _ => none
def rvsSem : PV → List PV → Option (PV × PV)
  | .lst xs, [] => some (.lst xs.reverse, .non)
  | _, _ => none
def mutSem (m : M) (o : PV) (vs : List PV) : Option (PV × PV) := match m with
  | .append => appSem o vs
  | .pop => popSem o vs
  | .insert => insSem o vs
  | .popAt => popASem o vs
  | .clear => clrSem o vs
  | .reverse => rvsSem o vs

/-- a[i] = v -/
def setSem : PV → PV → PV → Option PV
  | .lst xs, .int i, v => (match L2.ixN xs.length i with
    | some k => some (.lst (xs.set k v))
    | none => none)
  | _, _, _ => none

/-! ### targets -/
mutual
/-- a value is bound to a target -/
def bindT : T → PV → SS → Option SS
  | .nm i, v, s => if i < s.env.length then some { s with env := s.env.set i (.val v) } else none
  | .tp ts, .tup xs, s => bindTs ts xs s
  | .tp ts, .lst xs, s => bindTs ts xs s
  | _, _, _ => none
def bindTs : List T → List PV → SS → Option SS
  | [], [], s => some s
  | t :: ts, x :: xs, s => (match bindT t x s with
    | some s1 => bindTs ts xs s1
    | none => none)
  | _, _, _ => none
end
/-- target = what an expression gave -/
def asgT : T → RV → SS → Option SS
  | .nm i, .fr o, s => if i < s.env.length then some { s with env := s.env.set i (.own o) } else none
  | t, r, s => (match keep s r with
    | some (v, s1) => bindT t v s1
    | none => none)

/-- what is unpacked -/
def seqOf : PV → Option (List PV)
  | .tup xs => some xs
  | .lst xs => some xs
  | _ => none
/-- what is stored at once into several names -/
def slsOf (s : SS) : List RV → Option (List Sl × SS)
  | [] => some ([], s)
  | .fr o :: rs => (match slsOf s rs with
    | some (as, s1) => some (.own o :: as, s1)
    | none => none)
  | r :: rs => (match keep s r with
    | some (v, s1) => (match slsOf s1 rs with
      | some (as, s2) => some (.val v :: as, s2)
      | none => none)
    | none => none)
def putSls : List Nat → List Sl → SS → Option SS
  | [], [], s => some s
  | i :: is, a :: as, s => if i < s.env.length then putSls is as { s with env := s.env.set i a } else none
  | _, _, _ => none
/-- a, b, *c = v -/
def asgRS (is : List Nat) (j : Nat) (v : PV) (s : SS) : Option SS := match seqOf v with
  | some xs => if is.length ≤ xs.length ∧ xs.length ≤ 16384 then putSls (is ++ [j]) ((xs.take is.length ++ [PV.lst (xs.drop is.length)]).map Sl.val) s else none
  | none => none
/-- an int, by itself -/
def augSem : P → PV → PV → Option PV
  | .add, .int i, .int j => some (.int (i + j))
  | .sub, .int i, .int j => some (.int (i - j))
  | _, _, _ => none

/-! ### calls -/
inductive CR where
  /-- what it gives, what its params hold at the end, the store -/
  | ok (r : RV) (fin : List Sl) (sto : List SO)
  | exc (x : PV) (fin : List Sl) (sto : List SO)
  | bad
abbrev CF := Str → List Sl → List SO → CR

/-- arguments: a slot's own thing is lent, once -/
def argOf (s : SS) (lent : List Nat) : RV → Option (Sl × List Nat)
  | .sh v => some (.val v, lent)
  | .fr o => some (.own o, lent)
  | .hd i => (match s.env[i]? with
    | some (.val v) => some (.val v, lent)
    | some (.own o) => if i ∈ lent then none else some (.own o, i :: lent)
    | _ => none)
def argsOf (s : SS) : List Nat → List RV → Option (List Sl)
  | _, [] => some []
  | lent, r :: rs => match argOf s lent r with
    | none => none
    | some (a, l) => match argsOf s l rs with
      | none => none
      | some as => some (a :: as)
/-- behind a call: what was lent comes back as it is then -/
def backE : List Sl → List RV → List Sl → List Sl → List Sl
  | env, [], _, _ => env
  | env, r :: rs, as, fs => match as, fs with
    | a :: as', f :: fs' => (match r, a with
      | .hd i, .own _ => backE (env.set i f) rs as' fs'
      | _, _ => backE env rs as' fs')
    | _, _ => env
def callE (cf : CF) (f : Str) (rs : List RV) (s : SS) : Res RV :=
  match argsOf s [] rs with
  | none => .bad
  | some as => match cf f as s.sto with
    | .ok r fin sto => .ok r ⟨backE s.env rs as fin, sto⟩
    | .exc x fin sto => .exc x ⟨backE s.env rs as fin, sto⟩
    | .bad => .bad

/-- arguments by their params -/
def permR (rs : List RV) : List (Sum Nat PV) → Option (List RV)
  | [] => some []
  | .inl i :: pm => match rs[i]?, permR rs pm with
    | some r, some q => some (r :: q)
    | _, _ => none
  | .inr v :: pm => (permR rs pm).map (.sh v :: ·)
/-- each is used once -/
def permIx : List (Sum Nat PV) → List Nat
  | [] => []
  | .inl i :: r => i :: permIx r
  | .inr _ :: r => permIx r
def permOk (pm : List (Sum Nat PV)) : Bool := decide (permIx pm).Nodup
/-! ### expressions -/
/-- a list or dict behind a deed, where it stood -/
def putBack (r : RV) (o : PV) (s : SS) : Option SS := match r with
  | .hd i => (match s.env[i]? with
    | some (.own _) => some { s with env := s.env.set i (.own o) }
    | some (.val (.ref l)) => (match s.sto[l]? with
      | some (.box _) => some { s with sto := s.sto.set l (.box o) }
      | _ => none)
    | _ => none)
  | .sh (.ref l) => (match s.sto[l]? with
    | some (.box _) => some { s with sto := s.sto.set l (.box o) }
    | _ => none)
  | _ => none
def ownSlots (env : List Sl) (own : List Nat) : Bool := own.any fun i => match env[i]? with
  | some (.own _) => true
  | some _ => false
  | none => true
def wipeS : List Sl → List Nat → List Sl
  | env, [] => env
  | env, v :: vs => (wipeS env vs).set v .un
def restS (old : List Sl) : List Sl → List Nat → List Sl
  | env, [] => env
  | env, v :: vs => (restS old env vs).set v (old.getD v .un)
/-- the turns of a comprehension -/
def lcLoop (own : List Nat) (turn : PV → SS → Res (Option PV)) : List PV → List PV → SS → Res (List PV)
  | [], acc, s => .ok acc s
  | x :: xs, acc, s => (turn x { s with env := wipeS s.env own }).bind fun r s1 => match r with
    | some v => if acc.length < szL then lcLoop own turn xs (acc ++ [v]) s1 else .bad
    | none => lcLoop own turn xs acc s1

/-- what is raised within a comprehension is not followed -/
def noExc {α : Type} : Res α → Res α
  | .exc _ _ => .bad
  | r => r
def testR (s : SS) (r : RV) : Option Bool := match cont s r with
  | some (.bl b) => some b
  | _ => none
def rangeL (a : Int) (n : Nat) : List PV := (List.range n).map fun (k : Nat) => .int (a + (k : Int))
def enumL : Nat → List PV → List PV
  | _, [] => []
  | k, x :: xs => .tup [.int k, x] :: enumL (k + 1) xs
def itemsOf : PV → Option (List PV)
  | .lst xs => some xs
  | .rol xs => some xs
  | .tup xs => some xs
  | .str x => some (x.map fun c => .str [c])
  | _ => none

mutual
def evalE (cf : CF) : E → SS → Res RV
  | .var i, s => (match s.env[i]? with
    | some (.val v) => .ok (.sh v) s
    | some (.own _) => .ok (.hd i) s
    | _ => .bad)
  | .con v, s => .ok (.sh v) s
  | .prim p es, s => (evalEs cf es s).bind fun rs s1 => match conts s1 rs with
    | some cs => (match primSem p cs with
      | some r => .ok r s1
      | none => .bad)
    | none => .bad
  | .chain p q a b c, s => (evalE cf a s).bind fun ra s1 => (evalE cf b s1).bind fun rb s2 => match conts s2 [ra, rb] with
    | some cs => (match primSem p cs with
      | some (.sh (.bl true)) => (evalE cf c s2).bind fun rc s3 => (match conts s3 [rb, rc] with
        | some cs => (match primSem q cs with
          | some r => .ok r s3
          | none => .bad)
        | none => .bad)
      | some (.sh (.bl false)) => .ok (.sh (.bl false)) s2
      | _ => .bad)
    | none => .bad
  | .not a, s => (evalE cf a s).bind fun r s1 => match testR s1 r with
    | some b => .ok (.sh (.bl (!b))) s1
    | none => .bad
  | .and es, s => evalAnd cf es s
  | .or es, s => evalOr cf es s
  | .ite c a b, s => (evalE cf c s).bind fun r s1 => match testR s1 r with
    | some true => evalE cf a s1
    | some false => evalE cf b s1
    | none => .bad
  | .tup es, s => (evalEs cf es s).bind fun rs s1 => if rs.length ≤ szL then (match keeps s1 rs with
    | some (vs, s2) => .ok (.sh (.tup vs)) s2
    | none => .bad) else .bad
  | .list es, s => (evalEs cf es s).bind fun rs s1 => if rs.length ≤ szL then (match keeps s1 rs with
    | some (vs, s2) => .ok (.fr (.lst vs)) s2
    | none => .bad) else .bad
  | .call f es, s => (evalEs cf es s).bind fun rs s1 => callE cf f rs s1
  | .mut m t es, s => (evalE cf t s).bind fun r s1 => if mutTy m (cont s1 r) = false then .bad else (evalEs cf es s1).bind fun rs s2 => match keeps s2 rs with
    | some (vs, s3) => (match cont s3 r with
      | some o => (match mutSem m o vs with
        | some (o', v) => (match putBack r o' s3 with
          | some s4 => .ok (.sh v) s4
          | none => .bad)
        | none => .bad)
      | none => .bad)
    | none => .bad
  | .slice a lo hi, s => (evalE cf a s).bind fun ra s1 => (evalE cf lo s1).bind fun rl s2 => match bndOf s2 (isAbs lo) rl with
    | some l => (evalE cf hi s2).bind fun rh s3 => (match bndOf s3 (isAbs hi) rh with
      | some h => (match cont s3 ra with
        | some c => (match slSem l h c with
          | some r => .ok r s3
          | none => .bad)
        | none => .bad)
      | none => .bad)
    | none => .bad
  | .lc elt t it cs own, s => (evalI cf it s).bind fun xs s1 => if ownSlots s1.env own then .bad else
    (noExc (lcLoop own (fun x s2 => match bindT t x s2 with
      | some s3 => (evalCs cf cs s3).bind fun b s4 => if b then (evalE cf elt s4).bind fun r s5 => (match keep s5 r with
          | some (v, s6) => .ok (some v) s6
          | none => .bad)
        else .ok none s4
      | none => .bad) xs [] s1)).bind fun ys s7 => .ok (.fr (.lst ys)) { s7 with env := restS s1.env s7.env own }
  | .dead, _ => .bad
  | .sm p t e, s => (evalE cf t s).bind fun r s1 => match cont s1 r with
    | some (.str z) => (evalE cf e s1).bind fun r2 s2 => (match cont s2 r2 with
      | some d => (match primSem p [.str z, d] with
        | some x => .ok x s2
        | none => .bad)
      | none => .bad)
    | _ => .bad
  | .didx _ tb e, s => (evalE cf e s).bind fun r s1 => match cont s1 r with
    | some (.str z) => (match tb.lookup z with
      | some v => .ok (.sh v) s1
      | none => .bad)
    | _ => .bad
  | .callK f es pm, s => (evalEs cf es s).bind fun rs s1 => match permR rs pm with
    | some qs => callE cf f qs s1
    | none => .bad
  | .callL i fs es, s => (match s.env[i]? with
    | some (.val (.glo f)) => if fs.contains f then (evalEs cf es s).bind fun rs s1 => callE cf f rs s1 else .bad
    | _ => .bad)
def evalEs (cf : CF) : List E → SS → Res (List RV)
  | [], s => .ok [] s
  | e :: es, s => (evalE cf e s).bind fun r s1 => (evalEs cf es s1).bind fun rs s2 => .ok (r :: rs) s2
def evalAnd (cf : CF) : List E → SS → Res RV
  | [], _ => .bad
  | [e], s => evalE cf e s
  | e :: es, s => (evalE cf e s).bind fun r s1 => match testR s1 r with
    | some true => evalAnd cf es s1
    | some false => .ok (.sh (.bl false)) s1
    | none => .bad
def evalOr (cf : CF) : List E → SS → Res RV
  | [], _ => .bad
  | [e], s => evalE cf e s
  | e :: es, s => (evalE cf e s).bind fun r s1 => match testR s1 r with
    | some true => .ok (.sh (.bl true)) s1
    | some false => evalOr cf es s1
    | none => .bad
/-- the tests of a comprehension -/
def evalCs (cf : CF) : List E → SS → Res Bool
  | [], s => .ok true s
  | [e], s => (evalE cf e s).bind fun r s1 => match testR s1 r with
    | some b => .ok b s1
    | none => .bad
  | _, _ => .bad
/-- what a loop goes through -/
def evalI (cf : CF) : I → SS → Res (List PV)
  | .of e, s => (evalE cf e s).bind fun r s1 => match keep s1 r with
    | some (v, s2) => (match itemsOf v with
      | some xs => .ok xs s2
      | none => .bad)
    | none => .bad
  | .range es, s => (evalEs cf es s).bind fun rs s1 => match conts s1 rs with
    | some [.int n] => if -(2 ^ 62) ≤ n ∧ n < 2 ^ 62 then .ok (rangeL 0 n.toNat) s1 else .bad
    | some [.int a, .int b] => if (-(2 ^ 62) ≤ a ∧ a < 2 ^ 62) ∧ (-(2 ^ 62) ≤ b ∧ b < 2 ^ 62) then .ok (rangeL a (b - a).toNat) s1 else .bad
    | _ => .bad
  | .enum e, s => (evalE cf e s).bind fun r s1 => match keep s1 r with
    | some (.lst xs, s2) => .ok (enumL 0 xs) s2
    | _ => .bad
  | .zip a b, s => (evalE cf a s).bind fun ra s1 => (evalE cf b s1).bind fun rb s2 => match keeps s2 [ra, rb] with
    | some ([.lst xs, .lst ys], s3) => .ok ((xs.zip ys).map fun p => .tup [p.1, p.2]) s3
    | some ([.tup xs, .tup ys], s3) => .ok ((xs.zip ys).map fun p => .tup [p.1, p.2]) s3
    | _ => .bad
  | .rev e, s => (evalE cf e s).bind fun r s1 => match keep s1 r with
    | some (.lst xs, s2) => .ok xs.reverse s2
    | some (.tup xs, s2) => .ok xs.reverse s2
    | _ => .bad
end

/-! ### statements -/
inductive Fl where
  | nx | br | ct
  | rt (r : RV)
/-- so many turns of a while -/
def whileN (c : SS → Res Bool) (b : SS → Res Fl) : Nat → SS → Res Fl
  | 0, _ => .bad
  | n + 1, s => (c s).bind fun t s1 => match t with
    | true => (b s1).bind fun f s2 => (match f with
      | .nx => whileN c b n s2
      | .ct => whileN c b n s2
      | .br => .ok .nx s2
      | .rt r => .ok (.rt r) s2)
    | false => .ok .nx s1
def forN (turn : PV → SS → Res Fl) : List PV → SS → Res Fl
  | [], s => .ok .nx s
  | x :: xs, s => (turn x s).bind fun f s1 => match f with
    | .nx => forN turn xs s1
    | .ct => forN turn xs s1
    | .br => .ok .nx s1
    | .rt r => .ok (.rt r) s1
/-- enough turns for every while -/
def turns : Nat := 18446744073709551616
/-- return: a param's own thing stays the caller's -/
def retR (np : Nat) (r : RV) (s : SS) : Option (RV × SS) := match r with
  | .hd i => (match s.env[i]? with
    | some (.val v) => some (.sh v, s)
    | some (.own o) => if i < np then some (.sh o, { s with env := s.env.set i (.val o) }) else some (.fr o, { s with env := s.env.set i .un })
    | _ => none)
  | r => some (r, s)
mutual
def execS (cf : CF) (np : Nat) : S → SS → Res Fl
  | .asg t e, s => (evalE cf e s).bind fun r s1 => match asgT t r s1 with
    | some s2 => .ok .nx s2
    | none => .bad
  | .asgR is j e, s => (evalE cf e s).bind fun r s1 => match keep s1 r with
    | some (v, s2) => (match asgRS is j v s2 with
      | some s3 => .ok .nx s3
      | none => .bad)
    | none => .bad
  | .par is es, s => (evalEs cf es s).bind fun rs s1 => match slsOf s1 rs with
    | some (as, s2) => (match putSls is as s2 with
      | some s3 => .ok .nx s3
      | none => .bad)
    | none => .bad
  | .aug i p e, s => (match s.env[i]? with
    | some (.val v) => (evalE cf e s).bind fun r s1 => (match cont s1 r with
      | some w => (match augSem p v w with
        | some z => .ok .nx { s1 with env := s1.env.set i (.val z) }
        | none => .bad)
      | none => .bad)
    | _ => .bad)
  | .setix a i e, s => (evalE cf e s).bind fun r s1 => match keep s1 r with
    | some (v, s2) => (evalE cf a s2).bind fun ra s3 => (evalE cf i s3).bind fun ri s4 => (match cont s4 ra, cont s4 ri with
      | some o, some k => (match setSem o k v with
        | some o' => (match putBack ra o' s4 with
          | some s5 => .ok .nx s5
          | none => .bad)
        | none => .bad)
      | _, _ => .bad)
    | none => .bad
  | .expr e, s => (evalE cf e s).bind fun _ s1 => .ok .nx s1
  | .ret e, s => (evalE cf e s).bind fun r s1 => match retR np r s1 with
    | some (r', s2) => .ok (.rt r') s2
    | none => .bad
  | .retN, s => .ok (.rt (.sh .non)) s
  | .pass, s => .ok .nx s
  | .brk, s => .ok .br s
  | .cont, s => .ok .ct s
  | .ite c a b, s => (evalE cf c s).bind fun r s1 => match testR s1 r with
    | some true => execSs cf np a s1
    | some false => execSs cf np b s1
    | none => .bad
  | .while c b, s => whileN (fun s => (evalE cf c s).bind fun r s1 => match testR s1 r with
      | some t => .ok t s1
      | none => .bad) (fun s => execSs cf np b s) turns s
  | .for t it b, s => (evalI cf it s).bind fun xs s1 => forN (fun x s2 => match bindT t x s2 with
      | some s3 => execSs cf np b s3
      | none => .bad) xs s1
  | .dead, _ => .bad
def execSs (cf : CF) (np : Nat) : List S → SS → Res Fl
  | [], s => .ok .nx s
  | st :: r, s => (execS cf np st s).bind fun f s1 => match f with
    | .nx => execSs cf np r s1
    | f => .ok f s1
end

/-! ### defs -/
/-- a param that the body stores can not be lent -/
def frz1 (as : List Sl) (i : Nat) : List Sl := match as[i]? with
  | some (.own o) => as.set i (.val o)
  | _ => as
def frzA : List Nat → List Sl → List Sl
  | [], as => as
  | i :: is, as => frzA is (frz1 as i)
def finA (asg : List Nat) : Nat → List Sl → List Sl → List Sl
  | k, a :: r, env => (if k ∈ asg then a else env.getD k .un) :: finA asg (k + 1) r env
  | _, [], _ => []
def runFd (cf : CF) (d : Fd) (as : List Sl) (sto : List SO) : CR :=
  if as.length = d.np ∧ d.np ≤ d.ns then
    let as' := frzA d.asg as
    match execSs cf d.np d.body ⟨as' ++ List.replicate (d.ns - d.np) .un, sto⟩ with
    | .ok .nx s => .ok (.sh .non) (finA d.asg 0 as' s.env) s.sto
    | .ok (.rt r) s => .ok r (finA d.asg 0 as' s.env) s.sto
    | .ok _ _ => .bad
    | .exc x s => .exc x (finA d.asg 0 as' s.env) s.sto
    | .bad => .bad
  else .bad
abbrev Tab := List (Str × Fd)
def callF (tab : Tab) : Nat → CF
  | 0 => fun _ _ _ => .bad
  | n + 1 => fun f as sto => match tab.lookup f with
    | some d => runFd (callF tab n) d as sto
    | none => .bad
end TP

set_option Elab.async false
set_option linter.all false
set_option maxRecDepth 100000
set_option maxHeartbeats 4000000
/-! Sal2: what the values stand for over the abstract heap. -/
namespace TP
open PySem PySem.Spec PyProof.Rows
open L2 (V Hp HO Key upd upd_same upd_ne SqL SqT Rd)

/-- whose an address is: nobody's we know of; frozen; held by somebody around; a slot's own; the store's -/
inductive Tag where
  | free | fz | hold | slot (i : Nat) | loc (l : Nat)
  deriving DecidableEq
abbrev Gh := Addr → Tag
def tg (G : Gh) (a : Addr) (t : Tag) : Gh := fun b => if b = a then t else G b
theorem tg_same {G : Gh} {a : Addr} {t : Tag} : tg G a t a = t := if_pos rfl
theorem tg_ne {G : Gh} {a b : Addr} {t : Tag} (h : b ≠ a) : tg G a t b = G b := if_neg h

section
variable (K : PySem.W.Frag) (mg : Str → Option Value)
def KLst (a : Addr) (xs : List V) : Prop := ∃ (o : Obj) (its : Array Value) (n : Nat), K.lookup a = some o ∧ o.cls = .type "list" ∧ o.dict = none ∧ o.data = .seq its n ∧ its.size ≤ sizeLine ∧ L2.Vals xs its.toList
/-- a list from without: it stays as it is -/
def RdZ (H : Hp) (a : Addr) (xs : List V) : Prop := (∃ o, H a = some (.frz o (.lst xs))) ∨ KLst K a xs
mutual
inductive PVR (G : Gh) (H : Hp) : PV → V → Prop where
  | non : PVR G H .non .non
  | bl (b : Bool) : PVR G H (.bl b) (.bl b)
  | int (i : Int) : PVR G H (.int i) (.int i)
  | str (x : List Nat) : PVR G H (.str x) (.str ⟨x.toArray⟩)
  | tup {a : Addr} {xs : List PV} {Vs : List V} : SqT K H a Vs → PVRs G H xs Vs → PVR G H (.tup xs) (.ref a)
  | lst {a : Addr} {xs : List PV} {Vs : List V} : H a = some (.lst Vs) → G a = .fz → PVRs G H xs Vs → PVR G H (.lst xs) (.ref a)
  | rol {a : Addr} {xs : List PV} {Vs : List V} : RdZ K H a Vs → PVRs G H xs Vs → PVR G H (.rol xs) (.ref a)
  | dct {a : Addr} {ks : List Key} {vs : List PV} {kvs : List (Key × V)} : H a = some (.dK kvs) → G a = .fz → kvs.map (·.1) = ks → PVRs G H vs (kvs.map (·.2)) → PVR G H (.dct ks vs) (.ref a)
  | ref {l : Nat} {a : Addr} : G a = .loc l → PVR G H (.ref l) (.ref a)
  | glo {x : Str} {a : Addr} : mg x = some (.ref a) → PVR G H (.glo x) (.ref a)
  | ty (n : String) : PVR G H (.ty n) (.ty n)
inductive PVRs (G : Gh) (H : Hp) : List PV → List V → Prop where
  | nil : PVRs G H [] []
  | cons {x : PV} {v : V} {xs : List PV} {vs : List V} : PVR G H x v → PVRs G H xs vs → PVRs G H (x :: xs) (v :: vs)
end
/-- the content of an object at a -/
def ObR (G : Gh) (H : Hp) (a : Addr) : PV → Prop
  | .lst xs => ∃ Vs, H a = some (.lst Vs) ∧ PVRs K mg G H xs Vs
  | .dct ks vs => ∃ kvs, H a = some (.dK kvs) ∧ kvs.map (·.1) = ks ∧ PVRs K mg G H vs (kvs.map (·.2))
  | _ => False
def SoR (G : Gh) (H : Hp) (a : Addr) : SO → Prop
  | .ins _ _ => False
  | .box o => ObR K mg G H a o
/-- a slot -/
def SlR (G : Gh) (H : Hp) (i : Nat) (o : Option V) : Sl → Prop
  | .un => True
  | .val v => ∃ x, o = some x ∧ PVR K mg G H v x
  | .own c => ∃ a, o = some (.ref a) ∧ G a = .slot i ∧ ObR K mg G H a c
structure Rel (G : Gh) (s : SS) (σ : L2.St) (H : Hp) : Prop where
  len : s.env.length = σ.length
  slots : ∀ i sl, s.env[i]? = some sl → SlR K mg G H i (σ[i]?).join sl
  sto : ∀ l so, s.sto[l]? = some so → ∃ a, G a = .loc l ∧ SoR K mg G H a so
  uniq : ∀ a b l, G a = .loc l → G b = .loc l → a = b
  trk : ∀ a, G a ≠ .free → H a ≠ none
  lim : ∀ a l, G a = .loc l → l < s.sto.length
/-- what an expression gave: G0 as it was ahead -/
def RVR (G0 G : Gh) (H : Hp) (σ : L2.St) : RV → V → Prop
  | .sh v, x => PVR K mg G H v x
  | .fr o, x => ∃ a, x = .ref a ∧ G a = .hold ∧ G0 a ≠ .hold ∧ ObR K mg G H a o
  | .hd i, x => σ[i]? = some (some x)
inductive RVRs (G0 G : Gh) (H : Hp) (σ : L2.St) : List RV → List V → Prop where
  | nil : RVRs G0 G H σ [] []
  | cons {r : RV} {x : V} {rs : List RV} {xs : List V} : RVR K mg G0 G H σ r x → (∀ o, r = .fr o → ∀ o' (j : Nat), rs[j]? = some (.fr o') → xs[j]? ≠ some x) → RVRs G0 G H σ rs xs → RVRs G0 G H σ (r :: rs) (x :: xs)
end

/-- what is frozen, the store's, a tuple stays: values stay values -/
structure Mono (G : Gh) (H : Hp) (G' : Gh) (H' : Hp) : Prop where
  fz : ∀ a, G a = .fz → G' a = .fz ∧ H' a = H a
  loc : ∀ a l, G a = .loc l → G' a = .loc l
  tup : ∀ a xs, H a = some (.tup xs) → H' a = some (.tup xs)
  frz : ∀ a o u, H a = some (.frz o u) → H' a = some (.frz o u)
/-- and what is held stays -/
structure Step (G : Gh) (H : Hp) (G' : Gh) (H' : Hp) : Prop where
  mono : Mono G H G' H'
  hold : ∀ a, G a = .hold → G' a = .hold ∧ H' a = H a
theorem Mono.refl {G : Gh} {H : Hp} : Mono G H G H := ⟨fun _ e => ⟨e, rfl⟩, fun _ _ e => e, fun _ _ e => e, fun _ _ _ e => e⟩
theorem Mono.trans {G G1 G2 : Gh} {H H1 H2 : Hp} (a : Mono G H G1 H1) (b : Mono G1 H1 G2 H2) : Mono G H G2 H2 where
  fz := fun c e => let ⟨e1, h1⟩ := a.fz c e; let ⟨e2, h2⟩ := b.fz c e1; ⟨e2, h2.trans h1⟩
  loc := fun c l e => b.loc c l (a.loc c l e)
  tup := fun c xs e => b.tup c xs (a.tup c xs e)
  frz := fun c o u e => b.frz c o u (a.frz c o u e)
theorem Step.refl {G : Gh} {H : Hp} : Step G H G H := ⟨.refl, fun _ e => ⟨e, rfl⟩⟩
theorem Step.trans {G G1 G2 : Gh} {H H1 H2 : Hp} (a : Step G H G1 H1) (b : Step G1 H1 G2 H2) : Step G H G2 H2 where
  mono := a.mono.trans b.mono
  hold := fun c e => let ⟨e1, h1⟩ := a.hold c e; let ⟨e2, h2⟩ := b.hold c e1; ⟨e2, h2.trans h1⟩
theorem Step.fz {G G1 : Gh} {H H1 : Hp} (a : Step G H G1 H1) : ∀ a, G a = .fz → G1 a = .fz ∧ H1 a = H a := a.mono.fz
theorem Step.loc {G G1 : Gh} {H H1 : Hp} (a : Step G H G1 H1) : ∀ a l, G a = .loc l → G1 a = .loc l := a.mono.loc
theorem Step.tup {G G1 : Gh} {H H1 : Hp} (a : Step G H G1 H1) : ∀ a xs, H a = some (.tup xs) → H1 a = some (.tup xs) := a.mono.tup
theorem Step.frz {G G1 : Gh} {H H1 : Hp} (a : Step G H G1 H1) : ∀ a o u, H a = some (.frz o u) → H1 a = some (.frz o u) := a.mono.frz

section
variable {K : PySem.W.Frag} {mg : Str → Option Value} {G G' : Gh} {H H' : Hp}
theorem SqT.step {a : Addr} {xs : List V} (h : SqT K H a xs) (st : Mono G H G' H') : SqT K H' a xs := by
  rcases h with (h | ⟨o, h⟩) | h
  · exact .inl (.inl (st.tup a xs h))
  · exact .inl (.inr ⟨o, st.frz a o _ h⟩)
  · exact .inr h
theorem RdZ.step {a : Addr} {xs : List V} (h : RdZ K H a xs) (st : Mono G H G' H') : RdZ K H' a xs := by
  rcases h with ⟨o, h⟩ | h
  · exact .inl ⟨o, st.frz a o _ h⟩
  · exact .inr h
theorem RdZ.sq {a : Addr} {xs : List V} (h : RdZ K H a xs) : SqL K H a xs := by
  rcases h with ⟨o, h⟩ | h
  · exact .inl (.inr ⟨o, h⟩)
  · exact .inr h
mutual
theorem PVR.step : ∀ {v : PV} {x : V}, PVR K mg G H v x → Mono G H G' H' → PVR K mg G' H' v x
  | _, _, .non, _ => .non
  | _, _, .bl b, _ => .bl b
  | _, _, .int i, _ => .int i
  | _, _, .str x, _ => .str x
  | _, _, .tup h hs, st => .tup (SqT.step h st) (PVRs.step hs st)
  | _, _, .lst h g hs, st => .lst ((st.fz _ g).2.trans h) (st.fz _ g).1 (PVRs.step hs st)
  | _, _, .rol h hs, st => .rol (h.step st) (PVRs.step hs st)
  | _, _, .dct h g e hs, st => .dct ((st.fz _ g).2.trans h) (st.fz _ g).1 e (PVRs.step hs st)
  | _, _, .ref g, st => .ref (st.loc _ _ g)
  | _, _, .glo e, _ => .glo e
  | _, _, .ty n, _ => .ty n
theorem PVRs.step : ∀ {vs : List PV} {xs : List V}, PVRs K mg G H vs xs → Mono G H G' H' → PVRs K mg G' H' vs xs
  | _, _, .nil, _ => .nil
  | _, _, .cons h t, st => .cons (PVR.step h st) (PVRs.step t st)
end
theorem PVRs.length : ∀ {vs : List PV} {xs : List V}, PVRs K mg G H vs xs → vs.length = xs.length
  | _, _, .nil => rfl
  | _, _, .cons _ t => congrArg Nat.succ (PVRs.length t)
theorem PVRs.get : ∀ {vs : List PV} {xs : List V} {i : Nat} {v : PV}, PVRs K mg G H vs xs → vs[i]? = some v → ∃ x, xs[i]? = some x ∧ PVR K mg G H v x
  | _, _, _, _, .nil, e => by simp at e
  | _, _, 0, _, .cons h _, e => by simp at e; subst e; exact ⟨_, rfl, h⟩
  | _, _, i + 1, _, .cons _ t, e => by
    obtain ⟨x, h1, h2⟩ := PVRs.get (i := i) t (by simpa using e)
    exact ⟨x, by simpa using h1, h2⟩
theorem PVRs.append : ∀ {vs ws : List PV} {xs ys : List V}, PVRs K mg G H vs xs → PVRs K mg G H ws ys → PVRs K mg G H (vs ++ ws) (xs ++ ys)
  | _, _, _, _, .nil, s => s
  | _, _, _, _, .cons h t, s => .cons h (PVRs.append t s)
theorem PVRs.set {v : PV} {x : V} (r : PVR K mg G H v x) : ∀ {vs : List PV} {xs : List V} (i : Nat), PVRs K mg G H vs xs → PVRs K mg G H (vs.set i v) (xs.set i x)
  | _, _, _, .nil => .nil
  | _, _, 0, .cons _ t => .cons r t
  | _, _, i + 1, .cons q t => .cons q (PVRs.set r i t)
theorem PVRs.take : ∀ {vs : List PV} {xs : List V} (n : Nat), PVRs K mg G H vs xs → PVRs K mg G H (vs.take n) (xs.take n)
  | _, _, 0, _ => .nil
  | _, _, _ + 1, .nil => .nil
  | _, _, n + 1, .cons h t => .cons h (PVRs.take n t)
theorem PVRs.drop : ∀ {vs : List PV} {xs : List V} (n : Nat), PVRs K mg G H vs xs → PVRs K mg G H (vs.drop n) (xs.drop n)
  | _, _, 0, h => h
  | _, _, _ + 1, .nil => .nil
  | _, _, n + 1, .cons _ t => PVRs.drop n t
theorem PVRs.dropLast {vs : List PV} {xs : List V} (h : PVRs K mg G H vs xs) : PVRs K mg G H vs.dropLast xs.dropLast := by
  rw [List.dropLast_eq_take, List.dropLast_eq_take, h.length]
  exact h.take _
theorem PVRs.replicate {vs : List PV} {xs : List V} (h : PVRs K mg G H vs xs) : ∀ n : Nat, PVRs K mg G H (List.replicate n vs).flatten (List.replicate n xs).flatten
  | 0 => .nil
  | n + 1 => by
    rw [List.replicate_succ, List.replicate_succ, List.flatten_cons, List.flatten_cons]
    exact h.append (PVRs.replicate h n)
theorem PVRs.reverse : ∀ {vs : List PV} {xs : List V}, PVRs K mg G H vs xs → PVRs K mg G H vs.reverse xs.reverse
  | _, _, .nil => .nil
  | _, _, .cons h t => by
    rw [List.reverse_cons, List.reverse_cons]
    exact (PVRs.reverse t).append (.cons h .nil)
theorem ObR.step {a : Addr} : ∀ {o : PV}, ObR K mg G H a o → H' a = H a → Mono G H G' H' → ObR K mg G' H' a o
  | .lst xs, ⟨Vs, h, r⟩, e, st => ⟨Vs, e.trans h, r.step st⟩
  | .dct ks vs, ⟨kvs, h, q, r⟩, e, st => ⟨kvs, e.trans h, q, r.step st⟩
  | .non, h, _, _ => h.elim
  | .bl _, h, _, _ => h.elim
  | .int _, h, _, _ => h.elim
  | .str _, h, _, _ => h.elim
  | .tup _, h, _, _ => h.elim
  | .rol _, h, _, _ => h.elim
  | .ref _, h, _, _ => h.elim
  | .glo _, h, _, _ => h.elim
  | .ty _, h, _, _ => h.elim
/-- a frozen object's content is a value -/
theorem ObR.pvr {a : Addr} : ∀ {o : PV}, ObR K mg G H a o → G a = .fz → PVR K mg G H o (.ref a)
  | .lst xs, ⟨Vs, h, r⟩, g => .lst h g r
  | .dct ks vs, ⟨kvs, h, q, r⟩, g => .dct h g q r
  | .non, h, _ => h.elim
  | .bl _, h, _ => h.elim
  | .int _, h, _ => h.elim
  | .str _, h, _ => h.elim
  | .tup _, h, _ => h.elim
  | .rol _, h, _ => h.elim
  | .ref _, h, _ => h.elim
  | .glo _, h, _ => h.elim
  | .ty _, h, _ => h.elim
theorem ObR.there {a : Addr} {o : PV} (h : ObR K mg G H a o) : H a ≠ none := by
  cases o <;> first
    | exact h.elim
    | (obtain ⟨_, e, _⟩ := h; rw [e]; exact fun z => nomatch z)
theorem SoR.step {a : Addr} : ∀ {so : SO}, SoR K mg G H a so → H' a = H a → Mono G H G' H' → SoR K mg G' H' a so
  | .ins _ _, h, _, _ => h.elim
  | .box o, h, e, st => ObR.step (o := o) h e st
/-- the tags of slots, of the store and their objects stay -/
structure Same (G : Gh) (H : Hp) (G' : Gh) (H' : Hp) : Prop where
  st : Step G H G' H'
  slot : ∀ a i, G a = .slot i → G' a = .slot i ∧ H' a = H a
  locs : ∀ a l, G a = .loc l → H' a = H a
  back : ∀ a l, G' a = .loc l → G a = .loc l
  trk : ∀ a, G' a ≠ .free → H' a ≠ none
theorem Rel.same {s : SS} {σ : L2.St} (r : Rel K mg G s σ H) (q : Same G H G' H') : Rel K mg G' s σ H' where
  len := r.len
  slots := fun i sl e => by
    have h := r.slots i sl e
    cases sl with
    | un => trivial
    | val v => obtain ⟨x, e1, h1⟩ := h; exact ⟨x, e1, h1.step q.st.mono⟩
    | own c => obtain ⟨a, e1, g, h1⟩ := h; exact ⟨a, e1, (q.slot a i g).1, h1.step (q.slot a i g).2 q.st.mono⟩
  sto := fun l so e => let ⟨a, g, h⟩ := r.sto l so e; ⟨a, q.st.loc a l g, h.step (q.locs a l g) q.st.mono⟩
  uniq := fun a b l h1 h2 => r.uniq a b l (q.back a l h1) (q.back b l h2)
  trk := q.trk
  lim := fun a l h => r.lim a l (q.back a l h)
theorem Rel.free {s : SS} {σ : L2.St} (r : Rel K mg G s σ H) {p : Addr} (hp : H p = none) : G p = .free := by
  cases e : G p with
  | free => rfl
  | _ => exact absurd hp (r.trk p (by rw [e]; exact fun z => nomatch z))
/-- a new object -/
theorem Same.new {p : Addr} {o : HO} {t : Tag} (ht : ∀ a, G a ≠ .free → H a ≠ none) (hp : H p = none) (hl : ∀ l, t ≠ .loc l) : Same G H (tg G p t) (upd H p o) := by
  have gp : G p = .free := by
    cases e : G p with
    | free => rfl
    | _ => exact absurd hp (ht p (by rw [e]; exact fun z => nomatch z))
  have ne : ∀ a, G a ≠ .free → a ≠ p := fun a h e => h (e ▸ gp)
  have neH : ∀ a o, H a = some o → a ≠ p := fun a o h e => by rw [e, hp] at h; cases h
  refine ⟨⟨⟨fun a e => ?_, fun a l e => ?_, fun a xs e => ?_, fun a o u e => ?_⟩, fun a e => ?_⟩, fun a i e => ?_, fun a l e => ?_, fun a l e => ?_, fun a e => ?_⟩
  · have n := ne a (by rw [e]; exact fun z => nomatch z)
    exact ⟨(tg_ne n).trans e, upd_ne n⟩
  · have n := ne a (by rw [e]; exact fun z => nomatch z)
    exact (tg_ne n).trans e
  · rw [upd_ne (neH a _ e)]; exact e
  · rw [upd_ne (neH a _ e)]; exact e
  · have n := ne a (by rw [e]; exact fun z => nomatch z)
    exact ⟨(tg_ne n).trans e, upd_ne n⟩
  · have n := ne a (by rw [e]; exact fun z => nomatch z)
    exact ⟨(tg_ne n).trans e, upd_ne n⟩
  · have n := ne a (by rw [e]; exact fun z => nomatch z)
    exact upd_ne n
  · by_cases n : a = p
    · subst n; rw [tg_same] at e; exact absurd e (hl l)
    · rw [tg_ne n] at e; exact e
  · by_cases n : a = p
    · subst n; rw [upd_same]; exact fun z => nomatch z
    · rw [tg_ne n] at e; rw [upd_ne n]; exact ht a e
/-- a held thing is let go or frozen -/
theorem Same.refl (ht : ∀ a, G a ≠ .free → H a ≠ none) : Same G H G H := ⟨.refl, fun _ _ e => ⟨e, rfl⟩, fun _ _ _ => rfl, fun _ _ e => e, ht⟩
theorem Rel.trks {s : SS} {σ : L2.St} (r : Rel K mg G s σ H) : ∀ a, G a ≠ .free → H a ≠ none := r.trk

/-! ### tags change -/
/-- the step ahead of a change of tags: what changes was not held, frozen or the store's ahead -/
theorem Step.tag {G0 : Gh} {H0 : Hp} {a : Addr} {t : Tag} (st : Step G0 H0 G H) (h1 : G0 a ≠ .hold) (h2 : G0 a ≠ .fz) (h3 : ∀ l, G0 a ≠ .loc l) : Step G0 H0 (tg G a t) H where
  mono := ⟨fun b e => by
    have n : b ≠ a := fun z => h2 (z ▸ e)
    rw [tg_ne n]; exact st.fz b e, fun b l e => by
    have n : b ≠ a := fun z => h3 l (z ▸ e)
    rw [tg_ne n]; exact st.loc b l e, st.tup, st.frz⟩
  hold := fun b e => by
    have n : b ≠ a := fun z => h1 (z ▸ e)
    rw [tg_ne n]; exact st.hold b e
theorem Step.notFz {G0 : Gh} {H0 : Hp} {a : Addr} (st : Step G0 H0 G H) (h : G a ≠ .fz) : G0 a ≠ .fz := fun e => h (st.fz a e).1
theorem Step.notLoc {G0 : Gh} {H0 : Hp} {a : Addr} (st : Step G0 H0 G H) (h : ∀ l, G a ≠ .loc l) : ∀ l, G0 a ≠ .loc l := fun l e => h l (st.loc a l e)
theorem Step.notHold {G0 : Gh} {H0 : Hp} {a : Addr} (st : Step G0 H0 G H) (h : G a ≠ .hold) : G0 a ≠ .hold := fun e => h (st.hold a e).1
theorem Mono.tag {a : Addr} {t : Tag} (h2 : G a ≠ .fz) (h3 : ∀ l, G a ≠ .loc l) : Mono G H (tg G a t) H :=
  ⟨fun b e => by
    have n : b ≠ a := fun z => h2 (z ▸ e)
    rw [tg_ne n]; exact ⟨e, rfl⟩, fun b l e => by
    have n : b ≠ a := fun z => h3 l (z ▸ e)
    rw [tg_ne n]; exact e, fun _ _ e => e, fun _ _ _ e => e⟩
/-- what the change of a tag leaves -/
theorem Rel.tagged {s s' : SS} {σ σ' : L2.St} {a : Addr} {t : Tag} (r : Rel K mg G s σ H) (hs : s'.sto = s.sto) (h2 : G a ≠ .fz) (h3 : ∀ l, G a ≠ .loc l) (ht : ∀ l, t ≠ .loc l) (ha : H a ≠ none) (hl : s'.env.length = σ'.length)
    (hsl : ∀ i sl, s'.env[i]? = some sl → SlR K mg (tg G a t) H i (σ'[i]?).join sl) : Rel K mg (tg G a t) s' σ' H where
  len := hl
  slots := hsl
  sto := fun l so e => by
    rw [hs] at e
    obtain ⟨b, g, h⟩ := r.sto l so e
    have n : b ≠ a := fun z => h3 l (z ▸ g)
    exact ⟨b, (tg_ne n).trans g, h.step rfl (.tag h2 h3)⟩
  uniq := fun b c l h1 h2 => by
    have n1 : b ≠ a := fun z => by rw [z, tg_same] at h1; exact ht l h1
    have n2 : c ≠ a := fun z => by rw [z, tg_same] at h2; exact ht l h2
    rw [tg_ne n1] at h1
    rw [tg_ne n2] at h2
    exact r.uniq b c l h1 h2
  trk := fun b h => by
    by_cases n : b = a
    · subst n; exact ha
    · rw [tg_ne n] at h; exact r.trk b h
  lim := fun b l h => by
    rw [hs]
    have n1 : b ≠ a := fun z => by rw [z, tg_same] at h; exact ht l h
    rw [tg_ne n1] at h
    exact r.lim b l h
/-- a slot that is not the one at a, behind a change of a's tag -/
theorem SlR.tag {i : Nat} {o : Option V} {a : Addr} {t : Tag} (h2 : G a ≠ .fz) (h3 : ∀ l, G a ≠ .loc l) {sl : Sl} (h4 : G a = .slot i → ∀ c, sl ≠ .own c) (h : SlR K mg G H i o sl) : SlR K mg (tg G a t) H i o sl := by
  cases sl with
  | un => trivial
  | val v => obtain ⟨x, e1, h1⟩ := h; exact ⟨x, e1, h1.step (.tag h2 h3)⟩
  | own c =>
    obtain ⟨b, e1, g, h1⟩ := h
    have n : b ≠ a := fun z => h4 (z ▸ g) c rfl
    exact ⟨b, e1, (tg_ne n).trans g, h1.step rfl (.tag h2 h3)⟩
theorem fz_of {a : Addr} {t : Tag} (e : G a = t) (h : t ≠ .fz) : G a ≠ .fz := fun z => h (e.symm.trans z)
theorem loc_of {a : Addr} {t : Tag} (e : G a = t) (h : ∀ l, t ≠ .loc l) : ∀ l, G a ≠ .loc l := fun l z => h l (e.symm.trans z)
/-- a held thing is frozen -/
theorem Rel.frzHold {s : SS} {σ : L2.St} {a : Addr} (r : Rel K mg G s σ H) (g : G a = .hold) : Rel K mg (tg G a .fz) s σ H :=
  have h2 : G a ≠ .fz := fz_of g (fun z => nomatch z)
  have h3 : ∀ l, G a ≠ .loc l := loc_of g (fun _ z => nomatch z)
  r.tagged rfl h2 h3 (fun _ z => nomatch z) (r.trk a (by rw [g]; exact fun z => nomatch z)) r.len fun i sl e => SlR.tag h2 h3 (fun z => by rw [g] at z; cases z) (r.slots i sl e)
theorem join_get {σ : L2.St} {i : Nat} {x : V} (h : (σ[i]?).join = some x) : σ[i]? = some (some x) := by
  cases e : σ[i]? with
  | none => rw [e] at h; cases h
  | some o => rw [e] at h; exact congrArg some h
theorem get_join {σ : L2.St} {i : Nat} {x : V} (h : σ[i]? = some (some x)) : (σ[i]?).join = some x := by rw [h]; rfl
/-- a slot's own thing is frozen -/
theorem Rel.frzSlot {s : SS} {σ : L2.St} {a : Addr} {i : Nat} {o : PV} (r : Rel K mg G s σ H) (e : s.env[i]? = some (.own o)) (ea : σ[i]? = some (some (.ref a))) (g : G a = .slot i) (ob : ObR K mg G H a o) :
    Rel K mg (tg G a .fz) { s with env := s.env.set i (.val o) } σ H := by
  have h2 : G a ≠ .fz := fz_of g (fun z => nomatch z)
  have h3 : ∀ l, G a ≠ .loc l := loc_of g (fun _ z => nomatch z)
  refine r.tagged rfl h2 h3 (fun _ z => nomatch z) ob.there (by simp [r.len]) fun j sl ej => ?_
  by_cases hj : j = i
  · subst hj
    have hlt := (List.getElem?_eq_some_iff.mp e).1
    rw [List.getElem?_set_self hlt] at ej
    cases ej
    exact ⟨_, get_join ea, (ob.step rfl (.tag h2 h3)).pvr tg_same⟩
  · rw [List.getElem?_set_ne (Ne.symm hj)] at ej
    exact SlR.tag h2 h3 (fun z => by rw [g] at z; cases z; exact absurd rfl hj) (r.slots j sl ej)
theorem Rel.own {s : SS} {σ : L2.St} {i : Nat} {o : PV} (r : Rel K mg G s σ H) (e : s.env[i]? = some (.own o)) : ∃ a, σ[i]? = some (some (.ref a)) ∧ G a = .slot i ∧ ObR K mg G H a o :=
  let ⟨a, h1, h2, h3⟩ := r.slots i _ e
  ⟨a, join_get h1, h2, h3⟩
theorem Rel.val {s : SS} {σ : L2.St} {i : Nat} {v : PV} (r : Rel K mg G s σ H) (e : s.env[i]? = some (.val v)) : ∃ x, σ[i]? = some (some x) ∧ PVR K mg G H v x :=
  let ⟨a, h1, h2⟩ := r.slots i _ e
  ⟨a, join_get h1, h2⟩
/-- a slot is stored: a value -/
theorem Rel.setVal {s : SS} {σ : L2.St} {i : Nat} {v : PV} {x : V} (r : Rel K mg G s σ H) (h : PVR K mg G H v x) (hi : i < s.env.length) : Rel K mg G { s with env := s.env.set i (.val v) } (σ.set i (some x)) H where
  len := by simp [r.len]
  slots := fun j sl e => by
    by_cases hj : j = i
    · subst hj
      rw [List.getElem?_set_self hi] at e
      cases e
      rw [List.getElem?_set_self (by rw [← r.len]; exact hi)]
      exact ⟨x, rfl, h⟩
    · rw [List.getElem?_set_ne (Ne.symm hj)] at e
      rw [List.getElem?_set_ne (Ne.symm hj)]
      exact r.slots j sl e
  sto := r.sto
  uniq := r.uniq
  trk := r.trk
  lim := r.lim
/-- a slot is stored: a new thing of its own -/
theorem Rel.setOwn {s : SS} {σ : L2.St} {i : Nat} {o : PV} {a : Addr} (r : Rel K mg G s σ H) (g : G a = .hold) (h : ObR K mg G H a o) (hi : i < s.env.length) :
    Rel K mg (tg G a (.slot i)) { s with env := s.env.set i (.own o) } (σ.set i (some (.ref a))) H := by
  have h2 : G a ≠ .fz := fz_of g (fun z => nomatch z)
  have h3 : ∀ l, G a ≠ .loc l := loc_of g (fun _ z => nomatch z)
  refine r.tagged rfl h2 h3 (fun _ z => nomatch z) h.there (by simp [r.len]) fun j sl ej => ?_
  by_cases hj : j = i
  · subst hj
    rw [List.getElem?_set_self hi] at ej
    cases ej
    rw [List.getElem?_set_self (by rw [← r.len]; exact hi)]
    exact ⟨a, rfl, tg_same, h.step rfl (.tag h2 h3)⟩
  · rw [List.getElem?_set_ne (Ne.symm hj)] at ej
    rw [List.getElem?_set_ne (Ne.symm hj)]
    exact SlR.tag h2 h3 (fun z => by rw [g] at z; cases z) (r.slots j sl ej)
/-- a slot is forgotten -/
theorem Rel.unset {s : SS} {σ σ' : L2.St} {env' : List Sl} (r : Rel K mg G s σ H) (hl : env'.length = σ'.length) (h : ∀ (i : Nat) (sl : Sl), env'[i]? = some sl → sl = Sl.un ∨ (s.env[i]? = some sl ∧ (σ'[i]?).join = (σ[i]?).join)) : Rel K mg G { s with env := env' } σ' H :=
  ⟨hl, fun i sl e => by
    rcases h i sl e with z | ⟨z, q⟩
    · subst z; trivial
    · rw [q]; exact r.slots i sl z, r.sto, r.uniq, r.trk, r.lim⟩

/-! ### what expressions gave, kept -/
theorem RVR.mono {G0 : Gh} {σ : L2.St} {r : RV} {x : V} (h : RVR K mg G0 G H σ r x) (st : Step G H G' H') : RVR K mg G0 G' H' σ r x := by
  cases r with
  | sh v => exact PVR.step h st.mono
  | fr o =>
    obtain ⟨a, e, g, n, ob⟩ := h
    obtain ⟨g', e'⟩ := st.hold a g
    exact ⟨a, e, g', n, ob.step e' st.mono⟩
  | hd i => exact h
theorem RVR.back {G0 G1 : Gh} {H0 H1 : Hp} {σ : L2.St} {r : RV} {x : V} (h : RVR K mg G1 G H σ r x) (st : Step G0 H0 G1 H1) : RVR K mg G0 G H σ r x := by
  cases r with
  | sh v => exact h
  | fr o =>
    obtain ⟨a, e, g, n, ob⟩ := h
    exact ⟨a, e, g, st.notHold n, ob⟩
  | hd i => exact h
theorem RVRs.mono {G0 : Gh} {σ : L2.St} : ∀ {rs : List RV} {xs : List V}, RVRs K mg G0 G H σ rs xs → Step G H G' H' → RVRs K mg G0 G' H' σ rs xs
  | _, _, .nil, _ => .nil
  | _, _, .cons h d t, st => .cons (h.mono st) d (RVRs.mono t st)
theorem RVRs.back {G0 G1 : Gh} {H0 H1 : Hp} {σ : L2.St} : ∀ {rs : List RV} {xs : List V}, RVRs K mg G1 G H σ rs xs → Step G0 H0 G1 H1 → RVRs K mg G0 G H σ rs xs
  | _, _, .nil, _ => .nil
  | _, _, .cons h d t, st => .cons (h.back st) d (RVRs.back t st)
theorem RVRs.length {G0 : Gh} {σ : L2.St} : ∀ {rs : List RV} {xs : List V}, RVRs K mg G0 G H σ rs xs → rs.length = xs.length
  | _, _, .nil => rfl
  | _, _, .cons _ _ t => congrArg Nat.succ (RVRs.length t)
theorem RVRs.get {G0 : Gh} {σ : L2.St} : ∀ {rs : List RV} {xs : List V} {i : Nat} {r : RV}, RVRs K mg G0 G H σ rs xs → rs[i]? = some r → ∃ x, xs[i]? = some x ∧ RVR K mg G0 G H σ r x
  | _, _, _, _, .nil, e => by simp at e
  | _, _, 0, _, .cons h _ _, e => by simp at e; subst e; exact ⟨_, rfl, h⟩
  | _, _, i + 1, _, .cons _ _ t, e => by
    obtain ⟨x, h1, h2⟩ := RVRs.get (i := i) t (by simpa using e)
    exact ⟨x, by simpa using h1, h2⟩
/-- one more, from the left -/
theorem RVRs.push {G0 G1 : Gh} {H0 H1 : Hp} {σ : L2.St} {r : RV} {x : V} {rs : List RV} {xs : List V} (s0 : Step G0 H0 G1 H1) (h : RVR K mg G0 G1 H1 σ r x) (st : Step G1 H1 G H) (t : RVRs K mg G1 G H σ rs xs) : RVRs K mg G0 G H σ (r :: rs) (x :: xs) := by
  refine .cons (h.mono st) (fun o e o' j ej ex => ?_) (t.back s0)
  subst e
  obtain ⟨a, e1, g, _, _⟩ := h
  obtain ⟨y, e2, b, e3, _, n, _⟩ := t.get ej
  rw [ex] at e2
  cases e2
  rw [e1] at e3
  cases e3
  exact n g
/-- the others behind a change of tag -/
theorem RVRs.tag {G0 : Gh} {σ : L2.St} {a : Addr} {t : Tag} (h2 : G a ≠ .fz) (h3 : ∀ l, G a ≠ .loc l) : ∀ {rs : List RV} {xs : List V}, RVRs K mg G0 G H σ rs xs → (∀ o (j : Nat), rs[j]? = some (.fr o) → xs[j]? ≠ some (.ref a)) → RVRs K mg G0 (tg G a t) H σ rs xs
  | _, _, .nil, _ => .nil
  | _, _, .cons (r := r) (x := x) h d q, ha => by
    refine .cons ?_ d (RVRs.tag h2 h3 q fun o j e => by simpa using ha o (j + 1) (by simpa using e))
    cases r with
    | sh v => exact PVR.step h (.tag h2 h3)
    | fr o =>
      obtain ⟨b, e, g, n, ob⟩ := h
      have nb : b ≠ a := fun z => by
        have := ha o 0 rfl
        rw [e, z] at this
        exact this rfl
      exact ⟨b, e, (tg_ne nb).trans g, n, ob.step rfl (.tag h2 h3)⟩
    | hd i => exact h
theorem keep_ok {G0 : Gh} {H0 : Hp} {s s' : SS} {σ : L2.St} {r : RV} {v : PV} {x : V} (R : Rel K mg G s σ H) (st : Step G0 H0 G H) (h : RVR K mg G0 G H σ r x) (e : keep s r = some (v, s')) :
    ∃ G', Rel K mg G' s' σ H ∧ Step G0 H0 G' H ∧ Mono G H G' H ∧ PVR K mg G' H v x ∧ s'.env.length = s.env.length ∧ s'.sto = s.sto ∧
      ∀ {rs : List RV} {xs : List V}, RVRs K mg G0 G H σ rs xs → (∀ o, r = .fr o → ∀ o' (j : Nat), rs[j]? = some (.fr o') → xs[j]? ≠ some x) → RVRs K mg G0 G' H σ rs xs := by
  cases r with
  | sh w =>
    simp only [keep, Option.some.injEq, Prod.mk.injEq] at e
    obtain ⟨rfl, rfl⟩ := e
    exact ⟨G, R, st, .refl, h, rfl, rfl, fun q _ => q⟩
  | fr o =>
    simp only [keep, Option.some.injEq, Prod.mk.injEq] at e
    obtain ⟨rfl, rfl⟩ := e
    obtain ⟨a, rfl, g, n, ob⟩ := h
    have h2 : G a ≠ .fz := fz_of g (fun z => nomatch z)
    have h3 : ∀ l, G a ≠ .loc l := loc_of g (fun _ z => nomatch z)
    exact ⟨_, R.frzHold g, st.tag n (st.notFz h2) (st.notLoc h3), .tag h2 h3, (ob.step rfl (.tag h2 h3)).pvr tg_same, rfl, rfl, fun q d => q.tag h2 h3 fun o' j ej => d o rfl o' j ej⟩
  | hd i =>
    have hx : σ[i]? = some (some x) := h
    simp only [keep] at e
    cases ei : s.env[i]? with
    | none => rw [ei] at e; cases e
    | some sl =>
      rw [ei] at e
      cases sl with
      | un => cases e
      | val w =>
        simp only [Option.some.injEq, Prod.mk.injEq] at e
        obtain ⟨rfl, rfl⟩ := e
        obtain ⟨y, e1, p⟩ := R.val ei
        rw [hx] at e1
        cases e1
        exact ⟨G, R, st, .refl, p, rfl, rfl, fun q _ => q⟩
      | own o =>
        simp only [Option.some.injEq, Prod.mk.injEq] at e
        obtain ⟨rfl, rfl⟩ := e
        obtain ⟨a, e1, g, ob⟩ := R.own ei
        rw [hx] at e1
        cases e1
        have h2 : G a ≠ .fz := fz_of g (fun z => nomatch z)
        have h3 : ∀ l, G a ≠ .loc l := loc_of g (fun _ z => nomatch z)
        refine ⟨_, R.frzSlot ei hx g ob, st.tag (st.notHold (by rw [g]; exact fun z => nomatch z)) (st.notFz h2) (st.notLoc h3), .tag h2 h3, (ob.step rfl (.tag h2 h3)).pvr tg_same, by simp, rfl, fun q _ => q.tag h2 h3 fun o' j ej ex => ?_⟩
        obtain ⟨y, e2, b, e3, g', _⟩ := q.get ej
        rw [ex] at e2
        cases e2
        cases e3
        rw [g] at g'
        cases g'
theorem keeps_ok {G0 : Gh} {H0 : Hp} {σ : L2.St} : ∀ {rs : List RV} {G : Gh} {s s' : SS} {vs : List PV} {xs : List V}, Rel K mg G s σ H → Step G0 H0 G H → RVRs K mg G0 G H σ rs xs → keeps s rs = some (vs, s') →
    ∃ G', Rel K mg G' s' σ H ∧ Step G0 H0 G' H ∧ Mono G H G' H ∧ PVRs K mg G' H vs xs ∧ s'.env.length = s.env.length ∧ s'.sto = s.sto
  | [], G, s, s', vs, xs, R, st, h, e => by
    cases h
    simp only [keeps, Option.some.injEq, Prod.mk.injEq] at e
    obtain ⟨rfl, rfl⟩ := e
    exact ⟨G, R, st, .refl, .nil, rfl, rfl⟩
  | r :: rs, G, s, s', vs, xs, R, st, h, e => by
    cases h with
    | cons h d t =>
      unfold keeps at e
      cases e1 : keep s r with
      | none => rw [e1] at e; cases e
      | some p =>
        obtain ⟨v, s1⟩ := p
        rw [e1] at e
        simp only at e
        cases e2 : keeps s1 rs with
        | none => rw [e2] at e; cases e
        | some p =>
          obtain ⟨ws, s2⟩ := p
          rw [e2] at e
          simp only [Option.some.injEq, Prod.mk.injEq] at e
          obtain ⟨rfl, rfl⟩ := e
          obtain ⟨G1, R1, st1, m1, p1, l1, o1, k1⟩ := keep_ok R st h e1
          obtain ⟨G2, R2, st2, m2, p2, l2, o2⟩ := keeps_ok R1 st1 (k1 t d) e2
          exact ⟨G2, R2, st2, m1.trans m2, .cons (p1.step m2) p2, l2.trans l1, o2.trans o1⟩

/-! ### contents -/
/-- a content: a value, or an object's that may still be changed -/
def CnR (K : PySem.W.Frag) (mg : Str → Option Value) (G : Gh) (H : Hp) (c : PV) (x : V) : Prop := PVR K mg G H c x ∨ ∃ a, x = .ref a ∧ ObR K mg G H a c
theorem boxC_ok {s : SS} {σ : L2.St} {v : PV} {x : V} (R : Rel K mg G s σ H) (p : PVR K mg G H v x) : CnR K mg G H (boxC s.sto v) x := by
  cases v with
  | ref l =>
    simp only [boxC]
    split
    · rename_i o es
      obtain ⟨a, g, ob⟩ := R.sto l _ es
      cases p with
      | ref g' =>
        have := R.uniq _ _ l g g'
        subst this
        exact .inr ⟨_, rfl, ob⟩
    · exact .inl p
  | _ => exact .inl p
theorem cont_ok {G0 : Gh} {s : SS} {σ : L2.St} {r : RV} {c : PV} {x : V} (R : Rel K mg G s σ H) (h : RVR K mg G0 G H σ r x) (e : cont s r = some c) : CnR K mg G H c x := by
  cases r with
  | sh v =>
    simp only [cont, Option.some.injEq] at e
    subst e
    exact boxC_ok R h
  | fr o =>
    simp only [cont, Option.some.injEq] at e
    subst e
    obtain ⟨a, rfl, _, _, ob⟩ := h
    exact .inr ⟨a, rfl, ob⟩
  | hd i =>
    have hx : σ[i]? = some (some x) := h
    simp only [cont] at e
    cases ei : s.env[i]? with
    | none => rw [ei] at e; cases e
    | some sl =>
      rw [ei] at e
      cases sl with
      | un => cases e
      | val v =>
        simp only [Option.some.injEq] at e
        subst e
        obtain ⟨y, e1, p⟩ := R.val ei
        rw [hx] at e1
        cases e1
        exact boxC_ok R p
      | own o =>
        simp only [Option.some.injEq] at e
        subst e
        obtain ⟨a, e1, g, ob⟩ := R.own ei
        rw [hx] at e1
        cases e1
        exact .inr ⟨a, rfl, ob⟩
inductive CnRs (K : PySem.W.Frag) (mg : Str → Option Value) (G : Gh) (H : Hp) : List PV → List V → Prop where
  | nil : CnRs K mg G H [] []
  | cons {c : PV} {x : V} {cs : List PV} {xs : List V} : CnR K mg G H c x → CnRs K mg G H cs xs → CnRs K mg G H (c :: cs) (x :: xs)
theorem conts_ok {G0 : Gh} {s : SS} {σ : L2.St} (R : Rel K mg G s σ H) : ∀ {rs : List RV} {cs : List PV} {xs : List V}, RVRs K mg G0 G H σ rs xs → conts s rs = some cs → CnRs K mg G H cs xs
  | [], cs, xs, h, e => by
    cases h
    cases e
    exact .nil
  | r :: rs, cs, xs, h, e => by
    cases h with
    | cons h d t =>
      unfold conts at e
      cases e1 : cont s r with
      | none => rw [e1] at e; cases e
      | some c =>
        rw [e1] at e
        simp only at e
        cases e2 : conts s rs with
        | none => rw [e2] at e; cases e
        | some cs' =>
          rw [e2] at e
          cases e
          exact .cons (cont_ok R h e1) (conts_ok R t e2)
end
end TP

set_option Elab.async false
set_option linter.all false
set_option maxRecDepth 100000
set_option maxHeartbeats 4000000
/-! Sal3: each operation does over the abstract heap what it does to contents. -/
namespace TP
open PySem PySem.Spec PyProof.Rows
open L2 (V Hp HO Key upd upd_same upd_ne SqL SqT Rd OpR UnR CallR IxR Vals Inv)

section
variable {K : PySem.W.Frag} {mg : Str → Option Value} {G : Gh} {H : Hp}
/-- what an operation hands back -/
inductive Out (K : PySem.W.Frag) (mg : Str → Option Value) (G : Gh) (H : Hp) : RV → V → Hp → Prop where
  | same {v : PV} {x : V} : PVR K mg G H v x → Out K mg G H (.sh v) x H
  | tup {xs : List PV} {Vs : List V} {p : Addr} : H p = none → PVRs K mg G H xs Vs → Out K mg G H (.sh (.tup xs)) (.ref p) (upd H p (.tup Vs))
  | lst {xs : List PV} {Vs : List V} {p : Addr} : H p = none → PVRs K mg G H xs Vs → Out K mg G H (.fr (.lst xs)) (.ref p) (upd H p (.lst Vs))
theorem Out.rel {s : SS} {σ : L2.St} {r : RV} {x : V} {H' : Hp} (R : Rel K mg G s σ H) (o : Out K mg G H r x H') : ∃ G', Rel K mg G' s σ H' ∧ Step G H G' H' ∧ RVR K mg G G' H' σ r x := by
  cases o with
  | same h => exact ⟨G, R, .refl, h⟩
  | @tup _ Vs _ hp h =>
    have q := Same.new (t := .free) (o := .tup Vs) R.trk hp (fun _ z => nomatch z)
    exact ⟨_, R.same q, q.st, .tup (.inl (.inl upd_same)) (h.step q.st.mono)⟩
  | @lst _ Vs _ hp h =>
    have q := Same.new (t := .hold) (o := .lst Vs) R.trk hp (fun _ z => nomatch z)
    exact ⟨_, R.same q, q.st, _, rfl, tg_same, (by rw [R.free hp]; exact (fun z => nomatch z)), _, upd_same, h.step q.st.mono⟩

/-! ### inversions -/
theorem CnR.int {i : Int} {x : V} (h : CnR K mg G H (.int i) x) : x = .int i := by
  rcases h with h | ⟨_, _, h⟩
  · cases h; rfl
  · exact h.elim
theorem CnR.bl {b : Bool} {x : V} (h : CnR K mg G H (.bl b) x) : x = .bl b := by
  rcases h with h | ⟨_, _, h⟩
  · cases h; rfl
  · exact h.elim
theorem CnR.non {x : V} (h : CnR K mg G H .non x) : x = .non := by
  rcases h with h | ⟨_, _, h⟩
  · cases h; rfl
  · exact h.elim
theorem CnR.str {y : List Nat} {x : V} (h : CnR K mg G H (.str y) x) : x = .str ⟨y.toArray⟩ := by
  rcases h with h | ⟨_, _, h⟩
  · cases h; rfl
  · exact h.elim
theorem CnR.ty {n : String} {x : V} (h : CnR K mg G H (.ty n) x) : x = .ty n := by
  rcases h with h | ⟨_, _, h⟩
  · cases h; rfl
  · exact h.elim
theorem CnR.tup {xs : List PV} {x : V} (h : CnR K mg G H (.tup xs) x) : ∃ a Vs, x = .ref a ∧ SqT K H a Vs ∧ PVRs K mg G H xs Vs := by
  rcases h with h | ⟨_, _, h⟩
  · cases h with
    | tup h hs => exact ⟨_, _, rfl, h, hs⟩
  · exact h.elim
theorem CnR.lst {xs : List PV} {x : V} (h : CnR K mg G H (.lst xs) x) : ∃ a Vs, x = .ref a ∧ H a = some (.lst Vs) ∧ PVRs K mg G H xs Vs := by
  rcases h with h | ⟨_, e, Vs, h, hs⟩
  · cases h with
    | lst h g hs => exact ⟨_, _, rfl, h, hs⟩
  · exact ⟨_, _, e, h, hs⟩
theorem CnR.rol {xs : List PV} {x : V} (h : CnR K mg G H (.rol xs) x) : ∃ a Vs, x = .ref a ∧ RdZ K H a Vs ∧ PVRs K mg G H xs Vs := by
  rcases h with h | ⟨_, e, h⟩
  · cases h with
    | rol h hs => exact ⟨_, _, rfl, h, hs⟩
  · exact h.elim
theorem CnRs.one {c : PV} {xs : List V} (h : CnRs K mg G H [c] xs) : ∃ x, xs = [x] ∧ CnR K mg G H c x := by
  cases h with
  | cons h t => cases t; exact ⟨_, rfl, h⟩
theorem CnRs.two {c d : PV} {xs : List V} (h : CnRs K mg G H [c, d] xs) : ∃ x y, xs = [x, y] ∧ CnR K mg G H c x ∧ CnR K mg G H d y := by
  cases h with
  | cons h t =>
    obtain ⟨y, rfl, h2⟩ := t.one
    exact ⟨_, _, rfl, h, h2⟩
theorem CnRs.length : ∀ {cs : List PV} {xs : List V}, CnRs K mg G H cs xs → cs.length = xs.length
  | _, _, .nil => rfl
  | _, _, .cons _ t => congrArg Nat.succ (CnRs.length t)
end

theorem szL_eq : szL = sizeLine := by rw [sizeLine_eq]; rfl
theorem big_log {i : Int} (h : intBig i = true) : i.natAbs.log2 < 8000 := by
  have h1 : i.natAbs < 2 ^ 8000 := of_decide_eq_true h
  exact PySem.Flt.log2_lt_of (by decide) h1

/-! ### data -/
mutual
def PV.pd : PV → PyData
  | .non => .none
  | .bl b => .bool b
  | .int i => .int i
  | .str x => .str ⟨x.toArray⟩
  | .tup xs => .tuple (pds xs)
  | .lst xs => .list (pds xs)
  | _ => .none
def pds : List PV → List PyData
  | [] => []
  | x :: xs => x.pd :: pds xs
end
theorem str_beq (x y : List Nat) : ((⟨x.toArray⟩ : Str) == ⟨y.toArray⟩) = (x == y) := by
  rw [Bool.eq_iff_iff]
  simp [Str.mk.injEq]
mutual
theorem eqv_pd : ∀ (x y : PV) {a b : Nat}, x.deep = some a → y.deep = some b → PyData.eqv x.pd y.pd = x.eqv y := by
  intro x y a b hx hy
  cases x with
  | tup xs =>
    cases y with
    | tup ys =>
      simp only [PV.deep, Option.map_eq_some_iff] at hx hy
      obtain ⟨_, hx, _⟩ := hx
      obtain ⟨_, hy, _⟩ := hy
      simp only [PV.pd, PyData.eqv, PV.eqv]
      exact eqvs_pd xs ys hx hy
    | _ => first | (simp only [PV.deep] at hy; cases hy; done) | (simp only [PV.pd, PyData.eqv, PV.eqv])
  | lst xs =>
    cases y with
    | lst ys =>
      simp only [PV.deep, Option.map_eq_some_iff] at hx hy
      obtain ⟨_, hx, _⟩ := hx
      obtain ⟨_, hy, _⟩ := hy
      simp only [PV.pd, PyData.eqv, PV.eqv]
      exact eqvs_pd xs ys hx hy
    | _ => first | (simp only [PV.deep] at hy; cases hy; done) | (simp only [PV.pd, PyData.eqv, PV.eqv])
  | str x =>
    cases y with
    | str y => simp only [PV.pd, PyData.eqv, PV.eqv]; exact str_beq x y
    | _ => first | (simp only [PV.deep] at hy; cases hy; done) | (simp only [PV.pd, PyData.eqv, PV.eqv])
  | non => cases y <;> first | (simp only [PV.deep] at hy; cases hy; done) | (simp only [PV.pd, PyData.eqv, PV.eqv])
  | bl _ => cases y <;> first | (simp only [PV.deep] at hy; cases hy; done) | (simp only [PV.pd, PyData.eqv, PV.eqv])
  | int _ => cases y <;> first | (simp only [PV.deep] at hy; cases hy; done) | (simp only [PV.pd, PyData.eqv, PV.eqv])
  | _ => simp only [PV.deep] at hx; cases hx
theorem eqvs_pd : ∀ (xs ys : List PV) {a b : Nat}, deeps xs = some a → deeps ys = some b → PyData.eqvAll (pds xs) (pds ys) = eqvs xs ys
  | [], [], _, _, _, _ => by simp only [pds, PyData.eqvAll, eqvs]
  | [], _ :: _, _, _, _, _ => by simp only [pds, PyData.eqvAll, eqvs]
  | _ :: _, [], _, _, _, _ => by simp only [pds, PyData.eqvAll, eqvs]
  | x :: xs, y :: ys, a, b, hx, hy => by
    simp only [deeps] at hx hy
    cases h1 : x.deep with
    | none => rw [h1] at hx; cases hx
    | some n1 =>
      cases h2 : deeps xs with
      | none => rw [h1, h2] at hx; cases hx
      | some n2 =>
        cases h3 : y.deep with
        | none => rw [h3] at hy; cases hy
        | some n3 =>
          cases h4 : deeps ys with
          | none => rw [h3, h4] at hy; cases hy
          | some n4 =>
            simp only [pds, PyData.eqvAll, eqvs]
            rw [eqv_pd x y h1 h3, eqvs_pd xs ys h2 h4]
end
mutual
theorem deep_pd : ∀ (x : PV) {n : Nat}, x.deep = some n → x.pd.canLay0 = true ∧ x.pd.depth = n := by
  intro x n h
  cases x with
  | non => simp only [PV.deep, Option.some.injEq] at h; subst h; exact ⟨rfl, rfl⟩
  | bl _ => simp only [PV.deep, Option.some.injEq] at h; subst h; exact ⟨rfl, rfl⟩
  | int _ => simp only [PV.deep, Option.some.injEq] at h; subst h; exact ⟨rfl, rfl⟩
  | str x =>
    simp only [PV.deep] at h
    by_cases q : (x.all fun c => decide (c < 1114112)) = true
    · rw [if_pos q] at h
      cases h
      refine ⟨?_, rfl⟩
      show (x.toArray.all fun c => decide (c < 0x110000)) = true
      simpa using q
    · rw [if_neg q] at h; cases h
  | tup xs =>
    simp only [PV.deep, Option.map_eq_some_iff] at h
    obtain ⟨m, h, rfl⟩ := h
    obtain ⟨h1, h2⟩ := deeps_pd xs h
    exact ⟨h1, congrArg (· + 1) h2⟩
  | lst xs =>
    simp only [PV.deep, Option.map_eq_some_iff] at h
    obtain ⟨m, h, rfl⟩ := h
    obtain ⟨h1, h2⟩ := deeps_pd xs h
    exact ⟨h1, congrArg (· + 1) h2⟩
  | _ => simp only [PV.deep] at h; cases h
theorem deeps_pd : ∀ (xs : List PV) {n : Nat}, deeps xs = some n → PyData.canLayAll0 (pds xs) = true ∧ PyData.depthAll (pds xs) = n
  | [], n, h => by simp only [deeps, Option.some.injEq] at h; subst h; exact ⟨rfl, rfl⟩
  | x :: xs, n, h => by
    simp only [deeps] at h
    cases h1 : x.deep with
    | none => rw [h1] at h; cases h
    | some a =>
      cases h2 : deeps xs with
      | none => rw [h1, h2] at h; cases h
      | some b =>
        rw [h1, h2] at h
        simp only [Option.some.injEq] at h
        subst h
        obtain ⟨p1, p2⟩ := deep_pd x h1
        obtain ⟨p3, p4⟩ := deeps_pd xs h2
        refine ⟨?_, ?_⟩
        · show (PyData.canLay0 x.pd && PyData.canLayAll0 (pds xs)) = true
          rw [p1, p3]; rfl
        · show max (PyData.depth x.pd) (PyData.depthAll (pds xs)) = _
          rw [p2, p4]
end
theorem shaped_pd {x : PV} (h : dataOk x = true) : SeqAt.shaped x.pd = true ∧ ∃ n, x.deep = some n := by
  unfold dataOk at h
  cases e : x.deep with
  | none => rw [e] at h; cases h
  | some n =>
    rw [e] at h
    have hn : n ≤ 60 := of_decide_eq_true h
    obtain ⟨h1, h2⟩ := deep_pd x e
    refine ⟨?_, n, rfl⟩
    unfold SeqAt.shaped
    rw [h1, h2, Bool.true_and]
    exact decide_eq_true (by omega)
section
variable {K : PySem.W.Frag} {mg : Str → Option Value} {G : Gh} {H : Hp}
mutual
theorem PVR.dp : ∀ {v : PV} {x : V} {n : Nat}, PVR K mg G H v x → v.deep = some n → L2.Dp K H x v.pd
  | _, _, _, .non, _ => .non
  | _, _, _, .bl b, _ => .bl b
  | _, _, _, .int i, _ => .int i
  | _, _, _, .str x, _ => .str _
  | _, _, _, .tup (xs := xs) h hs, e => by
    simp only [PV.deep, Option.map_eq_some_iff] at e
    obtain ⟨m, e, _⟩ := e
    exact .tup h (PVRs.dps hs e)
  | _, _, _, .lst (xs := xs) h g hs, e => by
    simp only [PV.deep, Option.map_eq_some_iff] at e
    obtain ⟨m, e, _⟩ := e
    exact .lst (.of h) (PVRs.dps hs e)
  | _, _, _, .rol _ _, e => by simp only [PV.deep] at e; cases e
  | _, _, _, .dct _ _ _ _, e => by simp only [PV.deep] at e; cases e
  | _, _, _, .ref _, e => by simp only [PV.deep] at e; cases e
  | _, _, _, .glo _, e => by simp only [PV.deep] at e; cases e
  | _, _, _, .ty _, e => by simp only [PV.deep] at e; cases e
theorem PVRs.dps : ∀ {vs : List PV} {xs : List V} {n : Nat}, PVRs K mg G H vs xs → deeps vs = some n → L2.DpAll K H xs (pds vs)
  | _, _, _, .nil, _ => .nil
  | _, _, _, .cons (x := v) (xs := vs) h t, e => by
    simp only [deeps] at e
    cases h1 : v.deep with
    | none => rw [h1] at e; cases e
    | some a =>
      cases h2 : deeps vs with
      | none => rw [h1, h2] at e; cases e
      | some b => exact .cons (PVR.dp h h1) (PVRs.dps t h2)
end
theorem CnR.dp {c : PV} {x : V} (h : CnR K mg G H c x) (d : dataOk c = true) : L2.Dp K H x c.pd ∧ SeqAt.shaped c.pd = true ∧ ∃ n, c.deep = some n := by
  obtain ⟨h1, n, h2⟩ := shaped_pd d
  refine ⟨?_, h1, n, h2⟩
  rcases h with h | ⟨a, rfl, ob⟩
  · exact h.dp h2
  · cases c with
    | lst xs =>
      obtain ⟨Vs, e, hs⟩ := ob
      simp only [PV.deep, Option.map_eq_some_iff] at h2
      obtain ⟨m, h2, _⟩ := h2
      exact .lst (.of e) (hs.dps h2)
    | dct _ _ => simp only [PV.deep] at h2; cases h2
    | _ => exact ob.elim
end

/-! ### the operations -/
/-- a two-place operation on contents, by values -/
def rP2 (K : PySem.W.Frag) (mg : Str → Option Value) (f : PV → PV → Option RV) : L2.R2 := fun x y H Q => ∃ G c d r, CnR K mg G H c x ∧ CnR K mg G H d y ∧ f c d = some r ∧ ∀ z H', Out K mg G H r z H' → Q z H'
def rP1 (K : PySem.W.Frag) (mg : Str → Option Value) (f : PV → Option RV) : V → Hp → L2.VK → Prop := fun x H Q => ∃ G c r, CnR K mg G H c x ∧ f c = some r ∧ ∀ z H', Out K mg G H r z H' → Q z H'
def rC1 (K : PySem.W.Frag) (mg : Str → Option Value) (f : PV → Option RV) : List V → Hp → L2.VK → Prop := fun xs H Q => ∃ x, xs = [x] ∧ rP1 K mg f x H Q
def rC2 (K : PySem.W.Frag) (mg : Str → Option Value) (f : PV → PV → Option RV) : List V → Hp → L2.VK → Prop := fun xs H Q => ∃ x y, xs = [x, y] ∧ rP2 K mg f x y H Q
section
variable {X : L2.Cx}
theorem str_app (x y : List Nat) : ((⟨x.toArray⟩ : Str) ++ (⟨y.toArray⟩ : Str)) = ⟨(x ++ y).toArray⟩ := by
  show Str.append _ _ = _
  unfold Str.append
  simp
theorem str_len (x : List Nat) : (⟨x.toArray⟩ : Str).length = x.length := by
  unfold Str.length
  simp
theorem opAdd : OpR X (binaryOp .Add) (rP2 X.K X.mg addSem) := by
  intro pins s σ H x y v u Q I rx ry h
  obtain ⟨G, c, d, r, hc, hd, e, q⟩ := h
  unfold addSem at e
  split at e
  · cases hc.int; cases hd.int; cases e
    exact L2.op_add pins s σ H _ _ v u Q I rx ry ⟨_, _, rfl, rfl, q _ _ (.same (.int _))⟩
  · cases hc.str; cases hd.str
    split at e <;> cases e
    rename_i hz
    refine L2.op_add_str pins s σ H _ _ v u Q I rx ry ⟨_, _, rfl, rfl, by rw [str_len, str_len, ← szL_eq]; exact hz, ?_⟩
    rw [str_app]
    exact q _ _ (.same (.str _))
  · obtain ⟨a, xs, rfl, h1, p1⟩ := hc.tup
    obtain ⟨b, ys, rfl, h2, p2⟩ := hd.tup
    split at e <;> cases e
    rename_i hz
    refine L2.op_catA pins s σ H _ _ v u Q I rx ry ⟨a, b, xs, ys, rfl, rfl, h1, h2, by rw [← p1.length, ← p2.length, ← szL_eq]; exact hz, fun z => ?_, fun z z2 => ?_, fun z z2 p hp => ?_⟩
    · subst z; cases p1
      exact q _ _ (.same (.tup h2 p2))
    · subst z2; cases p2
      rw [List.append_nil] at q
      exact q _ _ (.same (.tup h1 p1))
    · exact q _ _ (.tup hp (p1.append p2))
  · obtain ⟨a, xs, rfl, h1, p1⟩ := hc.lst
    obtain ⟨b, ys, rfl, h2, p2⟩ := hd.lst
    split at e <;> cases e
    rename_i hz
    exact L2.op_cat pins s σ H _ _ v u Q I rx ry ⟨a, b, xs, ys, rfl, rfl, h1, h2, by rw [← p1.length, ← p2.length, ← szL_eq]; exact hz, fun p hp => q _ _ (.lst hp (p1.append p2))⟩
  · cases e
theorem opSub : OpR X (binaryOp .Sub) (rP2 X.K X.mg subSem) := by
  intro pins s σ H x y v u Q I rx ry h
  obtain ⟨G, c, d, r, hc, hd, e, q⟩ := h
  unfold subSem at e
  split at e
  · cases hc.int; cases hd.int; cases e
    exact L2.op_sub pins s σ H _ _ v u Q I rx ry ⟨_, _, rfl, rfl, q _ _ (.same (.int _))⟩
  · cases e
theorem opFdiv : OpR X (binaryOp .FloorDiv) (rP2 X.K X.mg fdivSem) := by
  intro pins s σ H x y v u Q I rx ry h
  obtain ⟨G, c, d, r, hc, hd, e, q⟩ := h
  unfold fdivSem at e
  split at e
  · rename_i i j
    cases hc.int; cases hd.int
    split at e <;> cases e
    rename_i hz
    have op : OpR X (binaryOp .FloorDiv) (L2.rI (fun _ j => j ≠ 0 ∧ j.natAbs.log2 < 9000) fun i j => .int (i.fdiv j)) := L2.opI fun i j _ _ _ _ _ hc q => floordiv_int hc.1 q (.inl (PyProof.noPylong_of_log2 hc.2))
    exact op pins s σ H _ _ v u Q I rx ry ⟨i, j, rfl, rfl, ⟨hz.1, Nat.lt_trans (big_log hz.2) (by decide)⟩, q _ _ (.same (.int _))⟩
  · cases e
theorem opMod : OpR X (binaryOp .Mod) (rP2 X.K X.mg modSem) := by
  intro pins s σ H x y v u Q I rx ry h
  obtain ⟨G, c, d, r, hc, hd, e, q⟩ := h
  unfold modSem at e
  split at e
  · cases hc.int; cases hd.int
    split at e <;> cases e
    rename_i hz
    exact L2.op_modN pins s σ H _ _ v u Q I rx ry ⟨_, _, rfl, rfl, hz, q _ _ (.same (.int _))⟩
  · cases e
theorem opPow : OpR X (binaryOp .Pow) (rP2 X.K X.mg powSem) := by
  intro pins s σ H x y v u Q I rx ry h
  obtain ⟨G, c, d, r, hc, hd, e, q⟩ := h
  unfold powSem at e
  split at e
  · cases hc.int; cases hd.int
    split at e <;> cases e
    rename_i hz
    exact L2.op_pow pins s σ H _ _ v u Q I rx ry ⟨_, _, rfl, rfl, hz, q _ _ (.same (.int _))⟩
  · cases e
theorem unNeg : UnR X (unaryOp .USub) (rP1 X.K X.mg negSem) := by
  intro pins s σ H x v Q I rx h
  obtain ⟨G, c, r, hc, e, q⟩ := h
  unfold negSem at e
  split at e
  · cases hc.int; cases e
    exact L2.un_neg pins s σ H _ v Q I rx ⟨_, rfl, q _ _ (.same (.int _))⟩
  · cases e

/-! tuple * int, all counts -/
theorem tuple_mul1 (l : Addr) (items : Array Value) (n : Nat) (dd : Option Addr) (sl : Array (Option Value)) (x : Int) (u : Tok) (c0 : (decide (x < -(2 ^ 63)) || decide (x ≥ 2 ^ 63)) = false) (c1 : (items.isEmpty || x == 1) = true) :
    Meets (Builtin.«tuple.__mul__» ⟨[.ref l, .int x u], []⟩) (fun _ R s => s.heap.get? l = some { cls := .type "tuple", dict := dd, data := .seq items n, slots := sl } ∧
      R (.ok (.ret (Value.ref l))) s) :=
  .of_wp fun prog w A R s h => by
    obtain ⟨hp, g, d, tk, os⟩ := s
    obtain ⟨hl, h⟩ := h
    have f1 := AutoSeq1.idx_int
    wp_walk using wpAny_loadPart' hl
    repeat (first
      | (refine wpAny_ite_false (decide_eq_false (by rw [c0]; exact Bool.false_ne_true)) ?_; wp_walk using wpAny_loadPart' hl)
      | (refine wpAny_ite_true (decide_eq_true c1) ?_; wp_walk using wpAny_loadPart' hl))
    exact ⟨_, rfl, h⟩
theorem tuple_mul0 (l : Addr) (items : Array Value) (n : Nat) (dd : Option Addr) (sl : Array (Option Value)) (x : Int) (u : Tok) (c0 : (decide (x < -(2 ^ 63)) || decide (x ≥ 2 ^ 63)) = false) (c1 : (items.isEmpty || x == 1) = false) (c2 : (decide (x ≤ 0) || items.isEmpty) = true) :
    Meets (Builtin.«tuple.__mul__» ⟨[.ref l, .int x u], []⟩) (fun _ R s => s.heap.get? l = some { cls := .type "tuple", dict := dd, data := .seq items n, slots := sl } ∧
      R (.ok (.ret (Value.ref s.heap.objs.size))) { s with heap := s.heap.push { cls := Value.type "tuple", data := Data.seq #[] }, toks := s.toks }) :=
  .of_wp fun prog w A R s h => by
    obtain ⟨hp, g, d, tk, os⟩ := s
    obtain ⟨hl, h⟩ := h
    have f1 := AutoSeq1.idx_int
    wp_walk using wpAny_loadPart' hl
    repeat (first
      | (refine wpAny_ite_false (decide_eq_false (by rw [c0]; exact Bool.false_ne_true)) ?_; wp_walk using wpAny_loadPart' hl)
      | (refine wpAny_ite_false (decide_eq_false (by rw [c1]; exact Bool.false_ne_true)) ?_; wp_walk using wpAny_loadPart' hl)
      | (refine wpAny_ite_true (decide_eq_true c2) ?_; wp_walk using wpAny_loadPart' hl))
    exact ⟨_, rfl, h⟩
theorem opRepT : OpR X (binaryOp .Mult) (fun x y H Q => ∃ l k xs, x = .ref l ∧ y = .int k ∧ SqT X.K H l xs ∧ -1000 ≤ k ∧ k ≤ 1000 ∧ xs.length ≤ 1000 ∧ ((xs = [] ∨ k = 1) → Q (.ref l) H) ∧ (xs ≠ [] → k ≠ 1 → ∀ p, H p = none → Q (.ref p) (upd H p (.tup (List.replicate k.toNat xs).flatten)))) := by
  intro pins s σ H x y v u Q I rx ry h
  obtain ⟨l, k, xs, rfl, rfl, hT, h1, h2, hz, q1, q2⟩ := h
  by_cases c1 : xs = [] ∨ k = 1
  · cases rx
    obtain ⟨t, rfl⟩ := ry
    obtain ⟨its, r, ⟨⟨cls, dd, data, sl⟩, ho, hc, n, hd⟩, hs⟩ := I.tuple hT
    simp only at hc hd
    subst hc hd
    have c0 : (decide (k < -(2 ^ 63)) || decide (k ≥ 2 ^ 63)) = false := by
      rw [decide_eq_false (by omega), decide_eq_false (by omega)] <;> rfl
    have c1' : (its.toArray.isEmpty || k == 1) = true := by
      rcases c1 with c | c
      · subst c; cases r; rfl
      · subst c; simp
    refine wpAny_binaryOp_repeat_ref (T := "tuple") (U := "int") (by decide) ⟨_, ho, rfl⟩ (fun s' => typeIs_int s' k t) L2.noFill_tuple_mul F.fills_int_mul F.slot_int_rmul L2.repeat_tuple F.slot_int_index.lookup
      (call_meets F.slot_int_rmul (typeIs_int s k t) F.entry_int_rmul (F.args_int_rmul_2 _ _) (L2.int_rmul_tuple k t l its.toArray n dd sl)
        ⟨ho, rfl, ⟨_, ho, rfl⟩, call_meets F.slot_tuple_mul ⟨_, ho, rfl⟩ F.entry_tuple_mul (F.args_tuple_mul_2 _ _) (tuple_mul1 l its.toArray n dd sl k t c0 c1') ⟨ho, ?_⟩⟩)
    exact ⟨.ref l, H, I, rfl, q1 c1⟩
  · have hne : xs ≠ [] := fun z => c1 (.inl z)
    have hk : k ≠ 1 := fun z => c1 (.inr z)
    by_cases h3 : 2 ≤ k
    · exact L2.op_repT pins s σ H _ _ v u Q I rx ry ⟨l, k, xs, rfl, rfl, hT, hne, h3, h2, hz, q2 hne hk⟩
    · cases rx
      obtain ⟨t, rfl⟩ := ry
      obtain ⟨its, r, ⟨⟨cls, dd, data, sl⟩, ho, hc, n, hd⟩, hs⟩ := I.tuple hT
      simp only at hc hd
      subst hc hd
      have c0 : (decide (k < -(2 ^ 63)) || decide (k ≥ 2 ^ 63)) = false := by
        rw [decide_eq_false (by omega), decide_eq_false (by omega)] <;> rfl
      have hi : its.toArray.isEmpty = false := by
        cases r with
        | nil => exact absurd rfl hne
        | cons a b => rfl
      have c1' : (its.toArray.isEmpty || k == 1) = false := by
        rw [hi, Bool.false_or]
        exact beq_eq_false_iff_ne.mpr hk
      have c2 : (decide (k ≤ 0) || its.toArray.isEmpty) = true := by
        rw [decide_eq_true (by omega)]; rfl
      refine wpAny_binaryOp_repeat_ref (T := "tuple") (U := "int") (by decide) ⟨_, ho, rfl⟩ (fun s' => typeIs_int s' k t) L2.noFill_tuple_mul F.fills_int_mul F.slot_int_rmul L2.repeat_tuple F.slot_int_index.lookup
        (call_meets F.slot_int_rmul (typeIs_int s k t) F.entry_int_rmul (F.args_int_rmul_2 _ _) (L2.int_rmul_tuple k t l its.toArray n dd sl)
          ⟨ho, rfl, ⟨_, ho, rfl⟩, call_meets F.slot_tuple_mul ⟨_, ho, rfl⟩ F.entry_tuple_mul (F.args_tuple_mul_2 _ _) (tuple_mul0 l its.toArray n dd sl k t c0 c1' c2) ⟨ho, ?_⟩⟩)
      have e0 : k.toNat = 0 := by omega
      have q := q2 hne hk _ (I.hok.fresh (Nat.le_refl _))
      rw [e0] at q
      refine ⟨.ref s.heap.objs.size, _, I.laid (t' := s.toks) (o := .tup []) (fun b ob q => Heap.get?_push_of_some _ q) (Nat.le_refl _) ?_, rfl, q⟩
      exact ⟨by rw [sizeLine_eq]; exact Nat.zero_le _, [], .nil, IsTup.new _ _⟩
theorem foldl_app (x : List Nat) : ∀ (n : Nat) (a : Array Nat), (List.replicate n x.toArray).foldl (· ++ ·) a = a ++ ((List.replicate n x).flatten).toArray
  | 0, a => by simp
  | n + 1, a => by
    rw [List.replicate_succ, List.foldl_cons, foldl_app x n, List.replicate_succ, List.flatten_cons]
    simp
theorem txt_mul (x : List Nat) (n : Int) : Txt.mul ⟨x.toArray⟩ n = ⟨((List.replicate n.toNat x).flatten).toArray⟩ := by
  unfold Txt.mul
  split
  · rename_i h
    have : n.toNat = 0 := by omega
    rw [this]; rfl
  · rename_i h
    split
    · rename_i h2
      simp only [Bool.or_eq_true, beq_iff_eq] at h2
      rcases h2 with h2 | h2
      · subst h2; simp
      · have : x = [] := by
          have : x.length = 0 := by simpa [Str.length] using h2
          exact List.eq_nil_of_length_eq_zero this
        subst this
        simp
    · congr 1
      have := foldl_app x n.toNat #[]
      simpa using this
theorem opMulS : OpR X (binaryOp .Mult) (fun x y H Q => ∃ (z : List Nat) (n : Int), x = .str ⟨z.toArray⟩ ∧ y = .int n ∧ (-(2 ^ 63) ≤ n ∧ n < 2 ^ 63 ∧ z.length * n.toNat ≤ szL) ∧ Q (.str ⟨((List.replicate n.toNat z).flatten).toArray⟩) H) := by
  intro pins s σ H x y v u Q I rx ry h
  obtain ⟨z, n, rfl, rfl, ⟨h1, h2, h3⟩, q⟩ := h
  obtain ⟨t, rfl⟩ := rx
  obtain ⟨t', rfl⟩ := ry
  have hl : (⟨z.toArray⟩ : Str).length = z.length := by simp [Str.length]
  refine SB.mul ⟨?_, fun h4 h5 => ?_, fun h4 h5 => ?_⟩ fun t' k => ?_
  · rw [decide_eq_false (by omega), decide_eq_false (by omega)]; rfl
  · rw [hl]
    have h6 : z.length * n.toNat ≤ 16777216 := h3
    have h7 : (z.length : Int) * n ≤ 16777216 := by
      have e : n = (n.toNat : Int) := by omega
      rw [e]
      have h9 := Int.ofNat_le.mpr h6
      rw [Int.natCast_mul] at h9
      omega
    have h8 : (z.length : Int) ≤ (2 ^ 63 - 1) / n := by
      rw [Int.le_ediv_iff_mul_le (by omega)]
      omega
    omega
  · rw [hl]
    unfold Builtin.Str.tooLong
    rw [← szL_eq]
    exact decide_eq_false (by omega)
  · rw [txt_mul]
    exact ⟨.str _, H, I.tok _, ⟨_, rfl⟩, q⟩
theorem opMul : OpR X (binaryOp .Mult) (rP2 X.K X.mg mulSem) := by
  intro pins s σ H x y v u Q I rx ry h
  obtain ⟨G, c, d, r, hc, hd, e, q⟩ := h
  unfold mulSem at e
  split at e
  · rename_i i j
    cases hc.int; cases hd.int
    split at e <;> cases e
    rename_i hz
    rw [Bool.and_eq_true] at hz
    have h1 := big_log hz.1
    have h2 := big_log hz.2
    refine L2.op_mulW pins s σ H _ _ v u Q I rx ry ⟨i, j, rfl, rfl, ?_, q _ _ (.same (.int _))⟩
    show i.natAbs.log2 + j.natAbs.log2 < 1000000
    omega
  · obtain ⟨a, xs, rfl, h1, p1⟩ := hc.lst
    cases hd.int
    split at e <;> cases e
    rename_i hz
    simp only [small63, Bool.and_eq_true, decide_eq_true_eq] at hz
    exact L2.op_rep pins s σ H _ _ v u Q I rx ry ⟨a, _, xs, rfl, rfl, h1, hz.1.1, hz.1.2, by rw [← p1.length, ← szL_eq]; exact hz.2, fun p hp => q _ _ (.lst hp (p1.replicate _))⟩
  · cases hc.str
    cases hd.int
    split at e <;> cases e
    rename_i hz
    simp only [small63, Bool.and_eq_true, decide_eq_true_eq] at hz
    exact opMulS pins s σ H _ _ v u Q I rx ry ⟨_, _, rfl, rfl, ⟨hz.1.1, hz.1.2, hz.2⟩, q _ _ (.same (.str _))⟩
  · rename_i ps j
    obtain ⟨a, xs, rfl, h1, p1⟩ := hc.tup
    cases hd.int
    split at e <;> cases e
    rename_i hz
    simp only [Bool.and_eq_true, decide_eq_true_eq] at hz
    refine opRepT pins s σ H _ _ v u Q I rx ry ⟨a, j, xs, rfl, rfl, h1, hz.1.1, hz.1.2, by rw [← p1.length]; exact hz.2, fun z => ?_, fun _ _ p hp => q _ _ (.tup hp (p1.replicate _))⟩
    have e1 : (List.replicate j.toNat ps).flatten = ps := by
      rcases z with z | z
      · subst z; cases p1
        simp
      · subst z; simp
    rw [e1] at q
    exact q _ _ (.same (.tup h1 p1))
  · cases e

/-! comparisons -/
theorem opEq (hu : X.A.units + 64 < cLine) : OpR X (compareOp .Eq) (rP2 X.K X.mg eqSem) := by
  intro pins s σ H x y v u Q I rx ry h
  obtain ⟨G, c, d, r, hc, hd, e, q⟩ := h
  unfold eqSem at e
  split at e <;> cases e
  rename_i hz
  rw [Bool.and_eq_true] at hz
  obtain ⟨d1, s1, n1, e1⟩ := hc.dp hz.1
  obtain ⟨d2, s2, n2, e2⟩ := hd.dp hz.2
  refine L2.op_eqD hu pins s σ H _ _ v u Q I rx ry ⟨_, _, d1, d2, s1, s2, ?_⟩
  rw [eqv_pd c d e1 e2]
  exact q _ _ (.same (.bl _))
theorem opNe (hu : X.A.units + 64 < cLine) : OpR X (compareOp .NotEq) (rP2 X.K X.mg neSem) := by
  intro pins s σ H x y v u Q I rx ry h
  obtain ⟨G, c, d, r, hc, hd, e, q⟩ := h
  unfold neSem at e
  split at e <;> cases e
  rename_i hz
  rw [Bool.and_eq_true] at hz
  obtain ⟨d1, s1, n1, e1⟩ := hc.dp hz.1
  obtain ⟨d2, s2, n2, e2⟩ := hd.dp hz.2
  refine L2.op_neD hu pins s σ H _ _ v u Q I rx ry ⟨_, _, d1, d2, s1, s2, ?_⟩
  rw [eqv_pd c d e1 e2]
  exact q _ _ (.same (.bl _))
theorem opOrd {op : CmpOp} {f : Int → Int → Bool} (h : OpR X (compareOp op) (L2.rI0 fun i j => .bl (f i j))) : OpR X (compareOp op) (rP2 X.K X.mg (ordSem f)) := by
  intro pins s σ H x y v u Q I rx ry h'
  obtain ⟨G, c, d, r, hc, hd, e, q⟩ := h'
  unfold ordSem at e
  split at e
  · cases hc.int; cases hd.int; cases e
    exact h pins s σ H _ _ v u Q I rx ry ⟨_, _, rfl, rfl, q _ _ (.same (.bl _))⟩
  · cases e
theorem flat_V {K : PySem.W.Frag} {mg : Str → Option Value} {G : Gh} {H : Hp} {c : PV} {x : V} (h : PVR K mg G H c x) (f : c.flat = true) : L2.flatV x = true := by
  cases h <;> first | rfl | (exact absurd (show false = true from f) Bool.false_ne_true)
theorem flat_Vs {K : PySem.W.Frag} {mg : Str → Option Value} {G : Gh} {H : Hp} : ∀ {cs : List PV} {xs : List V}, PVRs K mg G H cs xs → cs.all PV.flat = true → xs.all L2.flatV = true
  | _, _, .nil, _ => rfl
  | _, _, .cons h t, f => by
    rw [List.all_cons, Bool.and_eq_true] at f ⊢
    exact ⟨flat_V h f.1, flat_Vs t f.2⟩
theorem eqV_pv {K : PySem.W.Frag} {mg : Str → Option Value} {G : Gh} {H : Hp} {c d : PV} {x y : V} (h : PVR K mg G H c x) (h' : PVR K mg G H d y) (f : c.flat = true) (f' : d.flat = true) : L2.eqV x y = c.eqv d := by
  cases h <;> first
    | (exact absurd (show false = true from f) Bool.false_ne_true)
    | (cases h' <;> first
        | (exact absurd (show false = true from f') Bool.false_ne_true)
        | (simp only [L2.eqV, PV.eqv]; done)
        | (simp only [L2.eqV, PV.eqv]; exact str_beq _ _))
theorem any_eqV {K : PySem.W.Frag} {mg : Str → Option Value} {G : Gh} {H : Hp} {c : PV} {x : V} (h : PVR K mg G H c x) (f : c.flat = true) : ∀ {cs : List PV} {xs : List V}, PVRs K mg G H cs xs → cs.all PV.flat = true → L2.inV x xs = cs.any fun y => y.eqv c
  | _, _, .nil, _ => rfl
  | _, _, .cons (x := c') (v := x') h' t, f' => by
    rw [List.all_cons, Bool.and_eq_true] at f'
    unfold L2.inV
    rw [List.any_cons, List.any_cons, eqV_pv h' h f'.1 f]
    exact congrArg _ (any_eqV h f t f'.2)
theorem CnR.flatP {K : PySem.W.Frag} {mg : Str → Option Value} {G : Gh} {H : Hp} {c : PV} {x : V} (h : CnR K mg G H c x) (f : c.flat = true) : PVR K mg G H c x := by
  rcases h with h | ⟨_, _, ob⟩
  · exact h
  · cases c <;> first | exact ob.elim | (exact absurd (show false = true from f) Bool.false_ne_true)
theorem isin_in {x y : V} {H : Hp} {neg : Bool} {G : Gh} {c d : PV} {b : Bool} {Q : L2.VK} (hc : CnR X.K X.mg G H c x) (hd : CnR X.K X.mg G H d y) (e : isinB c d = some b) (q : Q (.bl (if neg = true then !b else b)) H) :
    L2.rIn X.K neg x y H Q ∨ (∃ (c : Nat) (z : Str), x = .str ⟨#[c]⟩ ∧ y = .str z ∧ Q (.bl (if neg = true then !decide (c ∈ z.cps.toList) else decide (c ∈ z.cps.toList))) H) := by
  unfold isinB at e
  split at e
  · obtain ⟨a, xs, rfl, h1, p1⟩ := hd.tup
    split at e <;> cases e
    rename_i hz
    rw [Bool.and_eq_true] at hz
    have hp := hc.flatP hz.1
    refine .inl ⟨a, xs, rfl, .inr h1, flat_V hp hz.1, flat_Vs p1 hz.2, ?_⟩
    rw [any_eqV hp hz.1 p1 hz.2]
    exact q
  · obtain ⟨a, xs, rfl, h1, p1⟩ := hd.lst
    split at e <;> cases e
    rename_i hz
    rw [Bool.and_eq_true] at hz
    have hp := hc.flatP hz.1
    refine .inl ⟨a, xs, rfl, .inl (.of h1), flat_V hp hz.1, flat_Vs p1 hz.2, ?_⟩
    rw [any_eqV hp hz.1 p1 hz.2]
    exact q
  · cases hd.str
    split at e <;> cases e
    rename_i z cc
    cases hc.str
    refine .inr ⟨cc, _, rfl, rfl, ?_⟩
    simpa using q
  · cases e
theorem opIn : OpR X (compareOp .In) (rP2 X.K X.mg fun x y => (isinB x y).map fun b => .sh (.bl b)) := by
  intro pins s σ H x y v u Q I rx ry h
  obtain ⟨G, c, d, r, hc, hd, e, q⟩ := h
  obtain ⟨b, e', rfl⟩ := Option.map_eq_some_iff.mp e
  rcases isin_in (neg := false) hc hd e' (q _ _ (.same (.bl _))) with h | ⟨c, z, e1, e2, q⟩
  · exact L2.op_in_seq pins s σ H _ _ v u Q I rx ry h
  · exact L2.op_in_sign pins s σ H _ _ v u Q I rx ry ⟨c, z, e1, e2, q⟩
theorem opNotIn : OpR X (compareOp .NotIn) (rP2 X.K X.mg fun x y => (isinB x y).map fun b => .sh (.bl (!b))) := by
  intro pins s σ H x y v u Q I rx ry h
  obtain ⟨G, c, d, r, hc, hd, e, q⟩ := h
  obtain ⟨b, e', rfl⟩ := Option.map_eq_some_iff.mp e
  rcases isin_in (neg := true) hc hd e' (q _ _ (.same (.bl _))) with h | ⟨c, z, e1, e2, q⟩
  · exact L2.op_notIn_seq pins s σ H _ _ v u Q I rx ry h
  · exact L2.op_notIn_sign pins s σ H _ _ v u Q I rx ry ⟨c, z, e1, e2, q⟩
theorem isNon_V {G : Gh} {H : Hp} {c : PV} {x : V} (h : CnR X.K X.mg G H c x) : decide (x = .non) = isNon c := by
  rcases h with h | ⟨a, rfl, ob⟩
  · cases h <;> rfl
  · cases c <;> first | exact ob.elim | rfl

/-! subscripts, slices -/
theorem atI_map {α β : Type} {f : α → β} {xs : List α} {i : Int} : L2.atI (xs.map f) i = (L2.atI xs i).map f := by
  unfold L2.atI
  rw [List.length_map]
  cases L2.ixN xs.length i with
  | none => rfl
  | some k => simp
theorem atI_pv {K : PySem.W.Frag} {mg : Str → Option Value} {G : Gh} {H : Hp} {cs : List PV} {xs : List V} {i : Int} {c : PV} (p : PVRs K mg G H cs xs) (e : L2.atI cs i = some c) : ∃ x, L2.atI xs i = some x ∧ PVR K mg G H c x := by
  unfold L2.atI at e ⊢
  rw [← p.length]
  cases q : L2.ixN cs.length i with
  | none => rw [q] at e; cases e
  | some k =>
    rw [q] at e
    exact p.get e
theorem ixAny : IxR X (rP2 X.K X.mg idxSem) := by
  intro value slice pins s σ H x y v u Q I rx ry h hs
  obtain ⟨G, c, d, r, hc, hd, e, q⟩ := h
  unfold idxSem at e
  split at e
  · obtain ⟨a, xs, rfl, h1, p1⟩ := hc.lst
    cases hd.int
    obtain ⟨c, e', rfl⟩ := Option.map_eq_some_iff.mp e
    obtain ⟨x, e1, p⟩ := atI_pv p1 e'
    exact L2.ix_list value slice pins s σ H _ _ v u Q I rx ry ⟨a, xs, _, x, rfl, rfl, .of h1, e1, q _ _ (.same p)⟩ hs
  · obtain ⟨a, xs, rfl, h1, p1⟩ := hc.tup
    cases hd.int
    obtain ⟨c, e', rfl⟩ := Option.map_eq_some_iff.mp e
    obtain ⟨x, e1, p⟩ := atI_pv p1 e'
    exact L2.ix_tup value slice pins s σ H _ _ v u Q I rx ry ⟨a, xs, _, x, rfl, rfl, h1, e1, q _ _ (.same p)⟩ hs
  · obtain ⟨a, xs, rfl, h1, p1⟩ := hc.rol
    cases hd.int
    obtain ⟨c, e', rfl⟩ := Option.map_eq_some_iff.mp e
    obtain ⟨x, e1, p⟩ := atI_pv p1 e'
    exact L2.ix_list value slice pins s σ H _ _ v u Q I rx ry ⟨a, xs, _, x, rfl, rfl, h1.sq, e1, q _ _ (.same p)⟩ hs
  · cases hc.str; cases hd.int
    split at e
    · rename_i hz
      obtain ⟨c, e', rfl⟩ := Option.map_eq_some_iff.mp e
      exact L2.ix_str value slice pins s σ H _ _ v u Q I rx ry ⟨_, _, c, rfl, rfl, by rw [str_len, ← szL_eq]; exact hz, by simpa using e', q _ _ (.same (.str [c]))⟩ hs
    · cases e
  · cases e
def rSl (K : PySem.W.Frag) (mg : Str → Option Value) : V → Option Int → Option Int → Hp → L2.VK → Prop := fun x l h H Q => ∃ G c r, CnR K mg G H c x ∧ slSem l h c = some r ∧ ∀ z H', Out K mg G H r z H' → Q z H'
theorem slAny : L2.SlR X (rSl X.K X.mg) := by
  intro pins s σ H x v vl vu lo hi sl Q I rx hs pl pu h
  obtain ⟨G, c, r, hc, e, q⟩ := h
  unfold slSem at e
  split at e
  · cases e
    obtain ⟨a, xs, rfl, h1, p1⟩ := hc.lst
    refine L2.sl_list pins s σ H _ v vl vu lo hi sl Q I rx hs pl pu ⟨a, xs, rfl, .of h1, fun p hp => q _ _ (.lst hp ?_)⟩
    unfold cutL
    rw [p1.length]
    exact (p1.drop _).take _
  · rename_i ps
    cases e
    obtain ⟨a, xs, rfl, h1, p1⟩ := hc.tup
    refine L2.sl_tupA pins s σ H _ v vl vu lo hi sl Q I rx hs pl pu ⟨a, xs, rfl, h1, fun z => ?_, fun z p hp => q _ _ (.tup hp ?_)⟩
    · have e1 : cutL ps lo hi = ps := by
        unfold cutL
        rw [p1.length, z.1, z.2, ← p1.length]
        simp
      rw [e1] at q
      exact q _ _ (.same (.tup h1 p1))
    · unfold cutL
      rw [p1.length]
      exact (p1.drop _).take _
  · cases hc.str
    split at e <;> cases e
    rename_i y hz
    refine L2.sl_str pins s σ H _ v vl vu lo hi sl Q I rx hs pl pu ⟨_, rfl, by rw [str_len, ← szL_eq]; exact hz, ?_⟩
    have e1 : L2.cutS ⟨y.toArray⟩ lo hi = ⟨(cutL y lo hi).toArray⟩ := by
      unfold L2.cutS cutL
      rw [str_len]
    rw [e1]
    exact q _ _ (.same (.str _))
  · cases e

/-! calls of what is built in -/
theorem PVRs.bools {K : PySem.W.Frag} {mg : Str → Option Value} {G : Gh} {H : Hp} : ∀ {cs : List PV} {xs : List V} {bs : List Bool}, PVRs K mg G H cs xs → bools cs = some bs → xs = bs.map V.bl
  | [], _, bs, .nil, e => by cases e; rfl
  | c :: cs, _, bs, .cons h t, e => by
    cases c with
    | bl b =>
      simp only [TP.bools, Option.map_eq_some_iff] at e
      obtain ⟨bs', e, rfl⟩ := e
      cases h
      rw [PVRs.bools t e]; rfl
    | _ => cases e
theorem PVRs.ints {K : PySem.W.Frag} {mg : Str → Option Value} {G : Gh} {H : Hp} : ∀ {cs : List PV} {xs : List V} {ns : List Int}, PVRs K mg G H cs xs → intsL cs = some ns → xs = ns.map V.int
  | [], _, bs, .nil, e => by cases e; rfl
  | c :: cs, _, bs, .cons h t, e => by
    cases c with
    | int b =>
      simp only [intsL, Option.map_eq_some_iff] at e
      obtain ⟨bs', e, rfl⟩ := e
      cases h
      rw [PVRs.ints t e]; rfl
    | _ => cases e
theorem callLen : CallR X (.builtin "len") (rC1 X.K X.mg lenSem) := by
  intro pins s σ H xs us Q I rx h
  obtain ⟨x, rfl, G, c, r, hc, e, q⟩ := h
  unfold lenSem at e
  split at e
  · cases e
    obtain ⟨a, ys, rfl, h1, p1⟩ := hc.lst
    exact L2.call_len pins s σ H _ us Q I rx ⟨_, _, rfl, .inl ⟨ys, .of h1, p1.length⟩, q _ _ (.same (.int _))⟩
  · cases e
    obtain ⟨a, ys, rfl, h1, p1⟩ := hc.tup
    exact L2.call_len pins s σ H _ us Q I rx ⟨_, _, rfl, .inr ⟨ys, h1, p1.length⟩, q _ _ (.same (.int _))⟩
  · cases e
    obtain ⟨a, ys, rfl, h1, p1⟩ := hc.rol
    exact L2.call_len pins s σ H _ us Q I rx ⟨_, _, rfl, .inl ⟨ys, h1.sq, p1.length⟩, q _ _ (.same (.int _))⟩
  · cases hc.str
    split at e <;> cases e
    rename_i hz
    exact L2.call_len pins s σ H _ us Q I rx ⟨_, _, rfl, ⟨by rw [str_len, ← szL_eq]; exact hz, (str_len _).symm⟩, q _ _ (.same (.int _))⟩
  · cases e
theorem callAbs : CallR X (.builtin "abs") (rC1 X.K X.mg absSem) := by
  intro pins s σ H xs us Q I rx h
  obtain ⟨x, rfl, G, c, r, hc, e, q⟩ := h
  unfold absSem at e
  split at e
  · cases hc.int; cases e
    exact L2.call_abs pins s σ H _ us Q I rx ⟨_, rfl, q _ _ (.same (.int _))⟩
  · cases e
theorem callToInt : CallR X (.type "int") (rC1 X.K X.mg toIntSem) := by
  intro pins s σ H xs us Q I rx h
  obtain ⟨x, rfl, G, c, r, hc, e, q⟩ := h
  unfold toIntSem at e
  split at e
  · cases hc.int; cases e
    exact L2.call_int1 pins s σ H _ us Q I rx (.inl ⟨_, rfl, q _ _ (.same (.int _))⟩)
  · cases hc.bl; cases e
    exact L2.call_int1 pins s σ H _ us Q I rx (.inr ⟨_, rfl, q _ _ (.same (.int _))⟩)
  · cases hc.str
    split at e
    · rename_i hz
      obtain ⟨n, en, rfl⟩ := Option.map_eq_some_iff.mp e
      exact L2.call_int_str pins s σ H _ us Q I rx ⟨_, n, rfl, en, by rw [str_len]; exact hz, q _ _ (.same (.int _))⟩
    · cases e
  · cases e
theorem callToTup : CallR X (.type "tuple") (rC1 X.K X.mg toTupSem) := by
  intro pins s σ H xs us Q I rx h
  obtain ⟨x, rfl, G, c, r, hc, e, q⟩ := h
  unfold toTupSem at e
  split at e
  · cases e
    obtain ⟨a, ys, rfl, h1, p1⟩ := hc.lst
    exact L2.call_tuple_of pins s σ H _ us Q I rx ⟨_, _, rfl, .inl ⟨.of h1, fun p hp => q _ _ (.tup hp p1)⟩⟩
  · cases e
    obtain ⟨a, ys, rfl, h1, p1⟩ := hc.tup
    exact L2.call_tuple_of pins s σ H _ us Q I rx ⟨_, _, rfl, .inr ⟨h1, q _ _ (.same (.tup h1 p1))⟩⟩
  · cases e
theorem callToList : CallR X (.type "list") (rC1 X.K X.mg toListSem) := by
  intro pins s σ H xs us Q I rx h
  obtain ⟨x, rfl, G, c, r, hc, e, q⟩ := h
  unfold toListSem at e
  split at e
  · cases e
    obtain ⟨a, ys, rfl, h1, p1⟩ := hc.lst
    exact L2.call_list_of pins s σ H _ us Q I rx ⟨_, _, rfl, .inl (.of h1), fun p hp => q _ _ (.lst hp p1)⟩
  · cases e
    obtain ⟨a, ys, rfl, h1, p1⟩ := hc.tup
    exact L2.call_list_of pins s σ H _ us Q I rx ⟨_, _, rfl, .inr h1, fun p hp => q _ _ (.lst hp p1)⟩
  · cases e
    obtain ⟨a, ys, rfl, h1, p1⟩ := hc.rol
    exact L2.call_list_of pins s σ H _ us Q I rx ⟨_, _, rfl, .inl h1.sq, fun p hp => q _ _ (.lst hp p1)⟩
  · cases e
theorem callMin (hc : X.calm = true) : CallR X (.builtin "min") (rC2 X.K X.mg (mmSem fun i j => if j < i then j else i)) := by
  intro pins s σ H xs us Q I rx h
  obtain ⟨x, y, rfl, G, c, d, r, hc1, hd, e, q⟩ := h
  unfold mmSem at e
  split at e
  · cases hc1.int; cases hd.int; cases e
    exact L2.call_min2 hc pins s σ H _ us Q I rx ⟨_, _, rfl, q _ _ (.same (.int _))⟩
  · cases e
theorem callMax (hc : X.calm = true) : CallR X (.builtin "max") (rC2 X.K X.mg (mmSem fun i j => if j > i then j else i)) := by
  intro pins s σ H xs us Q I rx h
  obtain ⟨x, y, rfl, G, c, d, r, hc1, hd, e, q⟩ := h
  unfold mmSem at e
  split at e
  · cases hc1.int; cases hd.int; cases e
    exact L2.call_max2 hc pins s σ H _ us Q I rx ⟨_, _, rfl, q _ _ (.same (.int _))⟩
  · cases e
theorem callAll (hc : X.calm = true) : CallR X (.builtin "all") (rC1 X.K X.mg allSem) := by
  intro pins s σ H xs us Q I rx h
  obtain ⟨x, rfl, G, c, r, hc1, e, q⟩ := h
  unfold allSem at e
  split at e
  · obtain ⟨a, ys, rfl, h1, p1⟩ := hc1.lst
    obtain ⟨bs, e', rfl⟩ := Option.map_eq_some_iff.mp e
    have := p1.bools e'
    subst this
    exact L2.cr_all hc pins s σ H _ us Q I rx ⟨a, bs, rfl, .of h1, q _ _ (.same (.bl _))⟩
  · cases e
theorem callAny (hc : X.calm = true) : CallR X (.builtin "any") (rC1 X.K X.mg anySem) := by
  intro pins s σ H xs us Q I rx h
  obtain ⟨x, rfl, G, c, r, hc1, e, q⟩ := h
  unfold anySem at e
  split at e
  · obtain ⟨a, ys, rfl, h1, p1⟩ := hc1.lst
    obtain ⟨bs, e', rfl⟩ := Option.map_eq_some_iff.mp e
    have := p1.bools e'
    subst this
    exact L2.cr_any hc pins s σ H _ us Q I rx ⟨a, bs, rfl, .of h1, q _ _ (.same (.bl _))⟩
  · cases e
theorem callSum (hc : X.calm = true) : CallR X (.builtin "sum") (rC1 X.K X.mg sumSem) := by
  intro pins s σ H xs us Q I rx h
  obtain ⟨x, rfl, G, c, r, hc1, e, q⟩ := h
  unfold sumSem at e
  split at e
  · obtain ⟨a, ys, rfl, h1, p1⟩ := hc1.lst
    obtain ⟨bs, e', rfl⟩ := Option.map_eq_some_iff.mp e
    have := p1.ints e'
    subst this
    exact L2.cr_sum hc pins s σ H _ us Q I rx ⟨a, bs, rfl, .of h1, q _ _ (.same (.int _))⟩
  · cases e

/-! isinstance -/
theorem kit_tab : (["NoneType", "bool", "int", "str", "tuple", "list", "dict"].all fun a => ["int", "bool", "str", "tuple", "list", "dict"].all fun b => L2.kitB a b == some (tySub a b)) = true := by decide +kernel
theorem kit_of_known {a b : String} (ha : a ∈ ["NoneType", "bool", "int", "str", "tuple", "list", "dict"]) (hb : tyKnown b = true) : L2.kitB a b = some (tySub a b) := by
  have h1 := List.all_eq_true.mp kit_tab a ha
  have hb' : b ∈ ["int", "bool", "str", "tuple", "list", "dict"] := by
    simp only [tyKnown, Bool.or_eq_true, beq_iff_eq] at hb
    simp only [List.mem_cons, List.not_mem_nil, or_false]
    rcases hb with ((((h | h) | h) | h) | h) | h <;> simp [h]
  exact beq_iff_eq.mp (List.all_eq_true.mp h1 b hb')
theorem tyName_mem {c : PV} {a : String} (h : tyName c = some a) : a ∈ ["NoneType", "bool", "int", "str", "tuple", "list", "dict"] := by
  cases c <;> first | (cases h; done) | (simp only [tyName, Option.some.injEq] at h; subst h; decide)
theorem SqT.tyx {K : PySem.W.Frag} {H : Hp} {a : Addr} {xs : List V} (h : SqT K H a xs) : L2.TyX K H (.ref a) (.type "tuple") := by
  rcases h with (h | ⟨o, h⟩) | ⟨o, its, n, hk, hc, _⟩
  · exact .base (.tup h)
  · exact .fTuple h
  · exact .kTuple hk hc
theorem CnR.tyx {K : PySem.W.Frag} {mg : Str → Option Value} {G : Gh} {H : Hp} {c : PV} {x : V} {a : String} (h : CnR K mg G H c x) (e : tyName c = some a) : L2.TyX K H x (.type a) := by
  cases c with
  | non => cases h.non; cases e; exact .base .non
  | bl b => cases h.bl; cases e; exact .base (.bl b)
  | int i => cases h.int; cases e; exact .base (.int i)
  | str y => cases h.str; cases e; exact .base (.str _)
  | tup xs => obtain ⟨p, ys, rfl, h1, _⟩ := h.tup; cases e; exact SqT.tyx h1
  | lst xs => obtain ⟨p, ys, rfl, h1, _⟩ := h.lst; cases e; exact .base (.lst h1)
  | rol xs =>
    obtain ⟨p, ys, rfl, h1, _⟩ := h.rol
    cases e
    rcases h1 with ⟨o, h1⟩ | ⟨o, its, n, hk, hc, _⟩
    · exact .base (.frz h1)
    · exact .kList hk hc
  | dct ks vs =>
    cases e
    rcases h with h | ⟨p, rfl, kvs, h1, _⟩
    · cases h with
      | dct h1 => exact .base (.dK h1)
    · exact .base (.dK h1)
  | _ => cases e
theorem tys_cls {K : PySem.W.Frag} {mg : Str → Option Value} {G : Gh} {H : Hp} : ∀ {ts : List PV} {xs : List V} {ns : List String}, PVRs K mg G H ts xs → tysOf ts = some ns → Paired L2.ClsV xs (ns.map Value.type) ∧ ∀ n ∈ ns, tyKnown n = true
  | [], _, ns, .nil, e => by cases e; exact ⟨.nil, fun _ h => by cases h⟩
  | c :: ts, _, ns, .cons h t, e => by
    cases c with
    | ty n =>
      simp only [tysOf] at e
      split at e
      · rename_i hk
        obtain ⟨ns', e', rfl⟩ := Option.map_eq_some_iff.mp e
        cases h
        obtain ⟨p1, p2⟩ := tys_cls t e'
        refine ⟨.cons (.ty n) p1, fun m hm => ?_⟩
        rcases List.mem_cons.mp hm with z | z
        · rw [z]; exact hk
        · exact p2 m z
      · cases e
    | _ => cases e
theorem kit_any {K : PySem.W.Frag} {a : String} (ha : a ∈ ["NoneType", "bool", "int", "str", "tuple", "list", "dict"]) : ∀ {ns : List String}, (∀ n ∈ ns, tyKnown n = true) → PySem.W.kitAny K (.type a) (ns.map Value.type) = some (ns.any (tySub a))
  | [], _ => rfl
  | n :: ns, h => by
    have h1 := kit_of_known ha (h n (List.mem_cons_self ..))
    have h2 := kit_any (K := K) ha (ns := ns) fun m hm => h m (List.mem_cons_of_mem _ hm)
    rw [List.map_cons, List.any_cons]
    refine L2.kitAny_cons (b := tySub a n) (L2.kit_ty h1) (fun z => by rw [z]; exact h2) (fun z => by rw [z]; rfl)
theorem callIsi : CallR X (.builtin "isinstance") (rC2 X.K X.mg isiSem) := by
  intro pins s σ H xs us Q I rx h
  obtain ⟨x, y, rfl, G, c, d, r, hc, hd, e, q⟩ := h
  unfold isiSem at e
  split at e
  · rename_i t
    cases hd.ty
    split at e
    · rename_i hk
      obtain ⟨a, e', rfl⟩ := Option.map_eq_some_iff.mp e
      exact L2.call_isi pins s σ H _ us Q I rx ⟨x, .ty t, .type a, .type t, _, rfl, .ty t, hc.tyx e', L2.kit_ty (kit_of_known (tyName_mem e') hk), q _ _ (.same (.bl _))⟩
    · cases e
  · rename_i ts
    obtain ⟨tp, cs, rfl, h1, p1⟩ := hd.tup
    split at e
    · rename_i ns ens
      obtain ⟨a, e', rfl⟩ := Option.map_eq_some_iff.mp e
      obtain ⟨q1, q2⟩ := tys_cls p1 ens
      obtain ⟨u1, u2, rfl, r1, r2⟩ := L2.vals2 rx
      cases (show u2 = Value.ref tp from r2)
      obtain ⟨P, Z, p, hx⟩ := L2.kit_of I r1 (hc.tyx e')
      obtain ⟨its, rv, ⟨o, g1, g2, n, g3⟩, _⟩ := I.tuple h1
      have e3 := L2.ClsV.all q1 rv
      subst e3
      obtain ⟨oc, od, dt, sl⟩ := o
      simp only at g2 g3
      subst g2 g3
      exact PySem.W.kia_tup Z I.kIn p g1 (kit_any (tyName_mem e') q2) hx fun tk => ⟨.bl _, H, I.tok tk, rfl, q _ _ (.same (.bl _))⟩
    · cases e
  · cases e
end
end TP

set_option Elab.async false
set_option linter.all false
set_option maxRecDepth 100000
set_option maxHeartbeats 4000000
/-! Sal3b: more operations. -/
namespace TP
open PySem PySem.Spec PyProof.Rows
open L2 (V Hp HO Key upd upd_same upd_ne SqL SqT Rd OpR UnR CallR IxR Vals Inv MtR)
/-! texts -/
section
variable {K : PySem.W.Frag} {mg : Str → Option Value} {G : Gh} {H : Hp}
theorem PVRs.strs : ∀ {cs : List PV} {xs : List V} {ys : List (List Nat)}, PVRs K mg G H cs xs → strsL cs = some ys → xs = (ys.map fun y => (⟨y.toArray⟩ : Str)).map V.str
  | _, _, _, .nil, e => by cases e; rfl
  | c :: cs, _, _, .cons h t, e => by
    cases c <;> simp only [strsL] at e <;> try cases e
    obtain ⟨ys, e', rfl⟩ := Option.map_eq_some_iff.mp e
    cases h
    rw [PVRs.strs t e']
    rfl
end
theorem strsL_map : ∀ xs : List (List Nat), strsL (xs.map .str) = some xs
  | [] => rfl
  | x :: xs => by simp only [List.map_cons, strsL, strsL_map xs, Option.map_some]
theorem map_len (ys : List (List Nat)) : (ys.map fun y => (⟨y.toArray⟩ : Str)).map (fun z => z.length) = ys.map List.length := by
  rw [List.map_map]
  refine List.map_congr_left fun y _ => ?_
  simp [Str.length]
theorem join_codes (s : List Nat) (ys : List (List Nat)) : Txt.join ⟨s.toArray⟩ (ys.map fun y => (⟨y.toArray⟩ : Str)) = ⟨(TL.joinL s ys).toArray⟩ := by
  rw [TL.join_eq]
  refine TL.ext_tl ?_
  rw [TL.tl_join, List.map_map]
  have : (ys.map (TL.tl ∘ fun y => (⟨y.toArray⟩ : Str))) = ys := by
    conv => rhs; rw [← List.map_id ys]
    exact List.map_congr_left fun y _ => rfl
  rw [this]
section
variable {X : L2.Cx}
def rM1 (K : PySem.W.Frag) (mg : Str → Option Value) (f : PV → PV → Option RV) : V → List V → Hp → L2.VK → Prop := fun x xs H Q => ∃ y, xs = [y] ∧ rP2 K mg f x y H Q
theorem mtJoin : MtR X "str.join" (rM1 X.K X.mg joinSem) := by
  intro pins s σ H x y v u Q I rx ry h
  obtain ⟨y', rfl, G, c, d, r, hc, hd, e, q⟩ := h
  unfold joinSem at e
  split at e
  · cases hc.str
    obtain ⟨a, ys, rfl, h1, p1⟩ := hd.lst
    split at e
    · rename_i ts et
      split at e <;> cases e
      rename_i hk
      have := p1.strs et
      subst this
      refine L2.mt_join pins s σ H _ _ v u Q I rx ry ⟨_, a, _, rfl, rfl, .inl (.of h1), ?_, ?_⟩
      · unfold joinOk at hk
        have hk := of_decide_eq_true hk
        rw [map_len, List.length_map, str_len]
        exact hk
      · rw [join_codes]
        exact q _ _ (.same (.str _))
    · cases e
  · cases hc.str
    obtain ⟨a, ys, rfl, h1, p1⟩ := hd.tup
    split at e
    · rename_i ts et
      split at e <;> cases e
      rename_i hk
      have := p1.strs et
      subst this
      refine L2.mt_join pins s σ H _ _ v u Q I rx ry ⟨_, a, _, rfl, rfl, .inr h1, ?_, ?_⟩
      · unfold joinOk at hk
        have hk := of_decide_eq_true hk
        rw [map_len, List.length_map, str_len]
        exact hk
      · rw [join_codes]
        exact q _ _ (.same (.str _))
    · cases e
  · cases e
theorem strs_pv {K : PySem.W.Frag} {mg : Str → Option Value} {G : Gh} {H : Hp} : ∀ ys : List Str, PVRs K mg G H ((ys.map TL.tl).map .str) (ys.map V.str)
  | [] => .nil
  | y :: ys => by
    refine .cons ?_ (strs_pv ys)
    have := PVR.str (K := K) (mg := mg) (G := G) (H := H) (TL.tl y)
    rw [TL.mk_tl] at this
    exact this
theorem mtSplit : MtR X "str.split" (rM1 X.K X.mg splitSem) := by
  intro pins s σ H x y v u Q I rx ry h
  obtain ⟨y', rfl, G, c, d, r, hc, hd, e, q⟩ := h
  unfold splitSem at e
  split at e
  · cases hc.str
    cases hd.str
    split at e <;> cases e
    rename_i hk
    refine L2.mt_split pins s σ H _ _ v u Q I rx ry ⟨_, _, rfl, rfl, rfl, ?_, fun p hp => ?_⟩
    · rw [str_len, ← szL_eq]; exact hk.1
    · rename_i x c
      have e1 := TL.split_spl ⟨x.toArray⟩ ⟨[c].toArray⟩ (by simp) (TL.kind_ok (by simp [hk.2]))
      have e2 : TL.spl [c] 0 [] x = (Txt.split ⟨x.toArray⟩ ⟨[c].toArray⟩).map TL.tl := e1.symm
      refine q _ _ (.lst hp ?_)
      rw [e2]
      exact strs_pv _
  · cases e
theorem starts_codes (x y : List Nat) : Txt.startswith ⟨x.toArray⟩ ⟨y.toArray⟩ = (x.take y.length == y) := by
  unfold Txt.startswith
  rw [PySem.StrLaws.subAt_eq, str_len, str_len, List.drop_zero]
  by_cases h : y.length ≤ x.length
  · rw [decide_eq_true (by omega), Bool.true_and]
  · rw [decide_eq_false (by omega), Bool.false_and]
    symm
    rw [beq_eq_false_iff_ne]
    intro z
    have := congrArg List.length z
    rw [List.length_take] at this
    omega
theorem mtStarts : MtR X "str.startswith" (rM1 X.K X.mg startsSem) := by
  intro pins s σ H x y v u Q I rx ry h
  obtain ⟨y', rfl, G, c, d, r, hc, hd, e, q⟩ := h
  unfold startsSem at e
  split at e
  · cases hc.str
    cases hd.str
    cases e
    refine L2.mt_startswith pins s σ H _ _ v u Q I rx ry ⟨_, _, rfl, rfl, ?_⟩
    rw [starts_codes]
    exact q _ _ (.same (.bl _))
  · cases e
theorem callToStr : CallR X (.type "str") (rC1 X.K X.mg toStrSem) := by
  intro pins s σ H xs us Q I rx h
  obtain ⟨x, rfl, G, c, r, hc, e, q⟩ := h
  unfold toStrSem at e
  split at e
  · split at e <;> cases e
    rename_i hz
    have hz := of_decide_eq_true hz
    cases hc.int
    refine L2.call_str_int pins s σ H _ us Q I rx ⟨_, rfl, ?_, ?_⟩
    · exact Nat.lt_of_lt_of_le (PySem.Flt.log2_lt_of (by decide) hz) (by decide)
    · have := q _ _ (.same (.str _))
      rw [show (⟨(toString _ : Str).cps.toList.toArray⟩ : Str) = (toString _ : Str) from TL.mk_tl _] at this
      exact this
  · cases e
    cases hc.str
    exact SkE.call_str_str pins s σ H _ us Q I rx ⟨_, rfl, q _ _ (.same (.str _))⟩
  · cases e
/-! the greatest, the least, in order -/
theorem maxI_spec : ∀ (ns : List Int) (n : Int), maxI n ns ∈ n :: ns ∧ ∀ y ∈ n :: ns, y ≤ maxI n ns
  | [], n => ⟨by simp [maxI], by simp [maxI]⟩
  | x :: r, n => by
    simp only [maxI]
    obtain ⟨m, hm, k1, k2, k3⟩ : ∃ m, (if n < x then x else n) = m ∧ x ≤ m ∧ n ≤ m ∧ (m = x ∨ m = n) := ⟨_, rfl, by split <;> omega, by split <;> omega, by split <;> simp⟩
    rw [hm]
    obtain ⟨h1, h2⟩ := maxI_spec r m
    have h3 := h2 _ (List.mem_cons_self ..)
    refine ⟨?_, fun y hy => ?_⟩
    · rcases List.mem_cons.mp h1 with h | h
      · rw [h]
        rcases k3 with z | z <;> (rw [z]; simp)
      · simp [h]
    · rcases List.mem_cons.mp hy with h | h
      · omega
      · rcases List.mem_cons.mp h with h | h
        · omega
        · exact h2 y (List.mem_cons_of_mem _ h)
theorem minI_spec : ∀ (ns : List Int) (n : Int), minI n ns ∈ n :: ns ∧ ∀ y ∈ n :: ns, minI n ns ≤ y
  | [], n => ⟨by simp [minI], by simp [minI]⟩
  | x :: r, n => by
    simp only [minI]
    obtain ⟨m, hm, k1, k2, k3⟩ : ∃ m, (if x < n then x else n) = m ∧ m ≤ x ∧ m ≤ n ∧ (m = x ∨ m = n) := ⟨_, rfl, by split <;> omega, by split <;> omega, by split <;> simp⟩
    rw [hm]
    obtain ⟨h1, h2⟩ := minI_spec r m
    have h3 := h2 _ (List.mem_cons_self ..)
    refine ⟨?_, fun y hy => ?_⟩
    · rcases List.mem_cons.mp h1 with h | h
      · rw [h]
        rcases k3 with z | z <;> (rw [z]; simp)
      · simp [h]
    · rcases List.mem_cons.mp hy with h | h
      · omega
      · rcases List.mem_cons.mp h with h | h
        · omega
        · exact h2 y (List.mem_cons_of_mem _ h)
theorem callMaxL (hc : X.calm = true) : CallR X (.builtin "max") (rC1 X.K X.mg maxLSem) := by
  intro pins s σ H xs us Q I rx h
  obtain ⟨x, rfl, G, c, r, hc1, e, q⟩ := h
  unfold maxLSem at e
  split at e
  · obtain ⟨a, ys, rfl, h1, p1⟩ := hc1.lst
    split at e <;> cases e
    rename_i n ns e'
    have := p1.ints e'
    subst this
    refine L2.cr_max hc pins s σ H _ us Q I rx ⟨a, n :: ns, rfl, .of h1, by simp, fun m hm hle => ?_⟩
    obtain ⟨h3, h4⟩ := maxI_spec ns n
    have : m = maxI n ns := Int.le_antisymm (h4 m hm) (hle _ h3)
    subst this
    exact q _ _ (.same (.int _))
  · cases e
theorem callMinL (hc : X.calm = true) : CallR X (.builtin "min") (rC1 X.K X.mg minLSem) := by
  intro pins s σ H xs us Q I rx h
  obtain ⟨x, rfl, G, c, r, hc1, e, q⟩ := h
  unfold minLSem at e
  split at e
  · obtain ⟨a, ys, rfl, h1, p1⟩ := hc1.lst
    split at e <;> cases e
    rename_i n ns e'
    have := p1.ints e'
    subst this
    refine L2.cr_min hc pins s σ H _ us Q I rx ⟨a, n :: ns, rfl, .of h1, by simp, fun m hm hle => ?_⟩
    obtain ⟨h3, h4⟩ := minI_spec ns n
    have : m = minI n ns := Int.le_antisymm (hle _ h3) (h4 m hm)
    subst this
    exact q _ _ (.same (.int _))
  · cases e
theorem perm_sorted_eq {α : Type} {le : α → α → Prop} (anti : ∀ a b, le a b → le b a → a = b) : ∀ {xs ys : List α}, xs.Perm ys → xs.Pairwise le → ys.Pairwise le → xs = ys
  | [], ys, p, _, _ => (List.nil_perm.mp p).symm
  | x :: xs, [], p, _, _ => by simpa using p.length_eq
  | x :: xs, y :: ys, p, h1, h2 => by
    have e : x = y := by
      have hx : x ∈ y :: ys := p.subset (List.mem_cons_self ..)
      have hy : y ∈ x :: xs := p.symm.subset (List.mem_cons_self ..)
      rcases List.mem_cons.mp hx with z | z
      · exact z
      · rcases List.mem_cons.mp hy with w | w
        · exact w.symm
        · exact anti _ _ (List.rel_of_pairwise_cons h1 w) (List.rel_of_pairwise_cons h2 z)
    subst e
    rw [perm_sorted_eq anti (List.Perm.cons_inv p) (List.pairwise_cons.mp h1).2 (List.pairwise_cons.mp h2).2]
theorem sortI_spec (ns : List Int) : (ns.mergeSort fun a b => decide (a ≤ b)).Perm ns ∧ (ns.mergeSort fun a b => decide (a ≤ b)).Pairwise (· ≤ ·) := by
  refine ⟨List.mergeSort_perm _ _, ?_⟩
  have := List.pairwise_mergeSort (le := fun a b : Int => decide (a ≤ b)) (fun a b c h1 h2 => by simp at *; omega) (fun a b => by simp; omega) ns
  exact this.imp fun h => of_decide_eq_true h
theorem rising_pw : ∀ (r : List Str) (p : Str), risingS p r = true → (p :: r).Pairwise (fun a b => ¬ b.cps.toList < a.cps.toList)
  | [], p, _ => by simp
  | x :: r, p, h => by
    unfold risingS at h
    rw [Bool.and_eq_true, ltCps_eq, Bool.not_eq_true', decide_eq_false_iff_not] at h
    obtain ⟨hn, h⟩ := h
    have ih := rising_pw r x h
    refine List.pairwise_cons.mpr ⟨fun y hy => ?_, ih⟩
    rcases List.mem_cons.mp hy with z | z
    · subst z; exact hn
    · have h2 := List.rel_of_pairwise_cons ih z
      exact List.not_lt.mpr (List.le_trans (List.not_lt.mp hn) (List.not_lt.mp h2))
theorem sortedS_pw {ys : List Str} (h : sortedS ys = true) : ys.Pairwise (fun a b => ¬ b.cps.toList < a.cps.toList) := by
  cases ys with
  | nil => exact .nil
  | cons x r => exact rising_pw r x h
theorem leS_trans (a b c : List Nat) (h1 : leS a b = true) (h2 : leS b c = true) : leS a c = true := by
  unfold leS at *
  simp only [Bool.not_eq_true', decide_eq_false_iff_not] at *
  exact List.not_lt.mpr (List.le_trans (List.not_lt.mp h1) (List.not_lt.mp h2))
theorem leS_total (a b : List Nat) : (leS a b || leS b a) = true := by
  unfold leS
  by_cases h : b < a
  · have : ¬ a < b := fun z => List.lt_irrefl a (List.lt_trans z h)
    simp [this]
  · simp [h]
theorem leS_anti (a b : List Nat) (h1 : leS a b = true) (h2 : leS b a = true) : a = b := by
  unfold leS at *
  simp only [Bool.not_eq_true', decide_eq_false_iff_not] at *
  exact List.le_antisymm (List.not_lt.mp h1) (List.not_lt.mp h2)
theorem sortS_spec (ns : List (List Nat)) : (ns.mergeSort leS).Perm ns ∧ (ns.mergeSort leS).Pairwise (fun a b => leS a b = true) :=
  ⟨List.mergeSort_perm _ _, List.pairwise_mergeSort (le := leS) leS_trans leS_total ns⟩
theorem sortS_uniq {xs : List (List Nat)} {ys : List Str} (p : ys.Perm (xs.map fun y => (⟨y.toArray⟩ : Str))) (h : sortedS ys = true) : ys = (xs.mergeSort leS).map fun y => (⟨y.toArray⟩ : Str) := by
  have e1 : ys.map TL.tl = xs.mergeSort leS := by
    obtain ⟨q1, q2⟩ := sortS_spec xs
    refine perm_sorted_eq (le := fun a b => leS a b = true) leS_anti ?_ ?_ q2
    · refine List.Perm.trans ?_ q1.symm
      have := p.map TL.tl
      rw [List.map_map] at this
      have e2 : xs.map (TL.tl ∘ fun y => (⟨y.toArray⟩ : Str)) = xs := by
        conv => rhs; rw [← List.map_id xs]
        exact List.map_congr_left fun y _ => rfl
      rw [e2] at this
      exact this
    · rw [List.pairwise_map]
      exact (sortedS_pw h).imp fun z => by unfold leS; simpa using z
  rw [← e1, List.map_map]
  conv => lhs; rw [← List.map_id ys]
  exact List.map_congr_left fun y _ => (TL.mk_tl y).symm
theorem callSorted : CallR X (.builtin "sorted") (rC1 X.K X.mg sortdSem) := by
  intro pins s σ H xs us Q I rx h
  obtain ⟨x, rfl, G, c, r, hc1, e, q⟩ := h
  unfold sortdSem at e
  split at e
  · obtain ⟨a, ys, rfl, h1, p1⟩ := hc1.lst
    split at e
    · rename_i ns e'
      cases e
      have := p1.ints e'
      subst this
      refine L2.cr_sortedI pins s σ H _ us Q I rx ⟨a, ns, rfl, .of h1, fun ns' p pm pw hp => ?_⟩
      obtain ⟨q1, q2⟩ := sortI_spec ns
      have := perm_sorted_eq (fun a b h1 h2 => Int.le_antisymm h1 h2) (pm.trans q1.symm) pw q2
      subst this
      refine q _ _ (.lst hp ?_)
      have ip : ∀ zs : List Int, PVRs X.K X.mg G H (zs.map .int) (zs.map V.int) := fun zs => by
        induction zs with
        | nil => exact .nil
        | cons z zs ih => exact .cons (.int z) ih
      exact ip _
    · split at e
      · rename_i ts et
        split at e <;> cases e
        rename_i hz
        have := p1.strs et
        subst this
        refine L2.cr_sortedS pins s σ H _ us Q I rx ⟨a, _, rfl, .of h1, by rw [List.length_map]; exact hz, fun zs p pm sd hp => ?_⟩
        have := sortS_uniq pm sd
        subst this
        refine q _ _ (.lst hp ?_)
        have := strs_pv (K := X.K) (mg := X.mg) (G := G) (H := H) ((ts.mergeSort leS).map fun y => (⟨y.toArray⟩ : Str))
        have e2 : ((ts.mergeSort leS).map fun y => (⟨y.toArray⟩ : Str)).map TL.tl = ts.mergeSort leS := by
          rw [List.map_map]
          conv => rhs; rw [← List.map_id (ts.mergeSort leS)]
          exact List.map_congr_left fun y _ => rfl
        rw [e2] at this
        exact this
      · cases e
  · cases e
/-! x is True -/
theorem opIsB (b : Bool) : OpR X (compareOp .Is) (fun x y H Q => y = .bl b ∧ rP1 X.K X.mg (isBSem b) x H Q) := by
  intro pins s σ H x y v u Q I rx ry h
  obtain ⟨rfl, G, c, r, hc, e, q⟩ := h
  unfold isBSem at e
  split at e
  · cases e
    cases hc.bl
    exact L2.op_isBl pins s σ H _ _ v u Q I rx ry ⟨_, _, rfl, rfl, q _ _ (.same (.bl _))⟩
  · cases e
theorem opNotB (b : Bool) : OpR X (compareOp .IsNot) (fun x y H Q => y = .bl b ∧ rP1 X.K X.mg (notBSem b) x H Q) := by
  intro pins s σ H x y v u Q I rx ry h
  obtain ⟨rfl, G, c, r, hc, e, q⟩ := h
  unfold notBSem at e
  split at e
  · cases e
    cases hc.bl
    exact L2.op_notBl pins s σ H _ _ v u Q I rx ry ⟨_, _, rfl, rfl, q _ _ (.same (.bl _))⟩
  · cases e
end
end TP

set_option Elab.async false
set_option linter.all false
set_option maxRecDepth 100000
set_option maxHeartbeats 4000000
/-! Sal4: the text's expressions as trees of the small language; what a context must bear. -/
namespace TP
open PySem PySem.Spec PyProof.Rows
open L2 (V Hp HO Key upd upd_same upd_ne SqL SqT Rd OpR UnR CallR IxR Vals Inv PE PT PW PA PI PG PGs PO PTs)

/-! ### compiling -/
/-- a way to call by keywords: n values, then those named ks; what each param gets -/
structure KP where
  f : Str
  n : Nat
  ks : List Str
  pm : List (Sum Nat PV)
structure Cg where
  /-- the defs' names -/
  fns : List Str
  /-- the module's constants -/
  con : List (Str × PV)
  /-- calls by keywords -/
  kps : List KP := []
  /-- defs that are held by names -/
  hds : List Str := []
  /-- dicts of the module, by text keys -/
  dcs : List (Str × List (List Nat × PV)) := []
def ixOf (x : Str) : List Str → Option Nat
  | [] => none
  | y :: r => if y = x then some 0 else (ixOf x r).map (· + 1)
theorem ixOf_get {x : Str} : ∀ {N : List Str} {i : Nat}, ixOf x N = some i → N[i]? = some x
  | [], _, h => by cases h
  | y :: r, i, h => by
    unfold ixOf at h
    split at h
    · rename_i e
      cases h
      rw [e]; rfl
    · obtain ⟨j, h', rfl⟩ := Option.map_eq_some_iff.mp h
      simpa using ixOf_get h'
def visB (sc : Scope) (x : Str) : Bool := match sc.names.lookup x with
  | some .local => true
  | some .cell => true
  | some .free => true
  | _ => false
def glB (sc : Scope) (x : Str) : Bool := match sc.names.lookup x with
  | some .globalImplicit => true
  | _ => false
def plainNm (x : Str) : Bool := !(x == ("__debug__" : Str)) && !(x == ("__classdict__" : Str)) && !decide (x = "__name__")
def tyNm (x : Str) : Option String :=
  if x = "int" then some "int" else if x = "bool" then some "bool" else if x = "str" then some "str" else if x = "tuple" then some "tuple" else if x = "list" then some "list" else if x = "dict" then some "dict" else none
def binP : Operator → Option P
  | .Add => some .add
  | .Sub => some .sub
  | .Mult => some .mul
  | .FloorDiv => some .fdiv
  | .Mod => some .mod
  | .Pow => some .pow
  | _ => none
def cmpP : CmpOp → Option P
  | .Eq => some .eq
  | .NotEq => some .ne
  | .Lt => some .lt
  | .LtE => some .le
  | .Gt => some .gt
  | .GtE => some .ge
  | .In => some .isin
  | .NotIn => some .notin
  | _ => none
def mapO {α β : Type} (f : α → Option β) : List α → Option (List β)
  | [] => some []
  | x :: xs => match f x with
    | none => none
    | some y => match mapO f xs with
      | none => none
      | some ys => some (y :: ys)
def isNoneC : Expr → Bool
  | .Constant .none _ _ => true
  | _ => false
def isSliceE : Expr → Bool
  | .Slice _ _ _ _ => true
  | _ => false
def isCallE : Expr → Bool
  | .Call _ _ _ _ => true
  | _ => false
/-- what is built in, of one, of two things -/
def blt1 (x : Str) : Option P :=
  if x = "len" then some .len else if x = "abs" then some .abs else if x = "int" then some .toInt else if x = "tuple" then some .toTup else if x = "list" then some .toList
  else if x = "all" then some .all else if x = "any" then some .any else if x = "sum" then some .sum else if x = "str" then some .toStr
  else if x = "max" then some .maxL else if x = "min" then some .minL else if x = "sorted" then some .sortd else none
def blt2 (x : Str) : Option P := if x = "isinstance" then some .isi else if x = "min" then some .min2 else if x = "max" then some .max2 else none
mutual
/-- targets: names of the frame, tuples of targets -/
def cT (ok : Nat → Bool) (nk : Str → Bool) (N : List Str) : Nat → Expr → Option T
  | 0, _ => none
  | k + 1, e => match e with
    | .Name x _ => (match ixOf x N with
      | some i => if ok i && nk x then some (.nm i) else none
      | none => none)
    | .Tuple es _ _ => (cTs ok nk N k es).map .tp
    | _ => none
def cTs (ok : Nat → Bool) (nk : Str → Bool) (N : List Str) : Nat → List Expr → Option (List T)
  | 0, _ => none
  | _ + 1, [] => some []
  | k + 1, e :: es => match cT ok nk N k e, cTs ok nk N k es with
    | some t, some ts => some (t :: ts)
    | _, _ => none
end
/-- a name of the frame's, or of the block's, own -/
def ownNm (sc : Scope) (x : Str) : Bool := match sc.names.lookup x with
  | some .local => true
  | some .cell => true
  | _ => false
def kwN (kws : List Keyword) : Option (List Str) := mapO (fun k => match k with | ⟨x, _, _⟩ => x) kws
def kwE : List Keyword → List Expr := fun kws => kws.map fun k => match k with | ⟨_, e, _⟩ => e
def kwStar : List Keyword → Bool := fun kws => kws.all fun k => match k with | ⟨_, e, _⟩ => (match e with | .Starred _ _ => false | _ => true)
/-- methods of one thing: an operation -/
def mth1 (m : Str) : Option P := if m = "join" then some .join else if m = "split" then some .split else if m = "startswith" then some .starts else none
def dedM0 (m : Str) : Option M := if m = "pop" then some .pop else if m = "clear" then some .clear else if m = "reverse" then some .reverse else none
def dedM1 (m : Str) : Option M := if m = "append" then some .append else if m = "pop" then some .popAt else none
def dedM2 (m : Str) : Option M := if m = "insert" then some .insert else none
def isM1 : Expr → Bool
  | .UnaryOp .USub (.Constant (.int i) _ _) _ => decide (i = 1)
  | _ => false
def dcOf (g : Cg) (N : List Str) (sc : Scope) : Expr → Option (Str × List (List Nat × PV))
  | .Name x _ => if plainNm x && glB sc x then (g.dcs.lookup x).map fun tb => (x, tb) else none
  | _ => none
def kpOf (g : Cg) (f : Str) (n : Nat) (ks : List Str) : Option (List (Sum Nat PV)) := match g.kps.find? fun p => decide (p.f = f ∧ p.n = n ∧ p.ks = ks) with
  | some p => if permOk p.pm && decide ((n, ks) ≠ (0, [])) then some p.pm else none
  | none => none
def isBlC : Expr → Option Bool
  | .Constant (.bool b) _ _ => some b
  | _ => none
def bndC (f : Expr → Option E) : Option Expr → Option E
  | none => some (.con .non)
  | some e => match f e with
    | some e' => if isAbs e' then none else some e'
    | none => none
def ownOf (N : List Str) (scope : Scope) : Option (List (Str × Nat)) :=
  some ((scope.names.filter fun y => match y.2 with | .local => true | .cell => true | _ => false).filterMap fun y => (ixOf y.1 N).map fun i => (y.1, i))
mutual
def cE (g : Cg) (N : List Str) : Nat → Scope → Expr → Option E
  | 0, _, _ => none
  | k + 1, sc, e => match e with
    | .Constant (.int i) _ _ => some (.con (.int i))
    | .Constant (.bool b) _ _ => some (.con (.bl b))
    | .Constant .none _ _ => some (.con .non)
    | .Constant (.str x) _ _ => some (.con (.str x.cps.toList))
    | .Name x _ => if plainNm x then (match ixOf x N with
        | some i => if visB sc x then some (.var i) else none
        | none => if glB sc x then (match tyNm x with
          | some n => some (.con (.ty n))
          | none => (g.con.lookup x).map .con) else none) else none
    | .BinOp a op b _ => (match binP op, cE g N k sc a, cE g N k sc b with
      | some p, some a', some b' => some (.prim p [a', b'])
      | _, _, _ => none)
    | .UnaryOp .USub a _ => (cE g N k sc a).map fun a' => .prim .neg [a']
    | .UnaryOp .Not a _ => (cE g N k sc a).map .not
    | .BoolOp .And es _ => if es.isEmpty then none else (mapO (cE g N k sc) es).map .and
    | .BoolOp .Or es _ => if es.isEmpty then none else (mapO (cE g N k sc) es).map .or
    | .Compare a [.Is] [b] _ => if isNoneC b then (cE g N k sc a).map fun a' => .prim .isN [a'] else (match isBlC b with
      | some c => (cE g N k sc a).map fun a' => .prim (.isB c) [a']
      | none => none)
    | .Compare a [.IsNot] [b] _ => if isNoneC b then (cE g N k sc a).map fun a' => .prim .notN [a'] else (match isBlC b with
      | some c => (cE g N k sc a).map fun a' => .prim (.notB c) [a']
      | none => none)
    | .Compare a [op] [b] _ => if behindInMarks op b then none else (match cmpP op, cE g N k sc a, cE g N k sc b with
      | some p, some a', some b' => some (.prim p [a', b'])
      | _, _, _ => none)
    | .Compare a [op, op'] [b, c] _ => if lastMarks [op, op'] [b, c] then none else (match cmpP op, cmpP op', cE g N k sc a, cE g N k sc b, cE g N k sc c with
      | some p, some q, some a', some b', some c' => some (.chain p q a' b' c')
      | _, _, _, _, _ => none)
    | .IfExp c a b _ => (match cE g N k sc c, cE g N k sc a, cE g N k sc b with
      | some c', some a', some b' => some (.ite c' a' b')
      | _, _, _ => none)
    | .Tuple es _ _ => (mapO (cE g N k sc) es).map .tup
    | .List es _ => (mapO (cE g N k sc) es).map .list
    | .Subscript a (.Slice lo hi none _) _ => (match cE g N k sc a, bndC (cE g N k sc) lo, bndC (cE g N k sc) hi with
      | some a', some l, some h => some (.slice a' l h)
      | _, _, _ => none)
    | .Subscript a (.Slice none none (some st) _) _ => if isM1 st then (cE g N k sc a).map fun a' => .prim .revs [a'] else none
    | .Subscript a i _ => if isSliceE i then none else (match dcOf g N sc a with
      | some q => (cE g N k sc i).map fun i' => .didx q.1 q.2 i'
      | none => match cE g N k sc a, cE g N k sc i with
        | some a', some i' => some (.prim .idx [a', i'])
        | _, _ => none)
    | .Call (.Name f _) args [] _ => if plainNm f then (match mapO (cE g N k sc) args with
        | none => none
        | some as => if glB sc f then (if f ∈ g.fns then some (.call f as) else (match as with
          | [a] => (blt1 f).map fun p => .prim p [a]
          | [a, b] => (blt2 f).map fun p => .prim p [a, b]
          | _ => none)) else (match ixOf f N with
            | some i => if visB sc f && g.hds.all (fun f => g.fns.contains f) then some (.callL i g.hds as) else none
            | none => none)) else none
    | .Call (.Name f _) args kws _ => if plainNm f && glB sc f && decide (f ∈ g.fns) && kwStar kws then (match mapO (cE g N k sc) args, mapO (cE g N k sc) (kwE kws), kwN kws with
        | some as, some bs, some ks => (match kpOf g f args.length ks with
          | some pm => some (.callK f (as ++ bs) pm)
          | none => none)
        | _, _, _ => none) else none
    | .Call (.Attribute o m apos) args [] cpos => if (apos.endLine == cpos.line) && !isCallE o then (match cE g N k sc o, mapO (cE g N k sc) args with
      | some o', some as => (match as with
        | [a] => (match dedM1 m with
          | some d => some (.mut d o' [a])
          | none => (mth1 m).map fun p => .sm p o' a)
        | [] => (dedM0 m).map fun d => .mut d o' []
        | [a, b] => (dedM2 m).map fun d => .mut d o' [a, b]
        | _ => none)
      | _, _ => none) else none
    | .ListComp elt [⟨t, it, ifs, 0⟩] scope _ => (match ownOf N scope with
      | some own => if L2.blkC N sc scope own then
          (match cI g N k sc t it, cT (fun i => decide (i ∈ own.map (·.2))) (ownNm scope) N k t, mapO (cE g N k (L2.relS scope sc)) ifs, cE g N k (L2.relS scope sc) elt with
          | some it', some t', some cs, some e' => if cs.length ≤ 1 then some (.lc e' t' it' cs (own.map (·.2))) else none
          | _, _, _, _ => none) else none
      | none => none)
    | _ => none
def cI (g : Cg) (N : List Str) : Nat → Scope → Expr → Expr → Option I
  | 0, _, _, _ => none
  | k + 1, sc, t, e => match e with
    | .Call (.Name f _) args [] _ => if plainNm f && glB sc f && !decide (f ∈ g.fns) && (f = "range" || f = "enumerate" || f = "zip" || f = "reversed") then
        (match mapO (cE g N k sc) args with
        | none => none
        | some as => if f = "range" then (match as with
            | [_] => some (.range as)
            | [_, _] => some (.range as)
            | _ => none)
          else if f = "enumerate" then (match t, as with
            | .Tuple _ _ _, [a] => some (.enum a)
            | _, _ => none)
          else if f = "zip" then (match t, as with
            | .Tuple _ _ _, [a, b] => some (.zip a b)
            | _, _ => none)
          else (match as with
            | [a] => some (.rev a)
            | _ => none))
      else (cE g N k sc e).map .of
    | .Set _ _ _ => none
    | e => (cE g N k sc e).map .of
end

/-! ### readings -/
/-- an exception in the air -/
def ExnR (K : PySem.W.Frag) (mg : Str → Option Value) (G : Gh) (H : Hp) (x : PV) (C : Value) (d : Option Addr) : Prop := False
section
variable (K : PySem.W.Frag) (mg : Str → Option Value) (cf : CF) (Ex : L2.WX)
def xcP (x : PV) (s' : SS) (G : Gh) (σ : L2.St) (H : Hp) : Prop := ∀ G' H' C d, Rel K mg G' s' σ H' → Step G H G' H' → ExnR K mg G' H' x C d → Ex C d σ H'
def tE (e : E) : L2.TE := fun σ H Q => ∃ G s, Rel K mg G s σ H ∧
  ((∃ r s', evalE cf e s = .ok r s' ∧ ∀ G' H' x, Rel K mg G' s' σ H' → Step G H G' H' → RVR K mg G G' H' σ r x → Q x H') ∨ (∃ x s', evalE cf e s = .exc x s' ∧ xcP K mg Ex x s' G σ H))
def tA (es : List E) : L2.TA := fun σ H Q => ∃ G s, Rel K mg G s σ H ∧
  ((∃ rs s', evalEs cf es s = .ok rs s' ∧ ∀ G' H' xs, Rel K mg G' s' σ H' → Step G H G' H' → RVRs K mg G G' H' σ rs xs → Q xs H') ∨ (∃ x s', evalEs cf es s = .exc x s' ∧ xcP K mg Ex x s' G σ H))
def tT (e : E) : L2.TT := fun σ H Q => ∃ G s, Rel K mg G s σ H ∧
  ((∃ r b s', evalE cf e s = .ok r s' ∧ testR s' r = some b ∧ ∀ G' H', Rel K mg G' s' σ H' → Step G H G' H' → Q b H') ∨ (∃ x s', evalE cf e s = .exc x s' ∧ xcP K mg Ex x s' G σ H))
/-- an iterator walks these -/
def Walks (J : L2.It) (G : Gh) (H : Hp) (xs : List PV) : Prop := ∀ (i : Nat) G' H', Step G H G' H' → (∀ a, G' a ≠ .free → H' a ≠ none) →
  (∀ v, xs[i]? = some v → J.go i H' ∧ ∀ x H'', J.yld i H' x H'' → ∃ G'', Same G' H' G'' H'' ∧ PVR K mg G'' H'' v x) ∧ (i = xs.length → J.stop i H')
def tI (it : I) : L2.TI := fun σ H R => ∃ G s, Rel K mg G s σ H ∧
  ((∃ xs s', evalI cf it s = .ok xs s' ∧ ∀ G' H' J, Rel K mg G' s' σ H' → Step G H G' H' → Walks K mg J G' H' xs → R J H') ∨ (∃ x s', evalI cf it s = .exc x s' ∧ xcP K mg Ex x s' G σ H))
end

section
variable {K : PySem.W.Frag} {mg : Str → Option Value} {cf : CF} {Ex : L2.WX}
theorem xcP.step {x : PV} {s' : SS} {G G1 : Gh} {σ : L2.St} {H H1 : Hp} (h : xcP K mg Ex x s' G σ H) (st : Step G H G1 H1) : xcP K mg Ex x s' G1 σ H1 := fun G' H' C d R s q => h G' H' C d R (st.trans s) q
theorem tA_nil {σ : L2.St} {H : Hp} {Q : List V → Hp → Prop} (h : tA K mg cf Ex [] σ H Q) : Q [] H := by
  obtain ⟨G, s, R, h⟩ := h
  simp only [evalEs] at h
  rcases h with ⟨rs, s', e, h⟩ | ⟨x, s', e, _⟩
  · cases e
    exact h G H [] R .refl .nil
  · cases e
theorem tA_cons {e : E} {es : List E} {σ : L2.St} {H : Hp} {Q : List V → Hp → Prop} (h : tA K mg cf Ex (e :: es) σ H Q) : tE K mg cf Ex e σ H fun x H1 => tA K mg cf Ex es σ H1 fun xs H2 => Q (x :: xs) H2 := by
  obtain ⟨G, s, R, h⟩ := h
  simp only [evalEs] at h
  refine ⟨G, s, R, ?_⟩
  cases e1 : evalE cf e s with
  | bad => rw [e1] at h; rcases h with ⟨_, _, z, _⟩ | ⟨_, _, z, _⟩ <;> cases z
  | exc x s1 =>
    rw [e1] at h
    rcases h with ⟨_, _, z, _⟩ | ⟨_, _, z, h⟩
    · cases z
    · cases z
      exact .inr ⟨_, _, rfl, h⟩
  | ok r s1 =>
    rw [e1] at h
    simp only [Res.bind] at h
    refine .inl ⟨r, s1, rfl, fun G1 H1 x R1 st1 rv => ⟨G1, s1, R1, ?_⟩⟩
    cases e2 : evalEs cf es s1 with
    | bad => rw [e2] at h; rcases h with ⟨_, _, z, _⟩ | ⟨_, _, z, _⟩ <;> cases z
    | exc y s2 =>
      rw [e2] at h
      rcases h with ⟨_, _, z, _⟩ | ⟨_, _, z, h⟩
      · cases z
      · cases z
        exact .inr ⟨_, _, rfl, h.step st1⟩
    | ok rs s2 =>
      rw [e2] at h
      rcases h with ⟨_, _, z, h⟩ | ⟨_, _, z, _⟩
      · cases z
        exact .inl ⟨rs, s2, rfl, fun G2 H2 xs R2 st2 rvs => h G2 H2 _ R2 (st1.trans st2) (RVRs.push st1 rv st2 rvs)⟩
      · cases z
/-- an operation: its things, then what it does to their contents -/
theorem tE_prim {p : P} {es : List E} {σ : L2.St} {H : Hp} {Q : L2.VK} (h : tE K mg cf Ex (.prim p es) σ H Q) :
    tA K mg cf Ex es σ H fun xs H1 => ∃ G cs r, CnRs K mg G H1 cs xs ∧ primSem p cs = some r ∧ ∀ z H', Out K mg G H1 r z H' → Q z H' := by
  obtain ⟨G, s, R, h⟩ := h
  simp only [evalE] at h
  refine ⟨G, s, R, ?_⟩
  cases e1 : evalEs cf es s with
  | bad => rw [e1] at h; rcases h with ⟨_, _, z, _⟩ | ⟨_, _, z, _⟩ <;> cases z
  | exc x s1 =>
    rw [e1] at h
    rcases h with ⟨_, _, z, _⟩ | ⟨_, _, z, h⟩
    · cases z
    · cases z
      exact .inr ⟨_, _, rfl, h⟩
  | ok rs s1 =>
    rw [e1] at h
    simp only [Res.bind] at h
    refine .inl ⟨rs, s1, rfl, fun G1 H1 xs R1 st1 rv => ?_⟩
    cases e2 : conts s1 rs with
    | none => rw [e2] at h; rcases h with ⟨_, _, z, _⟩ | ⟨_, _, z, _⟩ <;> cases z
    | some cs =>
      rw [e2] at h
      simp only at h
      cases e3 : primSem p cs with
      | none => rw [e3] at h; rcases h with ⟨_, _, z, _⟩ | ⟨_, _, z, _⟩ <;> cases z
      | some r =>
        rw [e3] at h
        rcases h with ⟨_, _, z, h⟩ | ⟨_, _, z, _⟩
        · cases z
          refine ⟨G1, cs, r, conts_ok R1 rv e2, e3, fun z H' o => ?_⟩
          obtain ⟨G2, R2, st2, rv2⟩ := o.rel R1
          exact h G2 H' z R2 (st1.trans st2) (rv2.back st1)
        · cases z
theorem tE_mono {e : E} {σ : L2.St} {H : Hp} {Q Q' : L2.VK} (h : tE K mg cf Ex e σ H Q) (q : ∀ x H, Q x H → Q' x H) : tE K mg cf Ex e σ H Q' := by
  obtain ⟨G, s, R, h⟩ := h
  refine ⟨G, s, R, ?_⟩
  rcases h with ⟨r, s', e, h⟩ | h
  · exact .inl ⟨r, s', e, fun G' H' x R' st rv => q _ _ (h G' H' x R' st rv)⟩
  · exact .inr h
theorem tA_mono {e : List E} {σ : L2.St} {H : Hp} {Q Q' : List V → Hp → Prop} (h : tA K mg cf Ex e σ H Q) (q : ∀ x H, Q x H → Q' x H) : tA K mg cf Ex e σ H Q' := by
  obtain ⟨G, s, R, h⟩ := h
  refine ⟨G, s, R, ?_⟩
  rcases h with ⟨r, s', e, h⟩ | h
  · exact .inl ⟨r, s', e, fun G' H' x R' st rv => q _ _ (h G' H' x R' st rv)⟩
  · exact .inr h
theorem tA_one {a : E} {σ : L2.St} {H : Hp} {Q : List V → Hp → Prop} (h : tA K mg cf Ex [a] σ H Q) : tE K mg cf Ex a σ H fun x H1 => Q [x] H1 :=
  tE_mono (tA_cons h) fun _ _ h => tA_nil h
theorem tA_two {a b : E} {σ : L2.St} {H : Hp} {Q : List V → Hp → Prop} (h : tA K mg cf Ex [a, b] σ H Q) : tE K mg cf Ex a σ H fun x H1 => tE K mg cf Ex b σ H1 fun y H2 => Q [x, y] H2 :=
  tE_mono (tA_cons h) fun _ _ h => tA_one h
theorem tE_prim1 {p : P} {a : E} {f : PV → Option RV} (hp : ∀ c, primSem p [c] = f c) {σ : L2.St} {H : Hp} {Q : L2.VK} (h : tE K mg cf Ex (.prim p [a]) σ H Q) : tE K mg cf Ex a σ H fun x H1 => rP1 K mg f x H1 Q := by
  refine tE_mono (tA_one (tE_prim h)) fun x H1 ⟨G, cs, r, hc, e, q⟩ => ?_
  cases hc with
  | cons h1 t =>
    cases t
    exact ⟨G, _, r, h1, (hp _).symm.trans e, q⟩
theorem tE_prim2 {p : P} {a b : E} {f : PV → PV → Option RV} (hp : ∀ c d, primSem p [c, d] = f c d) {σ : L2.St} {H : Hp} {Q : L2.VK} (h : tE K mg cf Ex (.prim p [a, b]) σ H Q) : L2.tOp (rP2 K mg f) (tE K mg cf Ex a) (tE K mg cf Ex b) σ H Q := by
  refine tE_mono (tA_two (tE_prim h)) fun x H1 h => tE_mono h fun y H2 ⟨G, cs, r, hc, e, q⟩ => ?_
  cases hc with
  | cons h1 t =>
    cases t with
    | cons h2 t =>
      cases t
      exact ⟨G, _, _, r, h1, h2, (hp _ _).symm.trans e, q⟩
/-- the value of a test -/
theorem tE_of_tT {e : E} {σ : L2.St} {H : Hp} {Q : Bool → Hp → Prop} (h : tT K mg cf Ex e σ H Q) : tE K mg cf Ex e σ H fun x H1 => ∃ c, x = .bl c ∧ Q c H1 := by
  obtain ⟨G, s, R, h⟩ := h
  refine ⟨G, s, R, ?_⟩
  rcases h with ⟨r, b, s', e1, e2, h⟩ | h
  · refine .inl ⟨r, s', e1, fun G' H' x R' st rv => ?_⟩
    unfold testR at e2
    split at e2
    · rename_i c ec
      cases e2
      have hc := cont_ok R' rv ec
      exact ⟨b, hc.bl, h G' H' R' st⟩
    · cases e2
  · exact .inr h
theorem PE.imp {X : L2.Cx} {e : Expr} {t t' : L2.TE} (h : PE X e t) (i : ∀ σ H Q, t' σ H Q → t σ H Q) : PE X e t' := ⟨fun pins s σ H Q I q => h.run pins s σ H Q I (i σ H Q q)⟩
theorem PT.imp {X : L2.Cx} {e : Expr} {t t' : L2.TT} (h : PT X e t) (i : ∀ σ H Q, t' σ H Q → t σ H Q) : PT X e t' := ⟨fun pins s σ H Q I q => h.run pins s σ H Q I (i σ H Q q)⟩
theorem PW.imp {X : L2.Cx} {e : Expr} {t t' : L2.TT} (h : PW X e t) (i : ∀ σ H Q, t' σ H Q → t σ H Q) : PW X e t' := ⟨fun w pins s σ H Q I q => h.run w pins s σ H Q I (i σ H Q q)⟩
theorem PA.imp {X : L2.Cx} {e : List Expr} {t t' : L2.TA} (h : PA X e t) (i : ∀ σ H Q, t' σ H Q → t σ H Q) : PA X e t' := ⟨fun p pins s σ H Q I q => h.run p pins s σ H Q I (i σ H Q q)⟩
theorem PI.imp {X : L2.Cx} {tg e : Expr} {t t' : L2.TI} (h : PI X tg e t) (i : ∀ σ H Q, t' σ H Q → t σ H Q) : PI X tg e t' := ⟨fun pins s σ H Q I q => h.run pins s σ H Q I (i σ H Q q)⟩
end

/-! ### a def's promise -/
def spF (K : PySem.W.Frag) (mg : Str → Option Value) (cf : CF) (f : Str) : L2.Sp := fun vs H Q E => ∃ G as sto, Rel K mg G ⟨as, sto⟩ (vs.map some) H ∧
  ((∃ r fin sto', cf f as sto = .ok r fin sto' ∧ ∀ G' H' x, Rel K mg G' ⟨fin, sto'⟩ (vs.map some) H' → Step G H G' H' → RVR K mg G G' H' [] r x → Q x H') ∨
   (∃ e fin sto', cf f as sto = .exc e fin sto' ∧ ∀ G' H' C d, Rel K mg G' ⟨fin, sto'⟩ (vs.map some) H' → Step G H G' H' → ExnR K mg G' H' e C d → E C d H'))
def bnames : List Str := ["len", "abs", "int", "tuple", "list", "all", "any", "sum", "isinstance", "min", "max", "range", "enumerate", "zip", "reversed", "bool", "str", "dict", "sorted", "set"]
/-- what the params get -/
def PmRel (K : PySem.W.Frag) (mg : Str → Option Value) (pm : List (Sum Nat PV)) (xs ys : List V) : Prop := ys.length = pm.length ∧ ∀ (j : Nat) (c : Sum Nat PV), pm[j]? = some c → match c with
  | Sum.inl i => ys[j]? = xs[i]?
  | Sum.inr v => ∃ y, ys[j]? = some y ∧ ∀ G H, PVR K mg G H v y
def KwB (K : PySem.W.Frag) (mg : Str → Option Value) (fd : FuncData) (ps : List Str) (p : KP) : Prop := ∃ g gV, L2.KBn K fd ps p.n p.ks g gV ∧ ∀ vs zs : List V, vs.length = p.n → zs.length = p.ks.length → PmRel K mg p.pm (vs ++ zs) (gV vs zs)
/-- a dict of the module -/
def DcOk (K : PySem.W.Frag) (w : World) (mg : Str → Option Value) (q : Str × List (List Nat × PV)) : Prop := ∃ a es n, mg q.1 = some (.ref a) ∧ L2.KDict K w a es n ∧ ∀ z v, q.2.lookup z = some v → ∃ u V, PySem.W.nsIn K a ⟨z.toArray⟩ = some (some u) ∧ L2.RelV V u ∧ ∀ G H, PVR K mg G H v V
/-- what a context must bear -/
structure XO (X : L2.Cx) (g : Cg) (cf : CF) (Ex : L2.WX) : Prop where
  calm : X.calm = true
  nd : X.N.Nodup
  room : L2.Room 0 X.A
  bn : ∀ b ∈ bnames, X.mg b = none
  con : ∀ x v, g.con.lookup x = some v → ∃ u V, X.mg x = some u ∧ L2.RelV V u ∧ ∀ G H, PVR X.K X.mg G H v V
  fns : ∀ f ∈ g.fns, ∃ (k : Nat) (a : Addr) (fd : FuncData) (ps : List Str), L2.FnOk X.prog X.w X.K X.mg X.base (L2.CX X.prog X.w) k a fd ps (spF X.K X.mg cf f) ∧ L2.Room k X.A ∧ X.mg f = some (.ref a) ∧ PySem.W.keepIn X.K (.ref a) = true ∧ L2.Binds X.K fd ps [] ∧ ∀ p ∈ g.kps, p.f = f → KwB X.K X.mg fd ps p
  dcs : ∀ x tb, g.dcs.lookup x = some tb → DcOk X.K X.w X.mg (x, tb)
  pass : ∀ σ, L2.PassesAt (L2.CX X.prog X.w) X σ (fun c d H => Ex c d σ H)
abbrev noEx : L2.WX := fun _ _ _ _ => False
theorem no_pass {X : L2.Cx} (σ : L2.St) : L2.PassesAt (L2.CX X.prog X.w) X σ (fun _ _ _ => False) := fun _ _ _ _ _ _ ⟨_, _, _, _, _, _, _, _, _, _, _, _, z⟩ => z.elim
theorem XO.blk {X : L2.Cx} {g : Cg} {cf : CF} {Ex : L2.WX} (o : XO X g cf Ex) (s : Shared) (H : Hp) (scope : Scope) (cenv : Env) (fp : List Addr) : XO (X.blk s H scope cenv fp) g cf noEx :=
  ⟨o.calm, o.nd, o.room, o.bn, o.con, o.fns, o.dcs, no_pass⟩

/-! ### a call by contents -/
def isOwn : Option Sl → Bool
  | some (.own _) => true
  | _ => false
/-- which argument lies at a, lent or given away -/
def argIx (as : List Sl) (xs : List V) (a : Addr) : Option Nat := (List.range as.length).find? fun j => isOwn as[j]? && decide (xs[j]? = some (.ref a))
theorem argIx_some {as : List Sl} {xs : List V} {a : Addr} {j : Nat} (h : argIx as xs a = some j) : (∃ o, as[j]? = some (.own o)) ∧ xs[j]? = some (.ref a) := by
  have h1 := List.find?_some h
  rw [Bool.and_eq_true, decide_eq_true_eq] at h1
  refine ⟨?_, h1.2⟩
  have h2 := h1.1
  unfold isOwn at h2
  split at h2
  · rename_i o e; exact ⟨o, e⟩
  · cases h2
theorem argIx_none {as : List Sl} {xs : List V} {a : Addr} (h : argIx as xs a = none) {j : Nat} {o : PV} (h1 : as[j]? = some (.own o)) : xs[j]? ≠ some (.ref a) := fun e => by
  have hj : j < as.length := (List.getElem?_eq_some_iff.mp h1).1
  have := List.find?_eq_none.mp h j (List.mem_range.mpr hj)
  apply this
  rw [h1, e]
  simp [isOwn]
theorem argIx_uniq {as : List Sl} {xs : List V} {a : Addr} {j : Nat} {o : PV} (u : ∀ (i j : Nat) o o' a, as[i]? = some (.own o) → as[j]? = some (.own o') → xs[i]? = some (.ref a) → xs[j]? = some (V.ref a) → i = j)
    (h1 : as[j]? = some (.own o)) (h2 : xs[j]? = some (.ref a)) : argIx as xs a = some j := by
  cases e : argIx as xs a with
  | none => exact absurd h2 (argIx_none e h1)
  | some i =>
    obtain ⟨⟨o', h3⟩, h4⟩ := argIx_some e
    rw [u i j o' o a h3 h1 h4 h2]
/-- what argsOf hands on -/
def ArgIs (s : SS) : RV → Sl → Prop
  | .sh v, a => a = .val v
  | .fr o, a => a = .own o
  | .hd i, a => s.env[i]? = some a ∧ a ≠ .un
theorem argOf_is {s : SS} {l l' : List Nat} {r : RV} {a : Sl} (h : argOf s l r = some (a, l')) : ArgIs s r a ∧ (∀ i, i ∈ l → i ∈ l') ∧ (∀ i o, r = .hd i → a = .own o → i ∉ l ∧ i ∈ l') := by
  cases r with
  | sh v => simp only [argOf, Option.some.injEq, Prod.mk.injEq] at h; obtain ⟨rfl, rfl⟩ := h; exact ⟨rfl, fun _ z => z, fun _ _ z => nomatch z⟩
  | fr v => simp only [argOf, Option.some.injEq, Prod.mk.injEq] at h; obtain ⟨rfl, rfl⟩ := h; exact ⟨rfl, fun _ z => z, fun _ _ z => nomatch z⟩
  | hd i =>
    simp only [argOf] at h
    cases e : s.env[i]? with
    | none => rw [e] at h; cases h
    | some x =>
      rw [e] at h
      cases x with
      | un => cases h
      | val v => simp only [Option.some.injEq, Prod.mk.injEq] at h; obtain ⟨rfl, rfl⟩ := h; exact ⟨⟨e, fun z => nomatch z⟩, fun _ z => z, fun _ _ _ z => nomatch z⟩
      | own o =>
        simp only at h
        split at h
        · cases h
        · rename_i hn
          simp only [Option.some.injEq, Prod.mk.injEq] at h
          obtain ⟨rfl, rfl⟩ := h
          refine ⟨⟨e, fun z => nomatch z⟩, fun _ z => List.mem_cons_of_mem _ z, fun j o' z _ => ?_⟩
          cases z
          exact ⟨hn, List.mem_cons_self ..⟩
theorem argsOf_is {s : SS} : ∀ {rs : List RV} {l : List Nat} {as : List Sl}, argsOf s l rs = some as →
    as.length = rs.length ∧ (∀ (j : Nat) r, rs[j]? = some r → ∃ a, as[j]? = some a ∧ ArgIs s r a) ∧
    (∀ (j : Nat) i o, rs[j]? = some (.hd i) → as[j]? = some (.own o) → i ∉ l) ∧
    (∀ (j j' : Nat) i o o', rs[j]? = some (.hd i) → rs[j']? = some (.hd i) → as[j]? = some (.own o) → as[j']? = some (.own o') → j = j')
  | [], l, as, h => by
    simp only [argsOf, Option.some.injEq] at h
    subst h
    exact ⟨rfl, fun _ _ z => by simp at z, fun _ _ _ z => by simp at z, fun _ _ _ _ _ z => by simp at z⟩
  | r :: rs, l, as, h => by
    simp only [argsOf] at h
    cases e1 : argOf s l r with
    | none => rw [e1] at h; cases h
    | some p =>
      obtain ⟨a, l'⟩ := p
      rw [e1] at h
      simp only at h
      cases e2 : argsOf s l' rs with
      | none => rw [e2] at h; cases h
      | some as' =>
        rw [e2] at h
        cases h
        obtain ⟨h1, h2, h3⟩ := argOf_is e1
        obtain ⟨g1, g2, g3, g4⟩ := argsOf_is e2
        refine ⟨by simp [g1], fun j r' z => ?_, fun j i o z1 z2 => ?_, fun j j' i o o' z1 z2 z3 z4 => ?_⟩
        · cases j with
          | zero => simp at z; subst z; exact ⟨a, rfl, h1⟩
          | succ j => simpa using g2 j r' (by simpa using z)
        · cases j with
          | zero => simp at z1 z2; exact (h3 i o z1 z2).1
          | succ j => exact fun q => g3 j i o (by simpa using z1) (by simpa using z2) (h2 i q)
        · cases j with
          | zero =>
            cases j' with
            | zero => rfl
            | succ j' =>
              simp at z1 z3
              exact absurd (h3 i o z1 z3).2 (g3 j' i o' (by simpa using z2) (by simpa using z4))
          | succ j =>
            cases j' with
            | zero =>
              simp at z2 z4
              exact absurd (h3 i o' z2 z4).2 (g3 j i o (by simpa using z1) (by simpa using z3))
            | succ j' => exact congrArg Nat.succ (g4 j j' i o o' (by simpa using z1) (by simpa using z2) (by simpa using z3) (by simpa using z4))
/-- what comes back to the slots -/
theorem backE_len : ∀ {rs : List RV} {env as fin : List Sl}, (backE env rs as fin).length = env.length
  | [], env, as, fin => by simp only [backE]
  | r :: rs, env, [], fin => by simp only [backE]
  | r :: rs, env, a :: as, [] => by simp only [backE]
  | r :: rs, env, a :: as, f :: fs => by
    simp only [backE]
    split
    · rw [backE_len, List.length_set]
    · exact backE_len
theorem backE_get : ∀ {rs : List RV} {env as fin : List Sl} {i : Nat} {x : Sl}, as.length = rs.length → fin.length = rs.length → (backE env rs as fin)[i]? = some x →
    (∃ (j : Nat) (o : PV), rs[j]? = some (.hd i) ∧ as[j]? = some (.own o) ∧ fin[j]? = some x) ∨ ((∀ (j : Nat) (o : PV), rs[j]? = some (.hd i) → as[j]? ≠ some (.own o)) ∧ env[i]? = some x)
  | [], env, as, fin, i, x, _, _, h => by
    simp only [backE] at h
    exact .inr ⟨fun j _ z => by simp at z, h⟩
  | r :: rs, env, [], fin, i, x, h1, _, h => by simp at h1
  | r :: rs, env, a :: as, [], i, x, _, h2, h => by simp at h2
  | r :: rs, env, a :: as, f :: fs, i, x, h1, h2, h => by
    simp only [backE] at h
    have l1 : as.length = rs.length := by simpa using h1
    have l2 : fs.length = rs.length := by simpa using h2
    split at h
    · rename_i k o
      rcases backE_get l1 l2 h with ⟨j, o', g1, g2, g3⟩ | ⟨g1, g2⟩
      · exact .inl ⟨j + 1, o', by simpa using g1, by simpa using g2, by simpa using g3⟩
      · by_cases hk : i = k
        · subst hk
          by_cases hl : i < env.length
          · rw [List.getElem?_set_self hl] at g2
            exact .inl ⟨0, o, rfl, rfl, by simpa using g2⟩
          · rw [List.getElem?_eq_none (by simpa using hl)] at g2
            cases g2
        · rw [List.getElem?_set_ne (fun z => hk z.symm)] at g2
          refine .inr ⟨fun j o' z => ?_, g2⟩
          cases j with
          | zero => simp at z; exact absurd z.symm hk
          | succ j => simpa using g1 j o' (by simpa using z)
    · rename_i hno
      rcases backE_get l1 l2 h with ⟨j, o', g1, g2, g3⟩ | ⟨g1, g2⟩
      · exact .inl ⟨j + 1, o', by simpa using g1, by simpa using g2, by simpa using g3⟩
      · refine .inr ⟨fun j o' z => ?_, g2⟩
        cases j with
        | zero =>
          simp at z
          intro q
          simp at q
          exact hno i o' z q
        | succ j => simpa using g1 j o' (by simpa using z)

section
variable {K : PySem.W.Frag} {mg : Str → Option Value}
theorem own_arg {G0 G : Gh} {s : SS} {σ : L2.St} {H : Hp} {rs : List RV} {xs : List V} {as : List Sl} (R : Rel K mg G s σ H) (rv : RVRs K mg G0 G H σ rs xs) (ha : argsOf s [] rs = some as) {j : Nat} {o : PV} (h : as[j]? = some (.own o)) :
    ∃ a, xs[j]? = some (.ref a) ∧ ObR K mg G H a o ∧ ((rs[j]? = some (.fr o) ∧ G a = .hold ∧ G0 a ≠ .hold) ∨ ∃ i, rs[j]? = some (.hd i) ∧ s.env[i]? = some (.own o) ∧ σ[i]? = some (some (.ref a)) ∧ G a = .slot i) := by
  obtain ⟨h1, h2, _, _⟩ := argsOf_is ha
  have hj : j < rs.length := by rw [← h1]; exact (List.getElem?_eq_some_iff.mp h).1
  obtain ⟨r, hr⟩ : ∃ r, rs[j]? = some r := ⟨rs[j], by simp [hj]⟩
  obtain ⟨a', e1, ai⟩ := h2 j r hr
  rw [h] at e1
  cases e1
  obtain ⟨x, ex, rx⟩ := rv.get hr
  cases r with
  | sh v => cases ai
  | fr o' =>
    cases ai
    obtain ⟨a, rfl, g, n, ob⟩ := rx
    exact ⟨a, ex, ob, .inl ⟨hr, g, n⟩⟩
  | hd i =>
    obtain ⟨ei, _⟩ := ai
    obtain ⟨a, e2, g, ob⟩ := R.own ei
    have hx : σ[i]? = some (some x) := rx
    rw [e2] at hx
    cases hx
    exact ⟨a, ex, ob, .inr ⟨i, hr, ei, e2, g⟩⟩
theorem RVRs.frU {G0 G : Gh} {σ : L2.St} {H : Hp} : ∀ {rs : List RV} {xs : List V}, RVRs K mg G0 G H σ rs xs → ∀ (i j : Nat) o o' x, rs[i]? = some (.fr o) → rs[j]? = some (.fr o') → xs[i]? = some x → xs[j]? = some x → i = j
  | _, _, .nil, i, j, o, o', x, h, _, _, _ => by simp at h
  | _, _, .cons h d t, i, j, o, o', x, h1, h2, h3, h4 => by
    cases i with
    | zero =>
      cases j with
      | zero => rfl
      | succ j =>
        simp at h1 h3
        subst h3
        exact absurd (by simpa using h4) (d o h1 o' j (by simpa using h2))
    | succ i =>
      cases j with
      | zero =>
        simp at h2 h4
        subst h4
        exact absurd (by simpa using h3) (d o' h2 o i (by simpa using h1))
      | succ j => exact congrArg Nat.succ (RVRs.frU t i j o o' x (by simpa using h1) (by simpa using h2) (by simpa using h3) (by simpa using h4))
theorem args_uniq {G0 G : Gh} {s : SS} {σ : L2.St} {H : Hp} {rs : List RV} {xs : List V} {as : List Sl} (R : Rel K mg G s σ H) (rv : RVRs K mg G0 G H σ rs xs) (ha : argsOf s [] rs = some as) :
    ∀ (i j : Nat) o o' a, as[i]? = some (.own o) → as[j]? = some (.own o') → xs[i]? = some (.ref a) → xs[j]? = some (V.ref a) → i = j := by
  intro i j o o' a h1 h2 h3 h4
  obtain ⟨b, e1, _, q1⟩ := own_arg R rv ha h1
  obtain ⟨c, e2, _, q2⟩ := own_arg R rv ha h2
  rw [h3] at e1; cases e1
  rw [h4] at e2; cases e2
  rcases q1 with ⟨r1, g1, _⟩ | ⟨k, r1, en1, _, g1⟩
  · rcases q2 with ⟨r2, g2, _⟩ | ⟨k2, r2, en2, _, g2⟩
    · exact rv.frU i j o o' _ r1 r2 h3 h4
    · rw [g1] at g2; cases g2
  · rcases q2 with ⟨r2, g2, _⟩ | ⟨k2, r2, en2, _, g2⟩
    · rw [g1] at g2; cases g2
    · rw [g1] at g2
      cases g2
      exact (argsOf_is ha).2.2.2 i j k o o' r1 r2 h1 h2
def gIn (G : Gh) (as : List Sl) (xs : List V) : Gh := fun a => match argIx as xs a with
  | some j => .slot j
  | none => match G a with
    | .slot _ => .hold
    | t => t
def dropT : Tag → Tag
  | .slot _ => .free
  | t => t
def gOut (G G2 : Gh) (rs : List RV) (as fin : List Sl) (xs : List V) : Gh := fun a => match argIx as xs a with
  | some j => (match rs[j]?, fin[j]? with
    | some (.hd i), some (.own _) => .slot i
    | _, _ => dropT (G2 a))
  | none => (match G a with
    | .slot i => .slot i
    | _ => dropT (G2 a))
theorem gIn_some {G : Gh} {as : List Sl} {xs : List V} {a : Addr} {j : Nat} (h : argIx as xs a = some j) : gIn G as xs a = .slot j := by unfold gIn; rw [h]
theorem gIn_none {G : Gh} {as : List Sl} {xs : List V} {a : Addr} (h : argIx as xs a = none) : gIn G as xs a = match G a with | .slot _ => .hold | t => t := by unfold gIn; rw [h]
section
variable {G0 G : Gh} {s : SS} {σ : L2.St} {H0 H : Hp} {rs : List RV} {xs : List V} {as : List Sl} (R : Rel K mg G s σ H) (rv : RVRs K mg G0 G H σ rs xs) (ha : argsOf s [] rs = some as)
include R rv ha
theorem arg_tag {a : Addr} {j : Nat} (h : argIx as xs a = some j) : G a = .hold ∧ G0 a ≠ .hold ∨ ∃ i, G a = .slot i := by
  obtain ⟨⟨o, h1⟩, h2⟩ := argIx_some h
  obtain ⟨b, e1, _, q⟩ := own_arg R rv ha h1
  rw [h2] at e1; cases e1
  rcases q with ⟨_, g, n⟩ | ⟨i, _, _, _, g⟩
  · exact .inl ⟨g, n⟩
  · exact .inr ⟨i, g⟩
theorem arg_none {a : Addr} (h1 : G a ≠ .hold) (h2 : ∀ i, G a ≠ .slot i) : argIx as xs a = none := by
  cases e : argIx as xs a with
  | none => rfl
  | some j =>
    rcases arg_tag R rv ha e with ⟨g, _⟩ | ⟨i, g⟩
    · exact absurd g h1
    · exact absurd g (h2 i)
theorem in_mono : Mono G H (gIn G as xs) H := by
  refine ⟨fun a e => ⟨?_, rfl⟩, fun a l e => ?_, fun _ _ e => e, fun _ _ _ e => e⟩
  · rw [gIn_none (arg_none R rv ha (by rw [e]; exact fun z => nomatch z) (fun i => by rw [e]; exact fun z => nomatch z)), e]
  · rw [gIn_none (arg_none R rv ha (by rw [e]; exact fun z => nomatch z) (fun i => by rw [e]; exact fun z => nomatch z)), e]
theorem in_rel : Rel K mg (gIn G as xs) ⟨as, s.sto⟩ (xs.map some) H := by
  obtain ⟨hl, his, _, _⟩ := argsOf_is ha
  have hm := in_mono R rv ha
  have locB : ∀ a l, gIn G as xs a = .loc l → G a = .loc l := fun a l e => by
    cases q : argIx as xs a with
    | some j => rw [gIn_some q] at e; cases e
    | none =>
      rw [gIn_none q] at e
      cases g : G a with
      | slot i => rw [g] at e; cases e
      | _ => rw [g] at e; exact e
  refine ⟨by simp [hl, rv.length], fun j sl e => ?_, fun l so e => ?_, fun a b l h1 h2 => R.uniq a b l (locB a l h1) (locB b l h2), fun a h => ?_, fun a l h => R.lim a l (locB a l h)⟩
  · have hj : j < rs.length := by rw [← hl]; exact (List.getElem?_eq_some_iff.mp e).1
    obtain ⟨r, hr⟩ : ∃ r, rs[j]? = some r := ⟨rs[j], by simp [hj]⟩
    obtain ⟨a', e1, ai⟩ := his j r hr
    have e' : as[j]? = some sl := e
    rw [e'] at e1
    cases e1
    obtain ⟨x, ex, rx⟩ := rv.get hr
    have exj : ((xs.map some)[j]?).join = some x := by rw [List.getElem?_map, ex]; rfl
    cases sl with
    | un => trivial
    | val v =>
      refine ⟨x, exj, ?_⟩
      cases r with
      | sh w => cases ai; exact PVR.step rx hm
      | fr o => cases ai
      | hd i =>
        obtain ⟨ei, _⟩ := ai
        obtain ⟨y, e2, p⟩ := R.val ei
        have hx : σ[i]? = some (some x) := rx
        rw [e2] at hx
        cases hx
        exact p.step hm
    | own o =>
      obtain ⟨b, e2, ob, _⟩ := own_arg R rv ha e'
      rw [ex] at e2
      cases e2
      exact ⟨b, exj, gIn_some (argIx_uniq (args_uniq R rv ha) e' ex), ob.step rfl hm⟩
  · obtain ⟨a, g, h⟩ := R.sto l so e
    exact ⟨a, hm.loc a l g, h.step rfl hm⟩
  · refine R.trk a fun z => h ?_
    rw [gIn_none (arg_none R rv ha (by rw [z]; exact fun z => nomatch z) (fun i => by rw [z]; exact fun z => nomatch z)), z]
variable {G2 : Gh} {H2 : Hp} {fin : List Sl} {sto' : List SO} (R2 : Rel K mg G2 ⟨fin, sto'⟩ (xs.map some) H2) (st2 : Step (gIn G as xs) H G2 H2)
include R2
theorem out_own {a : Addr} {j i : Nat} {o : PV} (q : argIx as xs a = some j) (h1 : rs[j]? = some (.hd i)) (h2 : fin[j]? = some (.own o)) : G2 a = .slot j ∧ ObR K mg G2 H2 a o ∧ gOut G G2 rs as fin xs a = .slot i := by
  obtain ⟨⟨_, _⟩, e⟩ := argIx_some q
  obtain ⟨b, e1, g, ob⟩ := R2.own (i := j) h2
  rw [List.getElem?_map, e] at e1
  cases e1
  refine ⟨g, ob, ?_⟩
  unfold gOut
  rw [q]
  simp only [h1, h2]
theorem out_cases (a : Addr) : (∃ i, gOut G G2 rs as fin xs a = .slot i ∧ ((∃ j, G2 a = .slot j) ∨ (G a = .slot i ∧ argIx as xs a = none))) ∨ gOut G G2 rs as fin xs a = dropT (G2 a) := by
  cases q : argIx as xs a with
  | some j =>
    cases h1 : rs[j]? with
    | none => exact .inr (by unfold gOut; rw [q]; simp only [h1])
    | some r =>
      cases r with
      | hd i =>
        cases h2 : fin[j]? with
        | none => exact .inr (by unfold gOut; rw [q]; simp only [h1, h2])
        | some f =>
          cases f with
          | own o =>
            obtain ⟨g, _, e⟩ := out_own R rv ha R2 q h1 h2
            exact .inl ⟨i, e, .inl ⟨j, g⟩⟩
          | _ => exact .inr (by unfold gOut; rw [q]; simp only [h1, h2])
      | _ => exact .inr (by unfold gOut; rw [q]; simp only [h1])
  | none =>
    cases g : G a with
    | slot i => exact .inl ⟨i, by unfold gOut; rw [q]; simp only [g], .inr ⟨rfl, rfl⟩⟩
    | _ => exact .inr (by unfold gOut; rw [q]; simp only [g])
include st2
theorem slot_held {a : Addr} {i : Nat} (g : G a = .slot i) (q : argIx as xs a = none) : G2 a = .hold ∧ H2 a = H a := st2.hold a (by rw [gIn_none q, g])
theorem out_mono : Mono G2 H2 (gOut G G2 rs as fin xs) H2 := by
  refine ⟨fun a e => ⟨?_, rfl⟩, fun a l e => ?_, fun _ _ e => e, fun _ _ _ e => e⟩
  · rcases out_cases R rv ha R2 a with ⟨i, _, ⟨j, h⟩ | ⟨g, q⟩⟩ | h
    · rw [e] at h; cases h
    · rw [(slot_held R rv ha R2 st2 g q).1] at e; cases e
    · rw [h, e]; rfl
  · rcases out_cases R rv ha R2 a with ⟨i, _, ⟨j, h⟩ | ⟨g, q⟩⟩ | h
    · rw [e] at h; cases h
    · rw [(slot_held R rv ha R2 st2 g q).1] at e; cases e
    · rw [h, e]; rfl
theorem out_hold {a : Addr} (e : G2 a = .hold) (n : gIn G as xs a ≠ .hold) : gOut G G2 rs as fin xs a = .hold := by
  rcases out_cases R rv ha R2 a with ⟨i, _, ⟨j, h⟩ | ⟨g, q⟩⟩ | h
  · rw [e] at h; cases h
  · exact absurd (by rw [gIn_none q, g]) n
  · rw [h, e]; rfl
theorem out_rel : Rel K mg (gOut G G2 rs as fin xs) ⟨backE s.env rs as fin, sto'⟩ σ H2 := by
  obtain ⟨hl, his, _, _⟩ := argsOf_is ha
  have hm := out_mono R rv ha R2 st2
  have lf : fin.length = rs.length := by have := R2.len; simp at this; rw [this, rv.length]
  have locB : ∀ a l, gOut G G2 rs as fin xs a = .loc l → G2 a = .loc l := fun a l e => by
    rcases out_cases R rv ha R2 a with ⟨i, h, _⟩ | h
    · rw [h] at e; cases e
    · rw [h] at e
      cases g : G2 a with
      | slot i => rw [g] at e; cases e
      | _ => rw [g] at e; exact e
  refine ⟨by rw [backE_len]; exact R.len, fun i sl e => ?_, fun l so e => ?_, fun a b l h1 h2 => R2.uniq a b l (locB a l h1) (locB b l h2), fun a h => ?_, fun a l h => R2.lim a l (locB a l h)⟩
  · rcases backE_get hl lf e with ⟨j, o, g1, g2, g3⟩ | ⟨g1, g2⟩
    · have sr := R2.slots j sl g3
      obtain ⟨b, eb, _, q⟩ := own_arg R rv ha g2
      have hx : σ[i]? = some (some (.ref b)) := by
        rcases q with ⟨z, _⟩ | ⟨i', z, _, z2, _⟩
        · rw [g1] at z; cases z
        · rw [g1] at z; cases z; exact z2
      have ej : ((xs.map some)[j]?).join = some (.ref b) := by rw [List.getElem?_map, eb]; rfl
      cases sl with
      | un => trivial
      | val v =>
        obtain ⟨y, e1, p⟩ := sr
        rw [ej] at e1
        cases e1
        exact ⟨_, get_join hx, p.step hm⟩
      | own o' =>
        have q := argIx_uniq (args_uniq R rv ha) g2 eb
        obtain ⟨_, ob, eo⟩ := out_own R rv ha R2 q g1 g3
        exact ⟨b, get_join hx, eo, ob.step rfl hm⟩
    · have sr := R.slots i sl g2
      have m0 := ((in_mono R rv ha).trans st2.mono).trans hm
      cases sl with
      | un => trivial
      | val v =>
        obtain ⟨y, e1, p⟩ := sr
        exact ⟨y, e1, p.step m0⟩
      | own o =>
        obtain ⟨a, e1, g, ob⟩ := sr
        have q : argIx as xs a = none := by
          cases q : argIx as xs a with
          | none => rfl
          | some j =>
            obtain ⟨⟨o', z1⟩, z2⟩ := argIx_some q
            obtain ⟨b, eb, _, z3⟩ := own_arg R rv ha z1
            rw [z2] at eb
            cases eb
            rcases z3 with ⟨_, z4, _⟩ | ⟨i', z4, _, _, z5⟩
            · rw [g] at z4; cases z4
            · rw [g] at z5; cases z5; exact absurd z1 (g1 j o' z4)
        obtain ⟨_, eH⟩ := slot_held R rv ha R2 st2 g q
        refine ⟨a, e1, ?_, ob.step eH m0⟩
        unfold gOut
        rw [q]
        simp only [g]
  · obtain ⟨a, g, h⟩ := R2.sto l so e
    exact ⟨a, hm.loc a l g, h.step rfl hm⟩
  · rcases out_cases R rv ha R2 a with ⟨i, _, ⟨j, z⟩ | ⟨g, q⟩⟩ | z
    · exact R2.trk a (by rw [z]; exact fun z => nomatch z)
    · exact R2.trk a (by rw [(slot_held R rv ha R2 st2 g q).1]; exact fun z => nomatch z)
    · refine R2.trk a fun z2 => h ?_
      rw [z, z2]; rfl
theorem out_step (st : Step G0 H0 G H) : Step G0 H0 (gOut G G2 rs as fin xs) H2 := by
  refine ⟨(st.mono.trans ((in_mono R rv ha).trans st2.mono)).trans (out_mono R rv ha R2 st2), fun a e => ?_⟩
  obtain ⟨g, e1⟩ := st.hold a e
  have q : argIx as xs a = none := by
    cases q : argIx as xs a with
    | none => rfl
    | some j =>
      rcases arg_tag R rv ha q with ⟨_, n⟩ | ⟨i, z⟩
      · exact absurd e n
      · rw [g] at z; cases z
  obtain ⟨g2, e2⟩ := st2.hold a (by rw [gIn_none q, g])
  refine ⟨?_, e2.trans e1⟩
  unfold gOut
  rw [q]
  simp only [g, g2]
  rfl
end
/-- THE CALL -/
theorem call_ok {G0 G : Gh} {s : SS} {σ : L2.St} {H0 H : Hp} {rs : List RV} {xs : List V} {cf : CF} {f : Str} {Ex : L2.WX} {Q : L2.VK} (R : Rel K mg G s σ H) (st : Step G0 H0 G H) (rv : RVRs K mg G0 G H σ rs xs)
    (h : (∃ r s', callE cf f rs s = .ok r s' ∧ ∀ G' H' x, Rel K mg G' s' σ H' → Step G0 H0 G' H' → RVR K mg G0 G' H' σ r x → Q x H') ∨ (∃ x s', callE cf f rs s = .exc x s' ∧ xcP K mg Ex x s' G0 σ H0)) :
    spF K mg cf f xs H Q (fun c d H => Ex c d σ H) := by
  cases ha : argsOf s [] rs with
  | none =>
    unfold callE at h
    rw [ha] at h
    rcases h with ⟨_, _, z, _⟩ | ⟨_, _, z, _⟩ <;> cases z
  | some as =>
    refine ⟨gIn G as xs, as, s.sto, in_rel R rv ha, ?_⟩
    unfold callE at h
    rw [ha] at h
    simp only at h
    cases ec : cf f as s.sto with
    | bad => rw [ec] at h; rcases h with ⟨_, _, z, _⟩ | ⟨_, _, z, _⟩ <;> cases z
    | ok r fin sto' =>
      rw [ec] at h
      rcases h with ⟨_, _, z, h⟩ | ⟨_, _, z, _⟩
      · cases z
        refine .inl ⟨r, fin, sto', rfl, fun G2 H2 x R2 st2 rx => ?_⟩
        refine h _ H2 x (out_rel R rv ha R2 st2) (out_step R rv ha R2 st2 st) ?_
        have hm := out_mono R rv ha R2 st2
        cases r with
        | sh v => exact PVR.step rx hm
        | fr o =>
          obtain ⟨a, rfl, g, n, ob⟩ := rx
          have n0 : G0 a ≠ .hold := fun z => by
            obtain ⟨g1, _⟩ := st.hold a z
            apply n
            have q : argIx as xs a = none := by
              cases q : argIx as xs a with
              | none => rfl
              | some j =>
                rcases arg_tag R rv ha q with ⟨_, n⟩ | ⟨i, z2⟩
                · exact absurd z n
                · rw [g1] at z2; cases z2
            rw [gIn_none q, g1]
          exact ⟨a, rfl, out_hold R rv ha R2 st2 g n, n0, ob.step rfl hm⟩
        | hd i =>
          have z : ([] : L2.St)[i]? = some (some x) := rx
          simp at z
      · cases z
    | exc e fin sto' =>
      rw [ec] at h
      rcases h with ⟨_, _, z, _⟩ | ⟨_, _, z, h⟩
      · cases z
      · cases z
        refine .inr ⟨e, fin, sto', rfl, fun G2 H2 C d R2 st2 rx => ?_⟩
        exact h _ H2 C d (out_rel R rv ha R2 st2) (out_step R rv ha R2 st2 st) rx.elim
end
end TP

set_option Elab.async false
set_option linter.all false
set_option maxRecDepth 100000
set_option maxHeartbeats 8000000
/-! Sal5: an expression of the text does what its tree does. -/
namespace TP
open PySem PySem.Spec PyProof.Rows
open L2 (V Hp HO Key upd upd_same upd_ne SqL SqT Rd OpR UnR CallR IxR Vals Inv PE PT PW PA PI PG PGs PO PTs Vis Gl Loc)

section
variable {g : Cg} {N : List Str} {k : Nat} {sc : Scope} {e : Expr} {e' : E}
theorem cE_star (h : cE g N k sc e = some e') : ∀ (es : List Expr) (env : Env), starEach (e :: es) env = (false, eval e env) :: starEach es env := by
  cases k with
  | zero => cases h
  | succ k => cases e <;> first | (intro _ _; rfl) | (simp only [cE] at h; cases h)
theorem cE_base (h : cE g N k sc e = some e') (hc : isCallE e = false) : ∀ (name : Str) (env : Env), attributeBase e name env (eval e env) = eval e env := by
  cases k with
  | zero => cases h
  | succ k => cases e <;> first | (intro _ _; rfl) | (cases hc)
theorem cE_fold (h : cE g N k sc e = some e') : ∀ (env : Env) (x : Value), foldedSetIterable e env x = pure x := by
  cases k with
  | zero => cases h
  | succ k => cases e <;> first | (intro _ _; rfl) | (simp only [cE] at h; cases h)
theorem ix_plain (h : isSliceE e = false) : L2.PlainIx e := by
  intro o i
  cases e <;> first | rfl | (cases h)
theorem cEs_star : ∀ {es : List Expr} {es' : List E}, mapO (cE g N k sc) es = some es' → ∀ (env : Env), starEach es env = es.map fun e => (false, eval e env)
  | [], es', _, env => rfl
  | e :: es, es', h, env => by
    simp only [mapO] at h
    cases h1 : cE g N k sc e with
    | none => rw [h1] at h; cases h
    | some e1 =>
      cases h2 : mapO (cE g N k sc) es with
      | none => rw [h1, h2] at h; cases h
      | some es1 => rw [cE_star h1, cEs_star h2, List.map_cons]
theorem backTo_plain (pos : Pos) (es : List Expr) (env : Env) : (backTo pos (es.map fun e => (false, eval e env))).any (·.1) = false := by
  induction es with
  | nil => rfl
  | cons e es ih =>
    cases es with
    | nil => rfl
    | cons e2 es => exact ih
end

section
variable {X : L2.Cx} {g : Cg} {cf : CF} {Ex : L2.WX}
abbrev tEX (X : L2.Cx) (cf : CF) (Ex : L2.WX) (e : E) : L2.TE := tE X.K X.mg cf Ex e
abbrev tAX (X : L2.Cx) (cf : CF) (Ex : L2.WX) (e : List E) : L2.TA := tA X.K X.mg cf Ex e
abbrev tTX (X : L2.Cx) (cf : CF) (Ex : L2.WX) (e : E) : L2.TT := tT X.K X.mg cf Ex e
abbrev tIX (X : L2.Cx) (cf : CF) (Ex : L2.WX) (e : I) : L2.TI := tI X.K X.mg cf Ex e
theorem XO.hu (o : XO X g cf Ex) : X.A.units + 64 < cLine := o.room.units

/-! names and constants -/
theorem pe_var' {i : Nat} {x : Str} {pos : Pos} (hp : plainNm x = true) (hi : X.N[i]? = some x) (hv : visB X.env.scope x = true) : PE X (.Name x pos) (tEX X cf Ex (.var i)) := by
  simp only [plainNm, Bool.and_eq_true, Bool.not_eq_true'] at hp
  have vis : Vis X.env.scope x := by
    unfold visB at hv
    split at hv
    · rename_i z; exact .inl z
    · rename_i z; exact .inr (.inl z)
    · rename_i z; exact .inr (.inr z)
    · cases hv
  refine PE.imp (L2.pe_var hi vis hp.1.1 hp.1.2) fun σ H Q h => ?_
  obtain ⟨G, s, R, h⟩ := h
  simp only [evalE] at h
  cases e : s.env[i]? with
  | none => rw [e] at h; rcases h with ⟨_, _, z, _⟩ | ⟨_, _, z, _⟩ <;> cases z
  | some sl =>
    rw [e] at h
    cases sl with
    | un => rcases h with ⟨_, _, z, _⟩ | ⟨_, _, z, _⟩ <;> cases z
    | val v =>
      rcases h with ⟨_, _, z, h⟩ | ⟨_, _, z, _⟩ <;> cases z
      obtain ⟨x, e1, p⟩ := R.val e
      exact ⟨x, e1, h G H x R .refl p⟩
    | own ob =>
      rcases h with ⟨_, _, z, h⟩ | ⟨_, _, z, _⟩ <;> cases z
      obtain ⟨a, e1, _, _⟩ := R.own e
      exact ⟨_, e1, h G H _ R .refl e1⟩
theorem tE_con {v : PV} {x : V} {σ : L2.St} {H : Hp} {Q : L2.VK} (hx : ∀ G H, PVR X.K X.mg G H v x) (h : tEX X cf Ex (.con v) σ H Q) : L2.tC x σ H Q := by
  obtain ⟨G, s, R, h⟩ := h
  simp only [evalE] at h
  rcases h with ⟨_, _, z, h⟩ | ⟨_, _, z, _⟩ <;> cases z
  exact h G H x R .refl (hx G H)
theorem gl_of {x : Str} (h : glB X.env.scope x = true) : Gl X x := by
  unfold glB at h
  split at h
  · rename_i z; exact z
  · cases h
theorem nm_ne {x : Str} (hp : plainNm x = true) : (x == ("__debug__" : Str)) = false ∧ x ≠ "__name__" := by
  simp only [plainNm, Bool.and_eq_true, Bool.not_eq_true', decide_eq_false_iff_not] at hp
  exact ⟨hp.1.1, hp.2⟩
theorem tyNm_boot {x : Str} {n : String} (h : tyNm x = some n) : x ∈ bnames ∧ bootBuiltins x = some (.type n) := by
  unfold tyNm at h
  repeat' split at h
  all_goals first | cases h | skip
  all_goals (rename_i e; subst e; exact ⟨by decide +kernel, by decide +kernel⟩)
theorem pe_tyNm (o : XO X g cf Ex) {x : Str} {n : String} {pos : Pos} (hp : plainNm x = true) (hg : glB X.env.scope x = true) (h : tyNm x = some n) : PE X (.Name x pos) (tEX X cf Ex (.con (.ty n))) := by
  obtain ⟨h1, h2⟩ := tyNm_boot h
  obtain ⟨h3, h4⟩ := nm_ne hp
  exact PE.imp (L2.pe_bltn (v := .ty n) (gl_of hg) (o.bn x h1) h2 rfl h4 h3) fun σ H Q q => tE_con (fun _ _ => .ty n) q
theorem pe_gcon (o : XO X g cf Ex) {x : Str} {v : PV} {pos : Pos} (hp : plainNm x = true) (hg : glB X.env.scope x = true) (h : g.con.lookup x = some v) : PE X (.Name x pos) (tEX X cf Ex (.con v)) := by
  obtain ⟨u, V, h1, h2, h3⟩ := o.con x v h
  exact PE.imp (L2.pe_glob (gl_of hg) h1 h2 (nm_ne hp).1) fun σ H Q q => tE_con h3 q

/-! two-place and one-place operations -/
theorem pe_bin2 (o : XO X g cf Ex) {a b : Expr} {a' b' : E} {op : Operator} {p : P} {pos : Pos} (hb : binP op = some p) (ha : PE X a (tEX X cf Ex a')) (hb' : PE X b (tEX X cf Ex b')) : PE X (.BinOp a op b pos) (tEX X cf Ex (.prim p [a', b'])) := by
  cases op <;> simp only [binP] at hb <;> cases hb
  · exact PE.imp (L2.pe_op opAdd ha hb') fun σ H Q h => tE_prim2 (fun _ _ => rfl) h
  · exact PE.imp (L2.pe_op opSub ha hb') fun σ H Q h => tE_prim2 (fun _ _ => rfl) h
  · exact PE.imp (L2.pe_op opMul ha hb') fun σ H Q h => tE_prim2 (fun _ _ => rfl) h
  · exact PE.imp (L2.pe_op opMod ha hb') fun σ H Q h => tE_prim2 (fun _ _ => rfl) h
  · exact PE.imp (L2.pe_op opPow ha hb') fun σ H Q h => tE_prim2 (fun _ _ => rfl) h
  · exact PE.imp (L2.pe_op opFdiv ha hb') fun σ H Q h => tE_prim2 (fun _ _ => rfl) h
theorem pe_neg' {a : Expr} {a' : E} {pos : Pos} (ha : PE X a (tEX X cf Ex a')) : PE X (.UnaryOp .USub a pos) (tEX X cf Ex (.prim .neg [a'])) :=
  PE.imp (L2.pe_un unNeg ha) fun σ H Q h => tE_prim1 (fun _ => rfl) h
/-- a comparison's rule, by values -/
theorem cmpR (o : XO X g cf Ex) {op : CmpOp} {p : P} (h : cmpP op = some p) : ∃ f, (∀ c d, primSem p [c, d] = f c d) ∧ OpR X (compareOp op) (rP2 X.K X.mg f) := by
  cases op <;> simp only [cmpP] at h <;> cases h
  · exact ⟨_, fun _ _ => rfl, opEq o.hu⟩
  · exact ⟨_, fun _ _ => rfl, opNe o.hu⟩
  · exact ⟨_, fun _ _ => rfl, opOrd L2.op_lt⟩
  · exact ⟨_, fun _ _ => rfl, opOrd L2.op_le⟩
  · exact ⟨_, fun _ _ => rfl, opOrd L2.op_gt⟩
  · exact ⟨_, fun _ _ => rfl, opOrd L2.op_ge⟩
  · exact ⟨_, fun _ _ => rfl, opIn⟩
  · exact ⟨_, fun _ _ => rfl, opNotIn⟩
theorem pe_cmp' (o : XO X g cf Ex) {a b : Expr} {a' b' : E} {op : CmpOp} {p : P} {pos : Pos} (hm : behindInMarks op b = false) (hp : cmpP op = some p) (ha : PE X a (tEX X cf Ex a')) (hb : PE X b (tEX X cf Ex b')) :
    PE X (.Compare a [op] [b] pos) (tEX X cf Ex (.prim p [a', b'])) ∧ PT X (.Compare a [op] [b] pos) (tTX X cf Ex (.prim p [a', b'])) := by
  obtain ⟨f, hf, ho⟩ := cmpR o hp
  refine ⟨PE.imp (L2.pe_cmpR ho ha hb hm) fun σ H Q h => tE_prim2 hf h, PT.imp (L2.pt_cmpR ho ha hb hm) fun σ H Q h => ?_⟩
  exact tE_prim2 hf (tE_of_tT h)
theorem pe_isN' {a b : Expr} {a' : E} {pos : Pos} (hb : isNoneC b = true) (ha : PE X a (tEX X cf Ex a')) : PE X (.Compare a [.Is] [b] pos) (tEX X cf Ex (.prim .isN [a'])) ∧ PT X (.Compare a [.Is] [b] pos) (tTX X cf Ex (.prim .isN [a'])) := by
  unfold isNoneC at hb
  split at hb
  · have red : ∀ {σ H} {Q : L2.VK}, tEX X cf Ex (.prim .isN [a']) σ H Q → L2.tOp (fun x y H Q => y = .non ∧ Q (.bl (decide (x = .non))) H) (tEX X cf Ex a') (L2.tC .non) σ H Q := fun h =>
      tE_mono (tE_prim1 (f := fun c => some (.sh (.bl (isNon c)))) (fun _ => rfl) h) fun x H1 ⟨G, c, r, hc, e, q⟩ => ⟨rfl, by cases e; rw [isNon_V hc]; exact q _ _ (.same (.bl _))⟩
    exact ⟨PE.imp (L2.pe_cmpR L2.op_isN ha L2.pe_non (L2.nomark _)) fun σ H Q h => red h, PT.imp (L2.pt_cmpR L2.op_isN ha L2.pe_non (L2.nomark _)) fun σ H Q h => red (tE_of_tT h)⟩
  · cases hb
theorem pe_notN' {a b : Expr} {a' : E} {pos : Pos} (hb : isNoneC b = true) (ha : PE X a (tEX X cf Ex a')) : PE X (.Compare a [.IsNot] [b] pos) (tEX X cf Ex (.prim .notN [a'])) ∧ PT X (.Compare a [.IsNot] [b] pos) (tTX X cf Ex (.prim .notN [a'])) := by
  unfold isNoneC at hb
  split at hb
  · have red : ∀ {σ H} {Q : L2.VK}, tEX X cf Ex (.prim .notN [a']) σ H Q → L2.tOp (fun x y H Q => y = .non ∧ Q (.bl (!decide (x = .non))) H) (tEX X cf Ex a') (L2.tC .non) σ H Q := fun h =>
      tE_mono (tE_prim1 (f := fun c => some (.sh (.bl (!isNon c)))) (fun _ => rfl) h) fun x H1 ⟨G, c, r, hc, e, q⟩ => ⟨rfl, by cases e; rw [isNon_V hc]; exact q _ _ (.same (.bl _))⟩
    exact ⟨PE.imp (L2.pe_cmpR L2.op_notN ha L2.pe_non (L2.nomark _)) fun σ H Q h => red h, PT.imp (L2.pt_cmpR L2.op_notN ha L2.pe_non (L2.nomark _)) fun σ H Q h => red (tE_of_tT h)⟩
  · cases hb
/-- a op b op' c -/
theorem tE_chain {p q : P} {a b c : E} {f f' : PV → PV → Option RV} (hf : ∀ c d, primSem p [c, d] = f c d) (hf' : ∀ c d, primSem q [c, d] = f' c d) {σ : L2.St} {H : Hp} {Q : L2.VK} (h : tEX X cf Ex (.chain p q a b c) σ H Q) :
    L2.tChain (rP2 X.K X.mg f) (rP2 X.K X.mg f') (tEX X cf Ex a) (tEX X cf Ex b) (tEX X cf Ex c) σ H Q := by
  obtain ⟨G, s, R, h⟩ := h
  simp only [evalE] at h
  refine ⟨G, s, R, ?_⟩
  cases e1 : evalE cf a s with
  | bad => rw [e1] at h; rcases h with ⟨_, _, z, _⟩ | ⟨_, _, z, _⟩ <;> cases z
  | exc x s1 =>
    rw [e1] at h
    rcases h with ⟨_, _, z, _⟩ | ⟨_, _, z, h⟩ <;> cases z
    exact .inr ⟨_, _, rfl, h⟩
  | ok ra s1 =>
    rw [e1] at h
    simp only [Res.bind] at h
    refine .inl ⟨ra, s1, rfl, fun G1 H1 x R1 st1 rv1 => ⟨G1, s1, R1, ?_⟩⟩
    cases e2 : evalE cf b s1 with
    | bad => rw [e2] at h; rcases h with ⟨_, _, z, _⟩ | ⟨_, _, z, _⟩ <;> cases z
    | exc x s2 =>
      rw [e2] at h
      rcases h with ⟨_, _, z, _⟩ | ⟨_, _, z, h⟩ <;> cases z
      exact .inr ⟨_, _, rfl, h.step st1⟩
    | ok rb s2 =>
      rw [e2] at h
      simp only at h
      refine .inl ⟨rb, s2, rfl, fun G2 H2 y R2 st2 rv2 => ?_⟩
      have rva := rv1.mono st2
      cases e3 : conts s2 [ra, rb] with
      | none => rw [e3] at h; rcases h with ⟨_, _, z, _⟩ | ⟨_, _, z, _⟩ <;> cases z
      | some cs =>
        rw [e3] at h
        simp only at h
        have hcs := conts_ok R2 (RVRs.push st1 rv1 st2 (.cons rv2 (fun _ _ _ _ z => by simp at z) .nil)) e3
        obtain ⟨ca, cb, rfl⟩ : ∃ ca cb, cs = [ca, cb] := by
          cases hcs with
          | cons _ t => cases t with
            | cons _ t => cases t; exact ⟨_, _, rfl⟩
        obtain ⟨_, _, ez, ha, hb⟩ := hcs.two
        cases ez
        rw [hf] at h
        cases e4 : f ca cb with
        | none => rw [e4] at h; rcases h with ⟨_, _, z, _⟩ | ⟨_, _, z, _⟩ <;> cases z
        | some r =>
          rw [e4] at h
          refine ⟨G2, ca, cb, r, ha, hb, e4, fun z H3 oz => ?_⟩
          have bool : ∃ t, r = .sh (.bl t) := by
            split at h
            · rename_i q; cases q; exact ⟨_, rfl⟩
            · rename_i q; cases q; exact ⟨_, rfl⟩
            · rcases h with ⟨_, _, z, _⟩ | ⟨_, _, z, _⟩ <;> cases z
          obtain ⟨t, rfl⟩ := bool
          obtain ⟨rfl, rfl⟩ : z = .bl t ∧ H3 = H2 := by
            cases oz with
            | same p => cases p; exact ⟨rfl, rfl⟩
          refine ⟨t, rfl, ?_⟩
          cases t with
          | false =>
            rw [if_neg Bool.false_ne_true]
            simp only at h
            rcases h with ⟨_, _, z, h⟩ | ⟨_, _, z, _⟩ <;> cases z
            exact h G2 H3 _ R2 (st1.trans st2) (.bl _)
          | true =>
            rw [if_pos rfl]
            simp only at h
            refine ⟨G2, s2, R2, ?_⟩
            cases e5 : evalE cf c s2 with
            | bad => rw [e5] at h; rcases h with ⟨_, _, z, _⟩ | ⟨_, _, z, _⟩ <;> cases z
            | exc x s3 =>
              rw [e5] at h
              rcases h with ⟨_, _, z, _⟩ | ⟨_, _, z, h⟩ <;> cases z
              exact .inr ⟨_, _, rfl, h.step (st1.trans st2)⟩
            | ok rc s3 =>
              rw [e5] at h
              simp only at h
              refine .inl ⟨rc, s3, rfl, fun G3 H4 w R3 st3 rv3 => ?_⟩
              cases e6 : conts s3 [rb, rc] with
              | none => rw [e6] at h; rcases h with ⟨_, _, z, _⟩ | ⟨_, _, z, _⟩ <;> cases z
              | some cs =>
                rw [e6] at h
                simp only at h
                have hcs := conts_ok R3 (RVRs.push st2 rv2 st3 (.cons rv3 (fun _ _ _ _ z => by simp at z) .nil)) e6
                obtain ⟨c1, c2, rfl⟩ : ∃ ca cb, cs = [ca, cb] := by
                  cases hcs with
                  | cons _ t => cases t with
                    | cons _ t => cases t; exact ⟨_, _, rfl⟩
                obtain ⟨_, _, ez, hb', hc'⟩ := hcs.two
                cases ez
                rw [hf'] at h
                cases e7 : f' c1 c2 with
                | none => rw [e7] at h; rcases h with ⟨_, _, z, _⟩ | ⟨_, _, z, _⟩ <;> cases z
                | some r2 =>
                  rw [e7] at h
                  rcases h with ⟨_, _, z, h⟩ | ⟨_, _, z, _⟩ <;> cases z
                  refine ⟨G3, c1, c2, _, hb', hc', e7, fun z H5 oz => ?_⟩
                  obtain ⟨G4, R4, st4, rv4⟩ := oz.rel R3
                  exact h G4 H5 z R4 (((st1.trans st2).trans st3).trans st4) (rv4.back ((st1.trans st2).trans st3))
theorem pe_chain' (o : XO X g cf Ex) {a b c : Expr} {a' b' c' : E} {op op' : CmpOp} {p q : P} {pos : Pos} (hm : lastMarks [op, op'] [b, c] = false) (hp : cmpP op = some p) (hq : cmpP op' = some q) (ha : PE X a (tEX X cf Ex a')) (hb : PE X b (tEX X cf Ex b')) (hc : PE X c (tEX X cf Ex c')) :
    PE X (.Compare a [op, op'] [b, c] pos) (tEX X cf Ex (.chain p q a' b' c')) ∧ PT X (.Compare a [op, op'] [b, c] pos) (tTX X cf Ex (.chain p q a' b' c')) := by
  obtain ⟨f, hf, ho⟩ := cmpR o hp
  obtain ⟨f', hf', ho'⟩ := cmpR o hq
  exact ⟨PE.imp (L2.pe_chain ho ho' ha hb hc hm) fun σ H Q h => tE_chain hf hf' h, PT.imp (L2.pt_chain ho ho' ha hb hc hm) fun σ H Q h => tE_chain hf hf' (tE_of_tT h)⟩

/-! tests, and, or, not, if else -/
/-- the first thing's evaluation, then the rest -/
theorem tT_of {a : E} {σ : L2.St} {H : Hp} {Qb : Bool → Hp → Prop} {G : Gh} {s : SS} (R : Rel X.K X.mg G s σ H) {α : Type} {F : RV → SS → Res α} (hok : ∀ r s1, evalE cf a s = .ok r s1 → ∃ b, testR s1 r = some b ∧ ∀ G1 H1, Rel X.K X.mg G1 s1 σ H1 → Step G H G1 H1 → Qb b H1)
    (hex : ∀ x s1, evalE cf a s = .exc x s1 → xcP X.K X.mg Ex x s1 G σ H) (hbad : evalE cf a s ≠ .bad) : tTX X cf Ex a σ H Qb := by
  refine ⟨G, s, R, ?_⟩
  cases e : evalE cf a s with
  | bad => exact absurd e hbad
  | exc x s1 => exact .inr ⟨x, s1, rfl, hex x s1 e⟩
  | ok r s1 =>
    obtain ⟨b, h1, h2⟩ := hok r s1 e
    exact .inl ⟨r, b, s1, rfl, h1, h2⟩
theorem tE_not {a : E} {σ : L2.St} {H : Hp} {Q : L2.VK} (h : tEX X cf Ex (.not a) σ H Q) : tTX X cf Ex a σ H fun b H1 => Q (.bl (!b)) H1 := by
  obtain ⟨G, s, R, h⟩ := h
  simp only [evalE] at h
  refine ⟨G, s, R, ?_⟩
  cases e1 : evalE cf a s with
  | bad => rw [e1] at h; rcases h with ⟨_, _, z, _⟩ | ⟨_, _, z, _⟩ <;> cases z
  | exc x s1 =>
    rw [e1] at h
    rcases h with ⟨_, _, z, _⟩ | ⟨_, _, z, h⟩ <;> cases z
    exact .inr ⟨_, _, rfl, h⟩
  | ok r s1 =>
    rw [e1] at h
    simp only [Res.bind] at h
    cases e2 : testR s1 r with
    | none => rw [e2] at h; rcases h with ⟨_, _, z, _⟩ | ⟨_, _, z, _⟩ <;> cases z
    | some b =>
      rw [e2] at h
      rcases h with ⟨_, _, z, h⟩ | ⟨_, _, z, _⟩ <;> cases z
      exact .inl ⟨r, b, s1, rfl, e2, fun G1 H1 R1 st1 => h G1 H1 _ R1 st1 (.bl _)⟩
theorem pe_not' {a : Expr} {a' : E} {pos : Pos} (hp : PE X a (tEX X cf Ex a')) (ht : PT X a (tTX X cf Ex a')) : PE X (.UnaryOp .Not a pos) (tEX X cf Ex (.not a')) ∧ PT X (.UnaryOp .Not a pos) (tTX X cf Ex (.not a')) := by
  refine ⟨PE.imp (L2.pe_not hp) fun σ H Q h => ?_, PT.imp (L2.pt_not ht) fun σ H Q h => ?_⟩
  · exact tE_of_tT (tE_not h)
  · have h := tE_not (tE_of_tT h)
    obtain ⟨G, s, R, h⟩ := h
    refine ⟨G, s, R, ?_⟩
    rcases h with ⟨r, b, s1, e1, e2, h⟩ | h
    · refine .inl ⟨r, b, s1, e1, e2, fun G1 H1 R1 st1 => ?_⟩
      obtain ⟨c, e, q⟩ := h G1 H1 R1 st1
      cases e
      exact q
    · exact .inr h
theorem tE_and {a b : E} {es : List E} {σ : L2.St} {H : Hp} {Q : L2.VK} (h : tEX X cf Ex (.and (a :: b :: es)) σ H Q) : tTX X cf Ex a σ H fun c H1 => if c = true then tEX X cf Ex (.and (b :: es)) σ H1 Q else Q (.bl false) H1 := by
  obtain ⟨G, s, R, h⟩ := h
  simp only [evalE, evalAnd] at h
  refine ⟨G, s, R, ?_⟩
  cases e1 : evalE cf a s with
  | bad => rw [e1] at h; rcases h with ⟨_, _, z, _⟩ | ⟨_, _, z, _⟩ <;> cases z
  | exc x s1 =>
    rw [e1] at h
    rcases h with ⟨_, _, z, _⟩ | ⟨_, _, z, h⟩ <;> cases z
    exact .inr ⟨_, _, rfl, h⟩
  | ok r s1 =>
    rw [e1] at h
    simp only [Res.bind] at h
    cases e2 : testR s1 r with
    | none => rw [e2] at h; rcases h with ⟨_, _, z, _⟩ | ⟨_, _, z, _⟩ <;> cases z
    | some c =>
      rw [e2] at h
      refine .inl ⟨r, c, s1, rfl, e2, fun G1 H1 R1 st1 => ?_⟩
      cases c with
      | false =>
        rw [if_neg Bool.false_ne_true]
        rcases h with ⟨_, _, z, h⟩ | ⟨_, _, z, _⟩ <;> cases z
        exact h G1 H1 _ R1 st1 (.bl _)
      | true =>
        rw [if_pos rfl]
        refine ⟨G1, s1, R1, ?_⟩
        simp only [evalE]
        rcases h with ⟨r2, s2, z, h⟩ | ⟨x, s2, z, h⟩
        · exact .inl ⟨r2, s2, z, fun G2 H2 y R2 st2 rv => h G2 H2 y R2 (st1.trans st2) (rv.back st1)⟩
        · exact .inr ⟨x, s2, z, h.step st1⟩
theorem tE_or {a b : E} {es : List E} {σ : L2.St} {H : Hp} {Q : L2.VK} (h : tEX X cf Ex (.or (a :: b :: es)) σ H Q) : tTX X cf Ex a σ H fun c H1 => if c = true then Q (.bl true) H1 else tEX X cf Ex (.or (b :: es)) σ H1 Q := by
  obtain ⟨G, s, R, h⟩ := h
  simp only [evalE, evalOr] at h
  refine ⟨G, s, R, ?_⟩
  cases e1 : evalE cf a s with
  | bad => rw [e1] at h; rcases h with ⟨_, _, z, _⟩ | ⟨_, _, z, _⟩ <;> cases z
  | exc x s1 =>
    rw [e1] at h
    rcases h with ⟨_, _, z, _⟩ | ⟨_, _, z, h⟩ <;> cases z
    exact .inr ⟨_, _, rfl, h⟩
  | ok r s1 =>
    rw [e1] at h
    simp only [Res.bind] at h
    cases e2 : testR s1 r with
    | none => rw [e2] at h; rcases h with ⟨_, _, z, _⟩ | ⟨_, _, z, _⟩ <;> cases z
    | some c =>
      rw [e2] at h
      refine .inl ⟨r, c, s1, rfl, e2, fun G1 H1 R1 st1 => ?_⟩
      cases c with
      | true =>
        rw [if_pos rfl]
        rcases h with ⟨_, _, z, h⟩ | ⟨_, _, z, _⟩ <;> cases z
        exact h G1 H1 _ R1 st1 (.bl _)
      | false =>
        rw [if_neg Bool.false_ne_true]
        refine ⟨G1, s1, R1, ?_⟩
        simp only [evalE]
        rcases h with ⟨r2, s2, z, h⟩ | ⟨x, s2, z, h⟩
        · exact .inl ⟨r2, s2, z, fun G2 H2 y R2 st2 rv => h G2 H2 y R2 (st1.trans st2) (rv.back st1)⟩
        · exact .inr ⟨x, s2, z, h.step st1⟩
/-- a list of tests' parts -/
inductive PEs (X : L2.Cx) (cf : CF) (Ex : L2.WX) : List Expr → List E → Prop where
  | nil : PEs X cf Ex [] []
  | cons {e : Expr} {es : List Expr} {e' : E} {es' : List E} : PE X e (tEX X cf Ex e') → PT X e (tTX X cf Ex e') → PEs X cf Ex es es' → PEs X cf Ex (e :: es) (e' :: es')
theorem tE_and1 {a : E} {σ : L2.St} {H : Hp} {Q : L2.VK} (h : tEX X cf Ex (.and [a]) σ H Q) : tEX X cf Ex a σ H Q := by
  obtain ⟨G, s, R, h⟩ := h
  simp only [evalE, evalAnd] at h
  exact ⟨G, s, R, h⟩
theorem tE_or1 {a : E} {σ : L2.St} {H : Hp} {Q : L2.VK} (h : tEX X cf Ex (.or [a]) σ H Q) : tEX X cf Ex a σ H Q := by
  obtain ⟨G, s, R, h⟩ := h
  simp only [evalE, evalOr] at h
  exact ⟨G, s, R, h⟩
/-- tests keep their shape -/
theorem tT_and {a b : E} {es : List E} {σ : L2.St} {H : Hp} {Q : Bool → Hp → Prop} (h : tTX X cf Ex (.and (a :: b :: es)) σ H Q) : tTX X cf Ex a σ H fun c H1 => if c = true then tTX X cf Ex (.and (b :: es)) σ H1 Q else Q false H1 := by
  obtain ⟨G, s, R, h⟩ := h
  simp only [evalE, evalAnd] at h
  refine ⟨G, s, R, ?_⟩
  cases e1 : evalE cf a s with
  | bad => rw [e1] at h; rcases h with ⟨_, _, _, z, _⟩ | ⟨_, _, z, _⟩ <;> cases z
  | exc x s1 =>
    rw [e1] at h
    rcases h with ⟨_, _, _, z, _⟩ | ⟨_, _, z, h⟩ <;> cases z
    exact .inr ⟨_, _, rfl, h⟩
  | ok r s1 =>
    rw [e1] at h
    simp only [Res.bind] at h
    cases e2 : testR s1 r with
    | none => rw [e2] at h; rcases h with ⟨_, _, _, z, _⟩ | ⟨_, _, z, _⟩ <;> cases z
    | some c =>
      rw [e2] at h
      refine .inl ⟨r, c, s1, rfl, e2, fun G1 H1 R1 st1 => ?_⟩
      cases c with
      | false =>
        rw [if_neg Bool.false_ne_true]
        rcases h with ⟨_, _, _, z, tb, h⟩ | ⟨_, _, z, _⟩ <;> cases z
        cases tb
        exact h G1 H1 R1 st1
      | true =>
        rw [if_pos rfl]
        refine ⟨G1, s1, R1, ?_⟩
        simp only [evalE]
        rcases h with ⟨r2, b2, s2, z, tb, h⟩ | ⟨x, s2, z, h⟩
        · exact .inl ⟨r2, b2, s2, z, tb, fun G2 H2 R2 st2 => h G2 H2 R2 (st1.trans st2)⟩
        · exact .inr ⟨x, s2, z, h.step st1⟩
theorem tT_or {a b : E} {es : List E} {σ : L2.St} {H : Hp} {Q : Bool → Hp → Prop} (h : tTX X cf Ex (.or (a :: b :: es)) σ H Q) : tTX X cf Ex a σ H fun c H1 => if c = true then Q true H1 else tTX X cf Ex (.or (b :: es)) σ H1 Q := by
  obtain ⟨G, s, R, h⟩ := h
  simp only [evalE, evalOr] at h
  refine ⟨G, s, R, ?_⟩
  cases e1 : evalE cf a s with
  | bad => rw [e1] at h; rcases h with ⟨_, _, _, z, _⟩ | ⟨_, _, z, _⟩ <;> cases z
  | exc x s1 =>
    rw [e1] at h
    rcases h with ⟨_, _, _, z, _⟩ | ⟨_, _, z, h⟩ <;> cases z
    exact .inr ⟨_, _, rfl, h⟩
  | ok r s1 =>
    rw [e1] at h
    simp only [Res.bind] at h
    cases e2 : testR s1 r with
    | none => rw [e2] at h; rcases h with ⟨_, _, _, z, _⟩ | ⟨_, _, z, _⟩ <;> cases z
    | some c =>
      rw [e2] at h
      refine .inl ⟨r, c, s1, rfl, e2, fun G1 H1 R1 st1 => ?_⟩
      cases c with
      | true =>
        rw [if_pos rfl]
        rcases h with ⟨_, _, _, z, tb, h⟩ | ⟨_, _, z, _⟩ <;> cases z
        cases tb
        exact h G1 H1 R1 st1
      | false =>
        rw [if_neg Bool.false_ne_true]
        refine ⟨G1, s1, R1, ?_⟩
        simp only [evalE]
        rcases h with ⟨r2, b2, s2, z, tb, h⟩ | ⟨x, s2, z, h⟩
        · exact .inl ⟨r2, b2, s2, z, tb, fun G2 H2 R2 st2 => h G2 H2 R2 (st1.trans st2)⟩
        · exact .inr ⟨x, s2, z, h.step st1⟩
theorem tT_and1 {a : E} {σ : L2.St} {H : Hp} {Q : Bool → Hp → Prop} (h : tTX X cf Ex (.and [a]) σ H Q) : tTX X cf Ex a σ H Q := by
  obtain ⟨G, s, R, h⟩ := h
  simp only [evalE, evalAnd] at h
  exact ⟨G, s, R, h⟩
theorem tT_or1 {a : E} {σ : L2.St} {H : Hp} {Q : Bool → Hp → Prop} (h : tTX X cf Ex (.or [a]) σ H Q) : tTX X cf Ex a σ H Q := by
  obtain ⟨G, s, R, h⟩ := h
  simp only [evalE, evalOr] at h
  exact ⟨G, s, R, h⟩
theorem pe_and' {pos : Pos} : ∀ {es : List Expr} {es' : List E}, PEs X cf Ex es es' → es ≠ [] → PE X (.BoolOp .And es pos) (tEX X cf Ex (.and es')) ∧ PW X (.BoolOp .And es pos) (tTX X cf Ex (.and es'))
  | [], _, _, h => absurd rfl h
  | [e], _, .cons h1 h2 .nil, _ => ⟨PE.imp (L2.pe_one h1) fun σ H Q h => tE_and1 h, PW.imp (L2.pw_and1 h2) fun σ H Q h => tT_and1 h⟩
  | e :: e2 :: es, _, .cons h1 h2 (.cons h3 h4 t), _ => by
    obtain ⟨q1, q2⟩ := pe_and' (pos := pos) (.cons h3 h4 t) (fun z => nomatch z)
    exact ⟨PE.imp (L2.pe_and h1 q1) fun σ H Q h => tE_of_tT (tE_and h), PW.imp (L2.pw_and h2 q2) fun σ H Q h => tT_and h⟩
theorem pe_or' {pos : Pos} : ∀ {es : List Expr} {es' : List E}, PEs X cf Ex es es' → es ≠ [] → PE X (.BoolOp .Or es pos) (tEX X cf Ex (.or es')) ∧ PW X (.BoolOp .Or es pos) (tTX X cf Ex (.or es'))
  | [], _, _, h => absurd rfl h
  | [e], _, .cons h1 h2 .nil, _ => ⟨PE.imp (L2.pe_one h1) fun σ H Q h => tE_or1 h, PW.imp (L2.pw_or1 h2) fun σ H Q h => tT_or1 h⟩
  | e :: e2 :: es, _, .cons h1 h2 (.cons h3 h4 t), _ => by
    obtain ⟨q1, q2⟩ := pe_or' (pos := pos) (.cons h3 h4 t) (fun z => nomatch z)
    exact ⟨PE.imp (L2.pe_or h1 q1) fun σ H Q h => tE_of_tT (tE_or h), PW.imp (L2.pw_or h2 q2) fun σ H Q h => tT_or h⟩
theorem tE_ite {c a b : E} {σ : L2.St} {H : Hp} {Q : L2.VK} (h : tEX X cf Ex (.ite c a b) σ H Q) : tTX X cf Ex c σ H fun t H1 => if t = true then tEX X cf Ex a σ H1 Q else tEX X cf Ex b σ H1 Q := by
  obtain ⟨G, s, R, h⟩ := h
  simp only [evalE] at h
  refine ⟨G, s, R, ?_⟩
  cases e1 : evalE cf c s with
  | bad => rw [e1] at h; rcases h with ⟨_, _, z, _⟩ | ⟨_, _, z, _⟩ <;> cases z
  | exc x s1 =>
    rw [e1] at h
    rcases h with ⟨_, _, z, _⟩ | ⟨_, _, z, h⟩ <;> cases z
    exact .inr ⟨_, _, rfl, h⟩
  | ok r s1 =>
    rw [e1] at h
    simp only [Res.bind] at h
    cases e2 : testR s1 r with
    | none => rw [e2] at h; rcases h with ⟨_, _, z, _⟩ | ⟨_, _, z, _⟩ <;> cases z
    | some t =>
      rw [e2] at h
      refine .inl ⟨r, t, s1, rfl, e2, fun G1 H1 R1 st1 => ?_⟩
      have fin : ∀ {d : E}, ((∃ r s', evalE cf d s1 = .ok r s' ∧ ∀ G' H' x, Rel X.K X.mg G' s' σ H' → Step G H G' H' → RVR X.K X.mg G G' H' σ r x → Q x H') ∨ (∃ x s', evalE cf d s1 = .exc x s' ∧ xcP X.K X.mg Ex x s' G σ H)) → tEX X cf Ex d σ H1 Q := fun {d} h => by
        refine ⟨G1, s1, R1, ?_⟩
        rcases h with ⟨r2, s2, z, h⟩ | ⟨x, s2, z, h⟩
        · exact .inl ⟨r2, s2, z, fun G2 H2 y R2 st2 rv => h G2 H2 y R2 (st1.trans st2) (rv.back st1)⟩
        · exact .inr ⟨x, s2, z, h.step st1⟩
      cases t with
      | true => show (if true = true then _ else _); rw [if_pos rfl]; exact fin h
      | false => show (if false = true then _ else _); rw [if_neg Bool.false_ne_true]; exact fin h
theorem pe_ite' {c a b : Expr} {c' a' b' : E} {pos : Pos} (hc : PT X c (tTX X cf Ex c')) (ha : PE X a (tEX X cf Ex a')) (hb : PE X b (tEX X cf Ex b')) : PE X (.IfExp c a b pos) (tEX X cf Ex (.ite c' a' b')) :=
  PE.imp (L2.pe_ifExp hc ha hb) fun σ H Q h => tE_ite h
/-- any other expression's test -/
theorem pt_plain {e : Expr} {e' : E} (h : PE X e (tEX X cf Ex e')) (he : ∀ whole, isTrue e X.env whole = (do let v ← whole; standAt e.pos; holding [v] (truthy v))) : PT X e (tTX X cf Ex e') :=
  PT.imp (L2.pt_val h he) fun σ H Q h => tE_of_tT h

/-! displays -/
theorem tE_tup {es : List E} {σ : L2.St} {H : Hp} {Q : L2.VK} (h : tEX X cf Ex (.tup es) σ H Q) : L2.tTup (tAX X cf Ex es) σ H Q := by
  obtain ⟨G, s, R, h⟩ := h
  simp only [evalE] at h
  refine ⟨G, s, R, ?_⟩
  cases e1 : evalEs cf es s with
  | bad => rw [e1] at h; rcases h with ⟨_, _, z, _⟩ | ⟨_, _, z, _⟩ <;> cases z
  | exc x s1 =>
    rw [e1] at h
    rcases h with ⟨_, _, z, _⟩ | ⟨_, _, z, h⟩ <;> cases z
    exact .inr ⟨_, _, rfl, h⟩
  | ok rs s1 =>
    rw [e1] at h
    simp only [Res.bind] at h
    refine .inl ⟨rs, s1, rfl, fun G1 H1 xs R1 st1 rv => ?_⟩
    split at h
    · rename_i hz
      cases e2 : keeps s1 rs with
      | none => rw [e2] at h; rcases h with ⟨_, _, z, _⟩ | ⟨_, _, z, _⟩ <;> cases z
      | some q =>
        obtain ⟨vs, s2⟩ := q
        rw [e2] at h
        rcases h with ⟨_, _, z, h⟩ | ⟨_, _, z, _⟩ <;> cases z
        obtain ⟨G2, R2, st2, m2, p2, _, _⟩ := keeps_ok R1 st1 rv e2
        refine ⟨by rw [← rv.length, ← szL_eq]; exact hz, fun p hp => ?_⟩
        obtain ⟨G3, R3, st3, rv3⟩ := (Out.tup hp p2).rel R2
        exact h G3 _ _ R3 (st2.trans st3) (rv3.back st2)
    · rcases h with ⟨_, _, z, _⟩ | ⟨_, _, z, _⟩ <;> cases z
theorem tE_list {es : List E} {σ : L2.St} {H : Hp} {Q : L2.VK} (h : tEX X cf Ex (.list es) σ H Q) : L2.tLst (tAX X cf Ex es) σ H Q := by
  obtain ⟨G, s, R, h⟩ := h
  simp only [evalE] at h
  refine ⟨G, s, R, ?_⟩
  cases e1 : evalEs cf es s with
  | bad => rw [e1] at h; rcases h with ⟨_, _, z, _⟩ | ⟨_, _, z, _⟩ <;> cases z
  | exc x s1 =>
    rw [e1] at h
    rcases h with ⟨_, _, z, _⟩ | ⟨_, _, z, h⟩ <;> cases z
    exact .inr ⟨_, _, rfl, h⟩
  | ok rs s1 =>
    rw [e1] at h
    simp only [Res.bind] at h
    refine .inl ⟨rs, s1, rfl, fun G1 H1 xs R1 st1 rv => ?_⟩
    split at h
    · rename_i hz
      cases e2 : keeps s1 rs with
      | none => rw [e2] at h; rcases h with ⟨_, _, z, _⟩ | ⟨_, _, z, _⟩ <;> cases z
      | some q =>
        obtain ⟨vs, s2⟩ := q
        rw [e2] at h
        rcases h with ⟨_, _, z, h⟩ | ⟨_, _, z, _⟩ <;> cases z
        obtain ⟨G2, R2, st2, m2, p2, _, _⟩ := keeps_ok R1 st1 rv e2
        refine ⟨by rw [← rv.length, ← szL_eq]; exact hz, fun p hp => ?_⟩
        obtain ⟨G3, R3, st3, rv3⟩ := (Out.lst hp p2).rel R2
        exact h G3 _ _ R3 (st2.trans st3) (rv3.back st2)
    · rcases h with ⟨_, _, z, _⟩ | ⟨_, _, z, _⟩ <;> cases z
/-- arguments -/
theorem PEs.pa {N : List Str} {k : Nat} {sc : Scope} : ∀ {es : List Expr} {es' : List E}, mapO (cE g N k sc) es = some es' → PEs X cf Ex es es' → PA X es (tAX X cf Ex es')
  | [], es', h, hp => by
    cases hp
    exact PA.imp L2.pa_nil fun σ H Q h => tA_nil h
  | e :: es, es', h, hp => by
    cases hp with
    | cons h1 h2 t =>
      rename_i e1 es1
      simp only [mapO] at h
      cases q1 : cE g N k sc e with
      | none => rw [q1] at h; cases h
      | some e2 =>
        cases q2 : mapO (cE g N k sc) es with
        | none => rw [q1, q2] at h; cases h
        | some es2 =>
          rw [q1, q2] at h
          cases h
          exact PA.imp (L2.pa_cons h1 (PEs.pa q2 t) (cE_star q1 es X.env)) fun σ H Q h => tA_cons h
theorem pe_tup' {es : List Expr} {es' : List E} {k : Nat} {pos : Pos} (h : PA X es (tAX X cf Ex es')) : PE X (.Tuple es k pos) (tEX X cf Ex (.tup es')) := PE.imp (L2.pe_tup h) fun σ H Q h => tE_tup h
theorem pe_list' {es : List Expr} {es' : List E} {pos : Pos} (h : PA X es (tAX X cf Ex es')) : PE X (.List es pos) (tEX X cf Ex (.list es')) := PE.imp (L2.pe_lst h) fun σ H Q h => tE_list h

/-! subscripts and slices -/
theorem pe_ix' {a b : Expr} {a' b' : E} {pos : Pos} (hs : isSliceE b = false) (ha : PE X a (tEX X cf Ex a')) (hb : PE X b (tEX X cf Ex b')) : PE X (.Subscript a b pos) (tEX X cf Ex (.prim .idx [a', b'])) :=
  PE.imp (L2.pe_ix ixAny ha hb (ix_plain hs)) fun σ H Q h => tE_prim2 (fun _ _ => rfl) h
/-- a slice's bound -/
def tBnd (X : L2.Cx) (cf : CF) (Ex : L2.WX) (e : E) : L2.TO := fun σ H Q => ∃ G s, Rel X.K X.mg G s σ H ∧
  ((∃ r b s', evalE cf e s = .ok r s' ∧ bndOf s' (isAbs e) r = some b ∧ ∀ G' H', Rel X.K X.mg G' s' σ H' → Step G H G' H' → Q b H') ∨ (∃ x s', evalE cf e s = .exc x s' ∧ xcP X.K X.mg Ex x s' G σ H))
theorem PO.imp {e : Option Expr} {t t' : L2.TO} (h : PO X e t) (i : ∀ σ H Q, t' σ H Q → t σ H Q) : PO X e t' := ⟨fun pins s σ H Q I q => h.run pins s σ H Q I (i σ H Q q)⟩
theorem po_none' : PO X none (tBnd X cf Ex (.con .non)) := by
  refine PO.imp L2.po_none fun σ H Q h => ?_
  obtain ⟨G, s, R, h⟩ := h
  simp only [evalE] at h
  rcases h with ⟨_, _, _, z, e, h⟩ | ⟨_, _, z, _⟩ <;> cases z
  cases e
  exact h G H R .refl
theorem po_some' {e : Expr} {e' : E} (ha : isAbs e' = false) (h : PE X e (tEX X cf Ex e')) : PO X (some e) (tBnd X cf Ex e') := by
  refine PO.imp (L2.po_some h) fun σ H Q h => ?_
  obtain ⟨G, s, R, h⟩ := h
  refine ⟨G, s, R, ?_⟩
  rcases h with ⟨r, b, s1, e1, e2, h⟩ | h
  · refine .inl ⟨r, s1, e1, fun G1 H1 x R1 st1 rv => ?_⟩
    unfold bndOf at e2
    rw [ha, if_neg Bool.false_ne_true] at e2
    split at e2 <;> cases e2
    rename_i i ec
    exact ⟨i, (cont_ok R1 rv ec).int, h G1 H1 R1 st1⟩
  · exact .inr h
theorem tE_slice {a lo hi : E} {σ : L2.St} {H : Hp} {Q : L2.VK} (h : tEX X cf Ex (.slice a lo hi) σ H Q) : L2.tSl (rSl X.K X.mg) (tEX X cf Ex a) (tBnd X cf Ex lo) (tBnd X cf Ex hi) σ H Q := by
  obtain ⟨G, s, R, h⟩ := h
  simp only [evalE] at h
  refine ⟨G, s, R, ?_⟩
  cases e1 : evalE cf a s with
  | bad => rw [e1] at h; rcases h with ⟨_, _, z, _⟩ | ⟨_, _, z, _⟩ <;> cases z
  | exc x s1 =>
    rw [e1] at h
    rcases h with ⟨_, _, z, _⟩ | ⟨_, _, z, h⟩ <;> cases z
    exact .inr ⟨_, _, rfl, h⟩
  | ok ra s1 =>
    rw [e1] at h
    simp only [Res.bind] at h
    refine .inl ⟨ra, s1, rfl, fun G1 H1 x R1 st1 rv1 => ⟨G1, s1, R1, ?_⟩⟩
    cases e2 : evalE cf lo s1 with
    | bad => rw [e2] at h; rcases h with ⟨_, _, z, _⟩ | ⟨_, _, z, _⟩ <;> cases z
    | exc x s2 =>
      rw [e2] at h
      rcases h with ⟨_, _, z, _⟩ | ⟨_, _, z, h⟩ <;> cases z
      exact .inr ⟨_, _, rfl, h.step st1⟩
    | ok rl s2 =>
      rw [e2] at h
      simp only at h
      cases e3 : bndOf s2 (isAbs lo) rl with
      | none => rw [e3] at h; rcases h with ⟨_, _, z, _⟩ | ⟨_, _, z, _⟩ <;> cases z
      | some l =>
        rw [e3] at h
        simp only at h
        refine .inl ⟨rl, l, s2, rfl, e3, fun G2 H2 R2 st2 => ⟨G2, s2, R2, ?_⟩⟩
        cases e4 : evalE cf hi s2 with
        | bad => rw [e4] at h; rcases h with ⟨_, _, z, _⟩ | ⟨_, _, z, _⟩ <;> cases z
        | exc x s2 =>
          rw [e4] at h
          rcases h with ⟨_, _, z, _⟩ | ⟨_, _, z, h⟩ <;> cases z
          exact .inr ⟨_, _, rfl, h.step (st1.trans st2)⟩
        | ok rh s3 =>
          rw [e4] at h
          simp only at h
          cases e5 : bndOf s3 (isAbs hi) rh with
          | none => rw [e5] at h; rcases h with ⟨_, _, z, _⟩ | ⟨_, _, z, _⟩ <;> cases z
          | some u =>
            rw [e5] at h
            simp only at h
            refine .inl ⟨rh, u, s3, rfl, e5, fun G3 H3 R3 st3 => ?_⟩
            cases e6 : cont s3 ra with
            | none => rw [e6] at h; rcases h with ⟨_, _, z, _⟩ | ⟨_, _, z, _⟩ <;> cases z
            | some c =>
              rw [e6] at h
              simp only at h
              cases e7 : slSem l u c with
              | none => rw [e7] at h; rcases h with ⟨_, _, z, _⟩ | ⟨_, _, z, _⟩ <;> cases z
              | some r =>
                rw [e7] at h
                rcases h with ⟨_, _, z, h⟩ | ⟨_, _, z, _⟩ <;> cases z
                have rv3 := rv1.mono (st2.trans st3)
                refine ⟨G3, c, _, cont_ok R3 rv3 e6, e7, fun z H4 oz => ?_⟩
                obtain ⟨G4, R4, st4, rv4⟩ := oz.rel R3
                exact h G4 H4 z R4 (((st1.trans st2).trans st3).trans st4) (rv4.back ((st1.trans st2).trans st3))
theorem pe_slice' {a : Expr} {lo hi : Option Expr} {a' l h : E} {pos p2 : Pos} (ha : PE X a (tEX X cf Ex a')) (hl : PO X lo (tBnd X cf Ex l)) (hh : PO X hi (tBnd X cf Ex h)) :
    PE X (.Subscript a (.Slice lo hi none p2) pos) (tEX X cf Ex (.slice a' l h)) := PE.imp (L2.pe_slice slAny ha hl hh) fun σ H Q h => tE_slice h

/-! calls -/
theorem tE_call {f : Str} {es : List E} {σ : L2.St} {H : Hp} {Q : L2.VK} (h : tEX X cf Ex (.call f es) σ H Q) : tAX X cf Ex es σ H fun xs H1 => spF X.K X.mg cf f xs H1 Q (fun c d H => Ex c d σ H) := by
  obtain ⟨G, s, R, h⟩ := h
  simp only [evalE] at h
  refine ⟨G, s, R, ?_⟩
  cases e1 : evalEs cf es s with
  | bad => rw [e1] at h; rcases h with ⟨_, _, z, _⟩ | ⟨_, _, z, _⟩ <;> cases z
  | exc x s1 =>
    rw [e1] at h
    rcases h with ⟨_, _, z, _⟩ | ⟨_, _, z, h⟩ <;> cases z
    exact .inr ⟨_, _, rfl, h⟩
  | ok rs s1 =>
    rw [e1] at h
    simp only [Res.bind] at h
    exact .inl ⟨rs, s1, rfl, fun G1 H1 xs R1 st1 rv => call_ok R1 st1 rv h⟩
theorem pe_call' {N : List Str} {k : Nat} {sc : Scope} (o : XO X g cf Ex) {f : Str} {es : List Expr} {es' : List E} {p pos : Pos} (hp : plainNm f = true) (hg : glB X.env.scope f = true) (hf : f ∈ g.fns) (he : mapO (cE g N k sc) es = some es') (ha : PA X es (tAX X cf Ex es')) :
    PE X (.Call (.Name f p) es [] pos) (tEX X cf Ex (.call f es')) := by
  obtain ⟨n, a, fd, ps, F, hr, hm, hk, hb, _⟩ := o.fns f hf
  cases es with
  | nil =>
    refine ⟨fun pins s σ H Q I h => ?_⟩
    cases he
    have h := tA_nil (tE_call h)
    refine wpAny_Call_Name_kw (L2.ld_glob I (gl_of hg) hm ?_ (nm_ne hp).1)
    exact PySem.W.callWith_K0 I.kIn hk (L2.run_fnSD (us := []) (dvs := []) (E := fun σ c d H => Ex c d σ H) F hr hb .nil (o.pass σ) I .nil h)
  | cons e es =>
    refine PE.imp (L2.pe_callSD (dvs := []) (E := fun σ c d H => Ex c d σ H) F hr (gl_of hg) hm hk hb .nil o.pass ha (nm_ne hp).1 ?_ ?_) fun σ H Q h => ?_
    · rw [cEs_star he, List.map_cons]
      simp only [mapO] at he
      cases q1 : cE g N k sc e with
      | none => rw [q1] at he; cases he
      | some e1 =>
        cases q2 : mapO (cE g N k sc) es with
        | none => rw [q1, q2] at he; cases he
        | some es1 => rw [cEs_star q2]
    · simp only [mapO] at he
      cases q1 : cE g N k sc e with
      | none => rw [q1] at he; cases he
      | some e1 =>
        cases q2 : mapO (cE g N k sc) es with
        | none => rw [q1, q2] at he; cases he
        | some es1 => rw [cEs_star q2]; exact backTo_plain pos es X.env
    · exact tA_mono (tE_call h) fun xs H1 q => by rw [List.append_nil]; exact q
/-- of one thing, built in -/
theorem callR1 (o : XO X g cf Ex) {x : Str} {p : P} (h : blt1 x = some p) : ∃ f, (∀ c, primSem p [c] = f c) ∧ x ∈ bnames ∧ ((∃ id, CallR X (.builtin id) (rC1 X.K X.mg f) ∧ bootBuiltins x = some (.builtin id)) ∨ ∃ T, CallR X (.type T) (rC1 X.K X.mg f) ∧ bootBuiltins x = some (.type T)) := by
  unfold blt1 at h
  split at h
  · rename_i e; cases h; subst e; exact ⟨_, fun _ => rfl, by decide +kernel, .inl ⟨_, callLen, by decide +kernel⟩⟩
  split at h
  · rename_i e; cases h; subst e; exact ⟨_, fun _ => rfl, by decide +kernel, .inl ⟨_, callAbs, by decide +kernel⟩⟩
  split at h
  · rename_i e; cases h; subst e; exact ⟨_, fun _ => rfl, by decide +kernel, .inr ⟨_, callToInt, by decide +kernel⟩⟩
  split at h
  · rename_i e; cases h; subst e; exact ⟨_, fun _ => rfl, by decide +kernel, .inr ⟨_, callToTup, by decide +kernel⟩⟩
  split at h
  · rename_i e; cases h; subst e; exact ⟨_, fun _ => rfl, by decide +kernel, .inr ⟨_, callToList, by decide +kernel⟩⟩
  split at h
  · rename_i e; cases h; subst e; exact ⟨_, fun _ => rfl, by decide +kernel, .inl ⟨_, callAll o.calm, by decide +kernel⟩⟩
  split at h
  · rename_i e; cases h; subst e; exact ⟨_, fun _ => rfl, by decide +kernel, .inl ⟨_, callAny o.calm, by decide +kernel⟩⟩
  split at h
  · rename_i e; cases h; subst e; exact ⟨_, fun _ => rfl, by decide +kernel, .inl ⟨_, callSum o.calm, by decide +kernel⟩⟩
  split at h
  · rename_i e; cases h; subst e; exact ⟨_, fun _ => rfl, by decide +kernel, .inr ⟨_, callToStr, by decide +kernel⟩⟩
  split at h
  · rename_i e; cases h; subst e; exact ⟨_, fun _ => rfl, by decide +kernel, .inl ⟨_, callMaxL o.calm, by decide +kernel⟩⟩
  split at h
  · rename_i e; cases h; subst e; exact ⟨_, fun _ => rfl, by decide +kernel, .inl ⟨_, callMinL o.calm, by decide +kernel⟩⟩
  split at h
  · rename_i e; cases h; subst e; exact ⟨_, fun _ => rfl, by decide +kernel, .inl ⟨_, callSorted, by decide +kernel⟩⟩
  cases h
theorem pe_blt1 {N : List Str} {k : Nat} {sc : Scope} (o : XO X g cf Ex) {x : Str} {p : P} {e : Expr} {e' : E} {np pos : Pos} (hp : plainNm x = true) (hg : glB X.env.scope x = true) (h : blt1 x = some p) (he : cE g N k sc e = some e') (ha : PE X e (tEX X cf Ex e')) :
    PE X (.Call (.Name x np) [e] [] pos) (tEX X cf Ex (.prim p [e'])) := by
  obtain ⟨f, hf, hb, hc⟩ := callR1 o h
  have red : ∀ σ H (Q : L2.VK), tEX X cf Ex (.prim p [e']) σ H Q → L2.tCB (rC1 X.K X.mg f) (L2.tCons (tEX X cf Ex e') L2.tNil) σ H Q := fun σ H Q h =>
    tE_mono (tE_prim1 hf h) fun x H1 q => ⟨x, rfl, q⟩
  obtain ⟨h3, h4⟩ := nm_ne hp
  have pa := L2.pa_cons ha L2.pa_nil (cE_star he [] X.env)
  rcases hc with ⟨id, hc, hv⟩ | ⟨T, hc, hv⟩
  · exact PE.imp (L2.pe_callB hc (gl_of hg) (o.bn x hb) hv pa h4 h3 (cE_star he [] X.env) rfl) red
  · exact PE.imp (L2.pe_callTy hc (gl_of hg) (o.bn x hb) hv pa h4 h3 (cE_star he [] X.env) rfl) red
theorem callR2 (o : XO X g cf Ex) {x : Str} {p : P} (h : blt2 x = some p) : ∃ f, (∀ c d, primSem p [c, d] = f c d) ∧ x ∈ bnames ∧ ∃ id, CallR X (.builtin id) (rC2 X.K X.mg f) ∧ bootBuiltins x = some (.builtin id) := by
  unfold blt2 at h
  split at h
  · rename_i e; cases h; subst e; exact ⟨_, fun _ _ => rfl, by decide +kernel, _, callIsi, by decide +kernel⟩
  split at h
  · rename_i e; cases h; subst e; exact ⟨_, fun _ _ => rfl, by decide +kernel, _, callMin o.calm, by decide +kernel⟩
  split at h
  · rename_i e; cases h; subst e; exact ⟨_, fun _ _ => rfl, by decide +kernel, _, callMax o.calm, by decide +kernel⟩
  cases h
theorem pe_blt2 {N : List Str} {k : Nat} {sc : Scope} (o : XO X g cf Ex) {x : Str} {p : P} {e d : Expr} {e' d' : E} {np pos : Pos} (hp : plainNm x = true) (hg : glB X.env.scope x = true) (h : blt2 x = some p) (he : cE g N k sc e = some e') (hd : cE g N k sc d = some d')
    (ha : PE X e (tEX X cf Ex e')) (hb' : PE X d (tEX X cf Ex d')) : PE X (.Call (.Name x np) [e, d] [] pos) (tEX X cf Ex (.prim p [e', d'])) := by
  obtain ⟨f, hf, hb, id, hc, hv⟩ := callR2 o h
  have red : ∀ σ H (Q : L2.VK), tEX X cf Ex (.prim p [e', d']) σ H Q → L2.tCB (rC2 X.K X.mg f) (L2.tCons (tEX X cf Ex e') (L2.tCons (tEX X cf Ex d') L2.tNil)) σ H Q := fun σ H Q h =>
    tE_mono (tE_prim2 hf h) fun x H1 q => tE_mono q fun y H2 q => ⟨x, y, rfl, q⟩
  obtain ⟨h3, h4⟩ := nm_ne hp
  have pa := L2.pa_cons ha (L2.pa_cons hb' L2.pa_nil (cE_star hd [] X.env)) (cE_star he [d] X.env)
  exact PE.imp (L2.pe_callB hc (gl_of hg) (o.bn x hb) hv pa h4 h3 (cE_star he [d] X.env) (by rw [cE_star hd]; rfl)) red

/-! deeds: append, pop -/
theorem ob_kind {K : PySem.W.Frag} {mg : Str → Option Value} {G : Gh} {H : Hp} {a : Addr} {o : PV} (h : ObR K mg G H a o) : (∀ xs, H a ≠ some (.tup xs)) ∧ ∀ q u, H a ≠ some (.frz q u) := by
  cases o <;> first
    | exact h.elim
    | (obtain ⟨_, e, _⟩ := h; rw [e]; exact ⟨(fun _ z => nomatch z), (fun _ _ z => nomatch z)⟩)
theorem write_step {K : PySem.W.Frag} {mg : Str → Option Value} {G : Gh} {H : Hp} {a : Addr} {o : PV} {ho : HO} (h : ObR K mg G H a o) (h1 : G a ≠ .fz) (h2 : G a ≠ .hold) : Step G H G (upd H a ho) := by
  obtain ⟨k1, k2⟩ := ob_kind h
  refine ⟨⟨fun b e => ⟨e, upd_ne fun z => h1 (z ▸ e)⟩, fun b l e => e, fun b xs e => ?_, fun b q u e => ?_⟩, fun b e => ⟨e, upd_ne fun z => h2 (z ▸ e)⟩⟩
  · rw [upd_ne (fun z => k1 xs (by rw [← z]; exact e))]; exact e
  · rw [upd_ne (fun z => k2 q u (by rw [← z]; exact e))]; exact e
/-- the object behind a handle, and what a change of it leaves -/
theorem mut_obj {K : PySem.W.Frag} {mg : Str → Option Value} {G0 G : Gh} {s s' : SS} {σ : L2.St} {H : Hp} {r : RV} {x : V} {o o' : PV} (R : Rel K mg G s σ H) (rv : RVR K mg G0 G H σ r x) (hc : cont s r = some o) (hp : putBack r o' s = some s') :
    ∃ a, x = .ref a ∧ ObR K mg G H a o ∧ (∀ ho : HO, Step G H G (upd H a ho)) ∧ ∀ ho : HO, ObR K mg G (upd H a ho) a o' → Rel K mg G s' σ (upd H a ho) := by
  have slotCase : ∀ {i : Nat} {o1 : PV}, s.env[i]? = some (.own o1) → σ[i]? = some (some x) → o1 = o → s' = { s with env := s.env.set i (.own o') } → ∃ a, x = .ref a ∧ ObR K mg G H a o ∧ (∀ ho : HO, Step G H G (upd H a ho)) ∧ ∀ ho : HO, ObR K mg G (upd H a ho) a o' → Rel K mg G s' σ (upd H a ho) := by
    intro i o1 ei hx eo es
    subst eo es
    obtain ⟨a, e1, g, ob⟩ := R.own ei
    rw [hx] at e1
    cases e1
    have n1 : G a ≠ .fz := by rw [g]; exact fun z => nomatch z
    have n2 : G a ≠ .hold := by rw [g]; exact fun z => nomatch z
    refine ⟨a, rfl, ob, fun ho => write_step ob n1 n2, fun ho nb => ?_⟩
    have st := write_step (ho := ho) ob n1 n2
    refine ⟨by simp [R.len], fun j sl ej => ?_, fun l so el => ?_, R.uniq, fun b hb => ?_, R.lim⟩
    · by_cases hj : j = i
      · subst hj
        rw [List.getElem?_set_self (List.getElem?_eq_some_iff.mp ei).1] at ej
        cases ej
        exact ⟨a, get_join hx, g, nb⟩
      · rw [List.getElem?_set_ne (Ne.symm hj)] at ej
        have sr := R.slots j sl ej
        cases sl with
        | un => trivial
        | val v => obtain ⟨y, e1, p⟩ := sr; exact ⟨y, e1, p.step st.mono⟩
        | own c =>
          obtain ⟨b, e1, gb, obb⟩ := sr
          have n : b ≠ a := fun z => by rw [z, g] at gb; cases gb; exact hj rfl
          exact ⟨b, e1, gb, obb.step (upd_ne n) st.mono⟩
    · obtain ⟨b, gb, h⟩ := R.sto l so el
      have n : b ≠ a := fun z => by rw [z, g] at gb; cases gb
      exact ⟨b, gb, h.step (upd_ne n) st.mono⟩
    · by_cases n : b = a
      · subst n; rw [upd_same]; exact fun z => nomatch z
      · rw [upd_ne n]; exact R.trk b hb
  have boxCase : ∀ {l : Nat} {o1 : PV}, PVR K mg G H (.ref l) x → s.sto[l]? = some (.box o1) → o1 = o → s' = { s with sto := s.sto.set l (.box o') } → ∃ a, x = .ref a ∧ ObR K mg G H a o ∧ (∀ ho : HO, Step G H G (upd H a ho)) ∧ ∀ ho : HO, ObR K mg G (upd H a ho) a o' → Rel K mg G s' σ (upd H a ho) := by
    intro l o1 p el eo es
    subst eo es
    obtain ⟨a, g, ob⟩ := R.sto l _ el
    have ob : ObR K mg G H a o1 := ob
    cases p with
    | ref g' =>
      have := R.uniq _ _ l g g'
      subst this
      have n1 : G a ≠ .fz := by rw [g]; exact fun z => nomatch z
      have n2 : G a ≠ .hold := by rw [g]; exact fun z => nomatch z
      refine ⟨a, rfl, ob, fun ho => write_step ob n1 n2, fun ho nb => ?_⟩
      have st := write_step (ho := ho) ob n1 n2
      refine ⟨R.len, fun j sl ej => ?_, fun k so ek => ?_, R.uniq, fun b hb => ?_, fun b k hb => by have := R.lim b k hb; simpa using this⟩
      · have sr := R.slots j sl ej
        cases sl with
        | un => trivial
        | val v => obtain ⟨y, e1, p⟩ := sr; exact ⟨y, e1, p.step st.mono⟩
        | own c =>
          obtain ⟨b, e1, gb, obb⟩ := sr
          have n : b ≠ a := fun z => by rw [z, g] at gb; cases gb
          exact ⟨b, e1, gb, obb.step (upd_ne n) st.mono⟩
      · have ek' : (s.sto.set l (.box o'))[k]? = some so := ek
        by_cases hk : k = l
        · subst hk
          rw [List.getElem?_set_self (List.getElem?_eq_some_iff.mp el).1] at ek'
          cases ek'
          exact ⟨a, g, nb⟩
        · rw [List.getElem?_set_ne (Ne.symm hk)] at ek'
          obtain ⟨b, gb, h⟩ := R.sto k so ek'
          have n : b ≠ a := fun z => by rw [z, g] at gb; cases gb; exact hk rfl
          exact ⟨b, gb, h.step (upd_ne n) st.mono⟩
      · by_cases n : b = a
        · subst n; rw [upd_same]; exact fun z => nomatch z
        · rw [upd_ne n]; exact R.trk b hb
  have ofRef : ∀ {l : Nat}, PVR K mg G H (.ref l) x → boxC s.sto (.ref l) = o → (match s.sto[l]? with | some (.box _) => some { s with sto := s.sto.set l (.box o') } | _ => none) = some s' → ∃ a, x = .ref a ∧ ObR K mg G H a o ∧ (∀ ho : HO, Step G H G (upd H a ho)) ∧ ∀ ho : HO, ObR K mg G (upd H a ho) a o' → Rel K mg G s' σ (upd H a ho) := by
    intro l p ec ep
    split at ep
    · rename_i o1 el
      cases ep
      refine boxCase p el ?_ rfl
      simpa only [boxC, el] using ec
    · cases ep
  cases r with
  | sh v =>
    cases v <;> first | (simp only [putBack] at hp; cases hp; done) | skip
    simp only [cont, Option.some.injEq] at hc
    exact ofRef rv hc hp
  | fr ob => cases hp
  | hd i =>
    have hx : σ[i]? = some (some x) := rv
    simp only [cont] at hc
    simp only [putBack] at hp
    cases ei : s.env[i]? with
    | none => rw [ei] at hc; cases hc
    | some sl =>
      rw [ei] at hc hp
      cases sl with
      | un => cases hc
      | own o1 =>
        simp only [Option.some.injEq] at hc hp
        exact slotCase ei hx hc hp.symm
      | val v =>
        cases v <;> first | (simp only at hp; cases hp; done) | skip
        obtain ⟨y, e1, p⟩ := R.val ei
        rw [hx] at e1
        cases e1
        simp only [Option.some.injEq] at hc
        exact ofRef p hc hp
/-- receiver, arguments, the deed -/
theorem tE_mut {m : M} {t : E} {es : List E} {σ : L2.St} {H : Hp} {Q : L2.VK} (h : tEX X cf Ex (.mut m t es) σ H Q) : tEX X cf Ex t σ H fun x H1 => (∃ c G, mutTy m (some c) = true ∧ CnR X.K X.mg G H1 c x) ∧ tAX X cf Ex es σ H1 fun xs H2 =>
    ∃ G a o o' vs v, x = .ref a ∧ ObR X.K X.mg G H2 a o ∧ PVRs X.K X.mg G H2 vs xs ∧ mutSem m o vs = some (o', v) ∧ (∀ ho : HO, Mono G H2 G (upd H2 a ho)) ∧
      ∀ ho z, ObR X.K X.mg G (upd H2 a ho) a o' → PVR X.K X.mg G (upd H2 a ho) v z → Q z (upd H2 a ho) := by
  obtain ⟨G, s, R, h⟩ := h
  simp only [evalE] at h
  refine ⟨G, s, R, ?_⟩
  cases e1 : evalE cf t s with
  | bad => rw [e1] at h; rcases h with ⟨_, _, z, _⟩ | ⟨_, _, z, _⟩ <;> cases z
  | exc x s1 =>
    rw [e1] at h
    rcases h with ⟨_, _, z, _⟩ | ⟨_, _, z, h⟩ <;> cases z
    exact .inr ⟨_, _, rfl, h⟩
  | ok r s1 =>
    rw [e1] at h
    simp only [Res.bind] at h
    split at h
    · rcases h with ⟨_, _, z, _⟩ | ⟨_, _, z, _⟩ <;> cases z
    · rename_i hty
      refine .inl ⟨r, s1, rfl, fun G1 H1 x R1 st1 rv1 => ⟨?_, G1, s1, R1, ?_⟩⟩
      · cases ec : cont s1 r with
        | none => rw [ec] at hty; cases m <;> exact absurd rfl hty
        | some c => exact ⟨c, G1, by rw [ec] at hty; simpa using hty, cont_ok R1 rv1 ec⟩
      · cases e2 : evalEs cf es s1 with
        | bad => rw [e2] at h; rcases h with ⟨_, _, z, _⟩ | ⟨_, _, z, _⟩ <;> cases z
        | exc x s2 =>
          rw [e2] at h
          rcases h with ⟨_, _, z, _⟩ | ⟨_, _, z, h⟩ <;> cases z
          exact .inr ⟨_, _, rfl, h.step st1⟩
        | ok rs s2 =>
          rw [e2] at h
          simp only at h
          refine .inl ⟨rs, s2, rfl, fun G2 H2 xs R2 st2 rvs => ?_⟩
          cases e3 : keeps s2 rs with
          | none => rw [e3] at h; rcases h with ⟨_, _, z, _⟩ | ⟨_, _, z, _⟩ <;> cases z
          | some q =>
            obtain ⟨vs, s3⟩ := q
            rw [e3] at h
            simp only at h
            cases e4 : cont s3 r with
            | none => rw [e4] at h; rcases h with ⟨_, _, z, _⟩ | ⟨_, _, z, _⟩ <;> cases z
            | some o =>
              rw [e4] at h
              simp only at h
              cases e5 : mutSem m o vs with
              | none => rw [e5] at h; rcases h with ⟨_, _, z, _⟩ | ⟨_, _, z, _⟩ <;> cases z
              | some q =>
                obtain ⟨o', v⟩ := q
                rw [e5] at h
                simp only at h
                cases e6 : putBack r o' s3 with
                | none => rw [e6] at h; rcases h with ⟨_, _, z, _⟩ | ⟨_, _, z, _⟩ <;> cases z
                | some s4 =>
                  rw [e6] at h
                  rcases h with ⟨_, _, z, h⟩ | ⟨_, _, z, _⟩ <;> cases z
                  obtain ⟨G3, R3, st3, m3, p3, _, _⟩ := keeps_ok R2 st2 rvs e3
                  have rv3 := rv1.mono st3
                  obtain ⟨a, rfl, ob, sts, fin⟩ := mut_obj R3 rv3 e4 e6
                  refine ⟨G3, a, o, o', vs, _, rfl, ob, p3, e5, fun ho => (sts ho).mono, fun ho z nb pz => ?_⟩
                  exact h G3 _ z (fin ho nb) ((st1.trans st3).trans (sts ho)) pz
theorem lst_ty {G : Gh} {H : Hp} {c : PV} {x : V} {m : M} (h : mutTy m (some c) = true) (hc : CnR X.K X.mg G H c x) : L2.tyV X.K "list" x H := by
  have : ∃ xs, c = .lst xs := by
    cases c <;> first
      | exact ⟨_, rfl⟩
      | cases h
  obtain ⟨xs, rfl⟩ := this
  obtain ⟨a, ys, rfl, h1, _⟩ := hc.lst
  exact .inl ⟨rfl, ys, .of h1⟩
theorem PVRs.one {K : PySem.W.Frag} {mg : Str → Option Value} {G : Gh} {H : Hp} {v : PV} {xs : List V} (h : PVRs K mg G H [v] xs) : ∃ x, xs = [x] ∧ PVR K mg G H v x := by
  cases h with
  | cons h t => cases t; exact ⟨_, rfl, h⟩
theorem pe_append {N : List Str} {k : Nat} {sc : Scope} {d e : Expr} {d' e' : E} {apos cpos : Pos} (hl : (apos.endLine == cpos.line) = true) (hc : isCallE d = false) (hd : cE g N k sc d = some d') (he : cE g N k sc e = some e')
    (hpd : PE X d (tEX X cf Ex d')) (hpe : PE X e (tEX X cf Ex e')) : PE X (.Call (.Attribute d "append" apos) [e] [] cpos) (tEX X cf Ex (.mut .append d' [e'])) := by
  refine PE.imp (L2.pe_bm PySem.F.plainAttrs_list PySem.F.slot_list_append PySem.F.type_list_append L2.mt_append hpd (L2.pa_cons hpe L2.pa_nil (cE_star he [] X.env)) (cE_base hd hc _ _) (by rw [cE_star he]; rfl) hl (cE_star he [] X.env) rfl) fun σ H Q h => ?_
  refine tE_mono (tE_mut h) fun x H1 ⟨⟨c, G, ht, hcn⟩, q⟩ => ⟨lst_ty ht hcn, ?_⟩
  refine tE_mono (tA_one q) fun y H2 ⟨G2, a, o, o', vs, v, ex, ob, pv, e5, ms, fin⟩ => ?_
  subst ex
  change appSem o vs = _ at e5
  unfold appSem at e5
  split at e5
  · rename_i xs w
    split at e5 <;> cases e5
    rename_i hz
    obtain ⟨ys, h1, p1⟩ := ob
    obtain ⟨y', ey, py⟩ := pv.one
    cases ey
    have st := ms (.lst (ys ++ [y]))
    exact ⟨a, ys, y, rfl, rfl, h1, by rw [← p1.length, ← szL_eq]; exact hz, fin _ _ ⟨_, upd_same, (p1.step st).append (.cons (py.step st) .nil)⟩ .non⟩
  · cases e5
theorem last_get {α : Type} {xs : List α} {v : α} (h : xs.getLast? = some v) : xs[xs.length - 1]? = some v := by rw [← List.getLast?_eq_getElem?]; exact h
theorem pe_pop {N : List Str} {k : Nat} {sc : Scope} {d : Expr} {d' : E} {apos cpos : Pos} (hl : (apos.endLine == cpos.line) = true) (hc : isCallE d = false) (hd : cE g N k sc d = some d')
    (hpd : PE X d (tEX X cf Ex d')) : PE X (.Call (.Attribute d "pop" apos) [] [] cpos) (tEX X cf Ex (.mut .pop d' [])) := by
  refine PE.imp (L2.pe_bm0 PySem.F.plainAttrs_list PySem.F.slot_list_pop PySem.F.type_list_pop L2.mt_pop hpd (cE_base hd hc _ _) hl) fun σ H Q h => ?_
  refine tE_mono (tE_mut h) fun x H1 ⟨⟨c, G, ht, hcn⟩, q⟩ => ⟨lst_ty ht hcn, ?_⟩
  obtain ⟨G2, a, o, o', vs, v, ex, ob, pv, e5, ms, fin⟩ := tA_nil q
  subst ex
  change popSem o vs = _ at e5
  unfold popSem at e5
  split at e5
  · rename_i xs
    split at e5 <;> cases e5
    rename_i w hw
    obtain ⟨ys, h1, p1⟩ := ob
    obtain ⟨y, hy, py⟩ := p1.get (last_get hw)
    rw [p1.length] at hy
    have st := ms (.lst ys.dropLast)
    exact ⟨a, ys, y, rfl, rfl, h1, hy, fin _ _ ⟨_, upd_same, p1.dropLast.step st⟩ (py.step st)⟩
  · cases e5
end
end TP

set_option Elab.async false
set_option linter.all false
set_option maxRecDepth 100000
set_option maxHeartbeats 8000000
/-! Sal5b: more rules of expressions. -/
namespace TP
open PySem PySem.Spec PyProof.Rows
open L2 (V Hp HO Key upd upd_same upd_ne SqL SqT Rd OpR UnR CallR IxR Vals Inv PE PT PW PA PI PG PGs PO PTs Vis Gl Loc MtR PK)

section
variable {X : L2.Cx} {g : Cg} {cf : CF} {Ex : L2.WX}
/-! x is True -/
theorem blC_inv {b : Expr} {c : Bool} (h : isBlC b = some c) : ∃ k p, b = .Constant (.bool c) k p := by
  unfold isBlC at h
  split at h
  · cases h; exact ⟨_, _, rfl⟩
  · cases h
theorem pe_isB' {a b : Expr} {a' : E} {c : Bool} {pos : Pos} (hb : isBlC b = some c) (ha : PE X a (tEX X cf Ex a')) : PE X (.Compare a [.Is] [b] pos) (tEX X cf Ex (.prim (.isB c) [a'])) ∧ PT X (.Compare a [.Is] [b] pos) (tTX X cf Ex (.prim (.isB c) [a'])) := by
  obtain ⟨k, p, rfl⟩ := blC_inv hb
  have red : ∀ {σ H} {Q : L2.VK}, tEX X cf Ex (.prim (.isB c) [a']) σ H Q → L2.tOp (fun x y H Q => y = .bl c ∧ rP1 X.K X.mg (isBSem c) x H Q) (tEX X cf Ex a') (L2.tC (.bl c)) σ H Q := fun h =>
    tE_mono (tE_prim1 (f := isBSem c) (fun _ => rfl) h) fun x H1 q => ⟨rfl, q⟩
  exact ⟨PE.imp (L2.pe_cmpR (opIsB c) ha L2.pe_bl (L2.nomark _)) fun σ H Q h => red h, PT.imp (L2.pt_cmpR (opIsB c) ha L2.pe_bl (L2.nomark _)) fun σ H Q h => red (tE_of_tT h)⟩
theorem pe_notB' {a b : Expr} {a' : E} {c : Bool} {pos : Pos} (hb : isBlC b = some c) (ha : PE X a (tEX X cf Ex a')) : PE X (.Compare a [.IsNot] [b] pos) (tEX X cf Ex (.prim (.notB c) [a'])) ∧ PT X (.Compare a [.IsNot] [b] pos) (tTX X cf Ex (.prim (.notB c) [a'])) := by
  obtain ⟨k, p, rfl⟩ := blC_inv hb
  have red : ∀ {σ H} {Q : L2.VK}, tEX X cf Ex (.prim (.notB c) [a']) σ H Q → L2.tOp (fun x y H Q => y = .bl c ∧ rP1 X.K X.mg (notBSem c) x H Q) (tEX X cf Ex a') (L2.tC (.bl c)) σ H Q := fun h =>
    tE_mono (tE_prim1 (f := notBSem c) (fun _ => rfl) h) fun x H1 q => ⟨rfl, q⟩
  exact ⟨PE.imp (L2.pe_cmpR (opNotB c) ha L2.pe_bl (L2.nomark _)) fun σ H Q h => red h, PT.imp (L2.pt_cmpR (opNotB c) ha L2.pe_bl (L2.nomark _)) fun σ H Q h => red (tE_of_tT h)⟩
/-! x[::-1] of a list -/
theorem pe_revs {a st : Expr} {a' : E} {p p2 : Pos} (hs : isM1 st = true) (ha : PE X a (tEX X cf Ex a')) : PE X (.Subscript a (.Slice none none (some st) p) p2) (tEX X cf Ex (.prim .revs [a'])) := by
  unfold isM1 at hs
  split at hs
  · have hs := of_decide_eq_true hs
    subst hs
    refine PE.imp (L2.pe_revL ha) fun σ H Q h => tE_mono (tE_prim1 (f := revsSem) (fun _ => rfl) h) fun x H1 ⟨G, c, r, hc, e, q⟩ => ?_
    unfold revsSem at e
    split at e <;> cases e
    obtain ⟨a, ys, rfl, h1, p1⟩ := hc.lst
    exact ⟨a, ys, rfl, .of h1, fun p hp => q _ _ (.lst hp p1.reverse)⟩
  · cases hs
/-! d[e] of a dict of the module -/
theorem tE_didx {x : Str} {tb : List (List Nat × PV)} {e : E} {σ : L2.St} {H : Hp} {Q : L2.VK} (h : tEX X cf Ex (.didx x tb e) σ H Q) : tEX X cf Ex e σ H fun y H1 => ∃ z v, y = .str ⟨z.toArray⟩ ∧ tb.lookup z = some v ∧ ∀ V, (∀ G H, PVR X.K X.mg G H v V) → Q V H1 := by
  obtain ⟨G, s, R, h⟩ := h
  simp only [evalE] at h
  refine ⟨G, s, R, ?_⟩
  cases e1 : evalE cf e s with
  | bad => rw [e1] at h; rcases h with ⟨_, _, z, _⟩ | ⟨_, _, z, _⟩ <;> cases z
  | exc x s1 =>
    rw [e1] at h
    rcases h with ⟨_, _, z, _⟩ | ⟨_, _, z, h⟩ <;> cases z
    exact .inr ⟨_, _, rfl, h⟩
  | ok r s1 =>
    rw [e1] at h
    simp only [Res.bind] at h
    refine .inl ⟨r, s1, rfl, fun G1 H1 y R1 st1 rv => ?_⟩
    split at h
    · rename_i z ec
      split at h
      · rename_i v ev
        rcases h with ⟨_, _, z, h⟩ | ⟨_, _, z, _⟩ <;> cases z
        exact ⟨z, v, (cont_ok R1 rv ec).str, ev, fun V p => h G1 H1 V R1 st1 (p G1 H1)⟩
      · rcases h with ⟨_, _, z, _⟩ | ⟨_, _, z, _⟩ <;> cases z
    · rcases h with ⟨_, _, z, _⟩ | ⟨_, _, z, _⟩ <;> cases z
theorem pe_didx (o : XO X g cf Ex) {N : List Str} {a i : Expr} {i' : E} {q : Str × List (List Nat × PV)} {pos : Pos} (hs : isSliceE i = false) (hd : dcOf g N X.env.scope a = some q) (hi : PE X i (tEX X cf Ex i')) : PE X (.Subscript a i pos) (tEX X cf Ex (.didx q.1 q.2 i')) := by
  unfold dcOf at hd
  split at hd
  · rename_i x p
    split at hd
    · rename_i hp
      rw [Bool.and_eq_true] at hp
      obtain ⟨tb, hl, rfl⟩ := Option.map_eq_some_iff.mp hd
      obtain ⟨a, es, n, hm, kd, hz⟩ := o.dcs x tb hl
      refine PE.imp (L2.pe_ix L2.ix_kdict (L2.pe_glob (v := .ref a) (gl_of hp.2) hm rfl (nm_ne hp.1).1) hi (ix_plain hs)) fun σ H Q h => ?_
      refine tE_mono (tE_didx h) fun y H1 ⟨z, v, ey, ev, q⟩ => ?_
      obtain ⟨u, V, h1, h2, h3⟩ := hz z v ev
      exact ⟨a, _, V, rfl, ey, ⟨es, n, u, kd.at_, kd.lit, h1, h2⟩, q V h3⟩
    · cases hd
  · cases hd
/-! methods of one thing that are operations -/
theorem ops1 {m : Str} {p : P} (h : mth1 m = some p) : ∃ f id, (∀ c d, primSem p [c, d] = f c d) ∧ (∀ c d, (f c d).isSome = true → ∃ x, c = .str x) ∧ MtR X id (rM1 X.K X.mg f) ∧ Slot "str" m id ∧ typeOf (.builtin id) = pure (.type "method_descriptor") := by
  unfold mth1 at h
  split at h
  · rename_i e; subst e; cases h
    refine ⟨joinSem, _, fun _ _ => rfl, fun c d q => ?_, mtJoin, PySem.F.slot_str_join, PySem.F.type_str_join⟩
    unfold joinSem at q
    split at q <;> first | exact ⟨_, rfl⟩ | cases q
  split at h
  · rename_i e; subst e; cases h
    refine ⟨splitSem, _, fun _ _ => rfl, fun c d q => ?_, mtSplit, PySem.F.slot_str_split, PySem.F.type_str_split⟩
    unfold splitSem at q
    split at q <;> first | exact ⟨_, rfl⟩ | cases q
  split at h
  · rename_i e; subst e; cases h
    refine ⟨startsSem, _, fun _ _ => rfl, fun c d q => ?_, mtStarts, PySem.F.slot_str_startswith, PySem.F.type_str_startswith⟩
    unfold startsSem at q
    split at q <;> first | exact ⟨_, rfl⟩ | cases q
  cases h
theorem tE_sm {p : P} {t e : E} {f : PV → PV → Option RV} (hp : ∀ c d, primSem p [c, d] = f c d) {σ : L2.St} {H : Hp} {Q : L2.VK} (h : tEX X cf Ex (.sm p t e) σ H Q) :
    tEX X cf Ex t σ H fun x H1 => (∃ z, x = .str z) ∧ tEX X cf Ex e σ H1 fun y H2 => rP2 X.K X.mg f x y H2 Q := by
  obtain ⟨G, s, R, h⟩ := h
  simp only [evalE] at h
  refine ⟨G, s, R, ?_⟩
  cases e1 : evalE cf t s with
  | bad => rw [e1] at h; rcases h with ⟨_, _, z, _⟩ | ⟨_, _, z, _⟩ <;> cases z
  | exc x s1 =>
    rw [e1] at h
    rcases h with ⟨_, _, z, _⟩ | ⟨_, _, z, h⟩ <;> cases z
    exact .inr ⟨_, _, rfl, h⟩
  | ok r s1 =>
    rw [e1] at h
    simp only [Res.bind] at h
    refine .inl ⟨r, s1, rfl, fun G1 H1 x R1 st1 rv => ?_⟩
    split at h
    · rename_i z ec
      have ex := (cont_ok R1 rv ec).str
      subst ex
      refine ⟨⟨_, rfl⟩, G1, s1, R1, ?_⟩
      cases e2 : evalE cf e s1 with
      | bad => rw [e2] at h; rcases h with ⟨_, _, z, _⟩ | ⟨_, _, z, _⟩ <;> cases z
      | exc x s2 =>
        rw [e2] at h
        rcases h with ⟨_, _, z, _⟩ | ⟨_, _, z, h⟩ <;> cases z
        exact .inr ⟨_, _, rfl, h.step st1⟩
      | ok r2 s2 =>
        rw [e2] at h
        simp only at h
        refine .inl ⟨r2, s2, rfl, fun G2 H2 y R2 st2 rv2 => ?_⟩
        cases e3 : cont s2 r2 with
        | none => rw [e3] at h; rcases h with ⟨_, _, z, _⟩ | ⟨_, _, z, _⟩ <;> cases z
        | some d =>
          rw [e3] at h
          simp only [hp] at h
          cases e4 : f (.str z) d with
          | none => rw [e4] at h; rcases h with ⟨_, _, z, _⟩ | ⟨_, _, z, _⟩ <;> cases z
          | some w =>
            rw [e4] at h
            rcases h with ⟨_, _, z, h⟩ | ⟨_, _, z, _⟩ <;> cases z
            refine ⟨G2, .str _, d, _, .inl (.str _), cont_ok R2 rv2 e3, e4, fun z H' oz => ?_⟩
            obtain ⟨G3, R3, st3, rv3⟩ := oz.rel R2
            exact h G3 H' z R3 ((st1.trans st2).trans st3) (rv3.back (st1.trans st2))
    · rcases h with ⟨_, _, z, _⟩ | ⟨_, _, z, _⟩ <;> cases z
theorem pe_sm {N : List Str} {k : Nat} {sc : Scope} {m : Str} {p : P} {d e : Expr} {d' e' : E} {apos cpos : Pos} (hm : mth1 m = some p) (hl : (apos.endLine == cpos.line) = true) (hc : isCallE d = false) (hd : cE g N k sc d = some d') (he : cE g N k sc e = some e')
    (hpd : PE X d (tEX X cf Ex d')) (hpe : PE X e (tEX X cf Ex e')) : PE X (.Call (.Attribute d m apos) [e] [] cpos) (tEX X cf Ex (.sm p d' e')) := by
  obtain ⟨f, id, hf, _, mr, sl, ty⟩ := ops1 hm
  refine PE.imp (L2.pe_bm PySem.F.plainAttrs_str sl ty mr hpd (L2.pa_cons hpe L2.pa_nil (cE_star he [] X.env)) (cE_base hd hc _ _) (by rw [cE_star he]; rfl) hl (cE_star he [] X.env) rfl) fun σ H Q h => ?_
  refine tE_mono (tE_sm hf h) fun x H1 ⟨⟨z, ez⟩, q⟩ => ⟨?_, ?_⟩
  · subst ez; rfl
  · exact tE_mono q fun y H2 q => ⟨y, rfl, q⟩
/-! deeds -/
theorem pe_clear {N : List Str} {k : Nat} {sc : Scope} {d : Expr} {d' : E} {apos cpos : Pos} (hl : (apos.endLine == cpos.line) = true) (hc : isCallE d = false) (hd : cE g N k sc d = some d')
    (hpd : PE X d (tEX X cf Ex d')) : PE X (.Call (.Attribute d "clear" apos) [] [] cpos) (tEX X cf Ex (.mut .clear d' [])) := by
  refine PE.imp (L2.pe_bm0 PySem.F.plainAttrs_list PySem.F.slot_list_clear PySem.F.type_list_clear L2.mt_clear hpd (cE_base hd hc _ _) hl) fun σ H Q h => ?_
  refine tE_mono (tE_mut h) fun x H1 ⟨⟨c, G, ht, hcn⟩, q⟩ => ⟨lst_ty ht hcn, ?_⟩
  obtain ⟨G2, a, o, o', vs, v, ex, ob, pv, e5, ms, fin⟩ := tA_nil q
  subst ex
  change clrSem o vs = _ at e5
  unfold clrSem at e5
  split at e5 <;> cases e5
  obtain ⟨ys, h1, p1⟩ := ob
  exact ⟨a, ys, rfl, rfl, h1, fin _ _ ⟨_, upd_same, .nil⟩ .non⟩
theorem pe_reverse {N : List Str} {k : Nat} {sc : Scope} {d : Expr} {d' : E} {apos cpos : Pos} (hl : (apos.endLine == cpos.line) = true) (hc : isCallE d = false) (hd : cE g N k sc d = some d')
    (hpd : PE X d (tEX X cf Ex d')) : PE X (.Call (.Attribute d "reverse" apos) [] [] cpos) (tEX X cf Ex (.mut .reverse d' [])) := by
  refine PE.imp (L2.pe_bm0 PySem.F.plainAttrs_list PySem.F.slot_list_reverse PySem.F.type_list_reverse L2.mt_reverse hpd (cE_base hd hc _ _) hl) fun σ H Q h => ?_
  refine tE_mono (tE_mut h) fun x H1 ⟨⟨c, G, ht, hcn⟩, q⟩ => ⟨lst_ty ht hcn, ?_⟩
  obtain ⟨G2, a, o, o', vs, v, ex, ob, pv, e5, ms, fin⟩ := tA_nil q
  subst ex
  change rvsSem o vs = _ at e5
  unfold rvsSem at e5
  split at e5 <;> cases e5
  obtain ⟨ys, h1, p1⟩ := ob
  have st := ms (.lst ys.reverse)
  exact ⟨a, ys, rfl, rfl, h1, fin _ _ ⟨_, upd_same, p1.reverse.step st⟩ .non⟩
theorem eraseIdx_pv {K : PySem.W.Frag} {mg : Str → Option Value} {G : Gh} {H : Hp} : ∀ {vs : List PV} {xs : List V} (i : Nat), PVRs K mg G H vs xs → PVRs K mg G H (vs.eraseIdx i) (xs.eraseIdx i)
  | _, _, _, .nil => .nil
  | _, _, 0, .cons _ t => t
  | _, _, i + 1, .cons h t => .cons h (eraseIdx_pv i t)
theorem pe_popAt {N : List Str} {k : Nat} {sc : Scope} {d e : Expr} {d' e' : E} {apos cpos : Pos} (hl : (apos.endLine == cpos.line) = true) (hc : isCallE d = false) (hd : cE g N k sc d = some d') (he : cE g N k sc e = some e')
    (hpd : PE X d (tEX X cf Ex d')) (hpe : PE X e (tEX X cf Ex e')) : PE X (.Call (.Attribute d "pop" apos) [e] [] cpos) (tEX X cf Ex (.mut .popAt d' [e'])) := by
  refine PE.imp (L2.pe_bm PySem.F.plainAttrs_list PySem.F.slot_list_pop PySem.F.type_list_pop L2.mt_popAt hpd (L2.pa_cons hpe L2.pa_nil (cE_star he [] X.env)) (cE_base hd hc _ _) (by rw [cE_star he]; rfl) hl (cE_star he [] X.env) rfl) fun σ H Q h => ?_
  refine tE_mono (tE_mut h) fun x H1 ⟨⟨c, G, ht, hcn⟩, q⟩ => ⟨lst_ty ht hcn, ?_⟩
  refine tE_mono (tA_one q) fun y H2 ⟨G2, a, o, o', vs, v, ex, ob, pv, e5, ms, fin⟩ => ?_
  subst ex
  change popASem o vs = _ at e5
  unfold popASem at e5
  split at e5
  · rename_i xs i
    split at e5
    · rename_i hz
      split at e5 <;> cases e5
      rename_i w hw
      obtain ⟨ys, h1, p1⟩ := ob
      obtain ⟨y', ey, py⟩ := pv.one
      cases ey
      cases py
      obtain ⟨y, hy, py⟩ := p1.get hw
      have hlt : i.toNat < ys.length := (List.getElem?_eq_some_iff.mp hy).1
      have st := ms (.lst (ys.eraseIdx i.toNat))
      refine ⟨a, ys, i, i.toNat, y, rfl, rfl, h1, by omega, hz.2, ?_, hy, fin _ _ ⟨_, upd_same, eraseIdx_pv _ (p1.step st)⟩ (py.step st)⟩
      have e1 : (if i < 0 then i + (ys.length : Int) else i) = i := if_neg (by omega)
      unfold seqIndex?
      simp only [e1]
      rw [if_pos (by simp only [Bool.and_eq_true, decide_eq_true_eq]; omega)]
    · cases e5
  · cases e5
theorem pe_insert {N : List Str} {k : Nat} {sc : Scope} {d e e2 : Expr} {d' e' e2' : E} {apos cpos : Pos} (hl : (apos.endLine == cpos.line) = true) (hc : isCallE d = false) (hd : cE g N k sc d = some d') (he : cE g N k sc e = some e') (he2 : cE g N k sc e2 = some e2')
    (hpd : PE X d (tEX X cf Ex d')) (hpe : PE X e (tEX X cf Ex e')) (hpe2 : PE X e2 (tEX X cf Ex e2')) : PE X (.Call (.Attribute d "insert" apos) [e, e2] [] cpos) (tEX X cf Ex (.mut .insert d' [e', e2'])) := by
  refine PE.imp (L2.pe_bm PySem.F.plainAttrs_list PySem.F.slot_list_insert PySem.F.type_list_insert L2.mt_insert hpd (L2.pa_cons hpe (L2.pa_cons hpe2 L2.pa_nil (cE_star he2 [] X.env)) (cE_star he [e2] X.env)) (cE_base hd hc _ _) (by rw [cE_star he, cE_star he2]; rfl) hl (cE_star he [e2] X.env) (by rw [cE_star he2]; rfl)) fun σ H Q h => ?_
  refine tE_mono (tE_mut h) fun x H1 ⟨⟨c, G, ht, hcn⟩, q⟩ => ⟨lst_ty ht hcn, ?_⟩
  refine tE_mono (tA_two q) fun y H2 q => tE_mono q fun y2 H3 ⟨G2, a, o, o', vs, v, ex, ob, pv, e5, ms, fin⟩ => ?_
  subst ex
  change insSem o vs = _ at e5
  unfold insSem at e5
  split at e5
  · rename_i xs i w
    split at e5 <;> cases e5
    rename_i hz
    obtain ⟨ys, h1, p1⟩ := ob
    cases pv with
    | cons p2 t => cases t with
      | cons p3 t =>
        cases t
        cases p2
        have st := ms (.lst (ys.take i.toNat ++ [y2] ++ ys.drop i.toNat))
        have p1' := p1.step st
        exact ⟨a, ys, i, y2, rfl, rfl, h1, by rw [← p1.length, ← szL_eq]; exact hz.1, hz.2.1, hz.2.2, fin _ _ ⟨_, upd_same, ((p1'.take _).append (.cons (p3.step st) .nil)).append (p1'.drop _)⟩ .non⟩
  · cases e5
/-! calls by keywords, of a slot's def -/
theorem permR_ok {K : PySem.W.Frag} {mg : Str → Option Value} {G0 G : Gh} {H : Hp} {σ : L2.St} {rs : List RV} {xs : List V} (rv : RVRs K mg G0 G H σ rs xs) : ∀ {pm : List (Sum Nat PV)} {qs : List RV} {ys : List V}, permR rs pm = some qs → PmRel K mg pm xs ys → (permIx pm).Nodup → RVRs K mg G0 G H σ qs ys ∧
    ∀ (j : Nat) o, qs[j]? = some (.fr o) → ∃ i ∈ permIx pm, rs[i]? = some (.fr o) ∧ ys[j]? = xs[i]?
  | [], qs, ys, e, pr, nd => by
    cases e
    have : ys = [] := List.eq_nil_of_length_eq_zero pr.1
    subst this
    exact ⟨.nil, fun j o h => by simp at h⟩
  | c :: pm, qs, ys, e, pr, nd => by
    obtain ⟨hl, hp⟩ := pr
    cases ys with
    | nil => simp at hl
    | cons y ys =>
      have pr' : PmRel K mg pm xs ys := ⟨by simpa using hl, fun j c h => by
        have := hp (j + 1) c (by simpa using h)
        cases c <;> simpa using this⟩
      cases c with
      | inl i =>
        simp only [permR] at e
        cases h1 : rs[i]? with
        | none => rw [h1] at e; cases e
        | some r =>
          cases h2 : permR rs pm with
          | none => rw [h1, h2] at e; cases e
          | some qs' =>
            rw [h1, h2] at e
            cases e
            obtain ⟨n1, n2⟩ := List.nodup_cons.mp (show (i :: permIx pm).Nodup from nd)
            obtain ⟨rv', fr'⟩ := permR_ok rv h2 pr' n2
            have hy : some y = xs[i]? := hp 0 (.inl i) rfl
            obtain ⟨x, ex, rx⟩ := rv.get h1
            rw [ex] at hy
            cases hy
            refine ⟨.cons rx (fun o eo o' j ej ey => ?_) rv', fun j o h => ?_⟩
            · subst eo
              obtain ⟨i', hi', er, ey'⟩ := fr' j o' ej
              rw [ey] at ey'
              have := rv.frU i i' o o' y h1 er ex ey'.symm
              exact n1 (this ▸ hi')
            · cases j with
              | zero =>
                simp at h
                subst h
                exact ⟨i, List.mem_cons_self .., h1, by simpa using ex.symm⟩
              | succ j =>
                obtain ⟨i', hi', er, ey'⟩ := fr' j o (by simpa using h)
                exact ⟨i', List.mem_cons_of_mem _ hi', er, by simpa using ey'⟩
      | inr v =>
        simp only [permR] at e
        obtain ⟨qs', h2, rfl⟩ := Option.map_eq_some_iff.mp e
        obtain ⟨rv', fr'⟩ := permR_ok rv h2 pr' nd
        obtain ⟨y', ey, py⟩ := hp 0 (.inr v) rfl
        simp at ey
        subst ey
        refine ⟨.cons (py G H) (fun o eo => by cases eo) rv', fun j o h => ?_⟩
        cases j with
        | zero => simp at h
        | succ j => simpa [permIx] using fr' j o (by simpa using h)
theorem tE_callK {f : Str} {es : List E} {pm : List (Sum Nat PV)} (hpm : permOk pm = true) {σ : L2.St} {H : Hp} {Q : L2.VK} (h : tEX X cf Ex (.callK f es pm) σ H Q) :
    tAX X cf Ex es σ H fun xs H1 => ∀ ys, PmRel X.K X.mg pm xs ys → spF X.K X.mg cf f ys H1 Q (fun c d H => Ex c d σ H) := by
  obtain ⟨G, s, R, h⟩ := h
  simp only [evalE] at h
  refine ⟨G, s, R, ?_⟩
  cases e1 : evalEs cf es s with
  | bad => rw [e1] at h; rcases h with ⟨_, _, z, _⟩ | ⟨_, _, z, _⟩ <;> cases z
  | exc x s1 =>
    rw [e1] at h
    rcases h with ⟨_, _, z, _⟩ | ⟨_, _, z, h⟩ <;> cases z
    exact .inr ⟨_, _, rfl, h⟩
  | ok rs s1 =>
    rw [e1] at h
    simp only [Res.bind] at h
    refine .inl ⟨rs, s1, rfl, fun G1 H1 xs R1 st1 rv ys pr => ?_⟩
    cases e2 : permR rs pm with
    | none => rw [e2] at h; rcases h with ⟨_, _, z, _⟩ | ⟨_, _, z, _⟩ <;> cases z
    | some qs =>
      rw [e2] at h
      exact call_ok R1 st1 (permR_ok rv e2 pr (of_decide_eq_true hpm)).1 h
theorem RVRs.app {K : PySem.W.Frag} {mg : Str → Option Value} {G0 G1 G : Gh} {H0 H1 H : Hp} {σ : L2.St} (s0 : Step G0 H0 G1 H1) (st : Step G1 H1 G H) {ts : List RV} {ys : List V} (t : RVRs K mg G1 G H σ ts ys) : ∀ {rs : List RV} {xs : List V}, RVRs K mg G0 G1 H1 σ rs xs → RVRs K mg G0 G H σ (rs ++ ts) (xs ++ ys)
  | _, _, .nil => t.back s0
  | _, _, .cons (r := r) (x := x) (rs := rs) (xs := xs) h d q => by
    refine .cons (h.mono st) (fun o e o' j ej ex => ?_) (RVRs.app s0 st t q)
    have hl := q.length
    change (rs ++ ts)[j]? = _ at ej
    change (xs ++ ys)[j]? = _ at ex
    by_cases hj : j < rs.length
    · rw [List.getElem?_append_left hj] at ej
      rw [List.getElem?_append_left (hl ▸ hj)] at ex
      exact d o e o' j ej ex
    · rw [List.getElem?_append_right (by omega)] at ej ex
      rw [← hl] at ex
      subst e
      obtain ⟨a, e1, g, _, _⟩ := h
      obtain ⟨y, e2, b, e3, _, n, _⟩ := t.get ej
      rw [ex] at e2
      cases e2
      rw [e1] at e3
      cases e3
      exact n g
theorem evalEs_app (cf : CF) : ∀ (as bs : List E) (s : SS), evalEs cf (as ++ bs) s = (evalEs cf as s).bind fun rs s1 => (evalEs cf bs s1).bind fun ts s2 => .ok (rs ++ ts) s2
  | [], bs, s => by
    simp only [List.nil_append, evalEs, Res.bind]
    cases evalEs cf bs s <;> rfl
  | a :: as, bs, s => by
    simp only [List.cons_append, evalEs]
    cases evalE cf a s with
    | ok r s1 =>
      simp only [Res.bind]
      rw [evalEs_app cf as bs s1]
      cases evalEs cf as s1 with
      | ok rs s2 =>
        simp only [Res.bind]
        cases evalEs cf bs s2 <;> rfl
      | exc _ _ => rfl
      | bad => rfl
    | exc _ _ => rfl
    | bad => rfl
theorem evalEs_ln : ∀ {es : List E} {s s' : SS} {rs : List RV}, evalEs cf es s = .ok rs s' → rs.length = es.length
  | [], s, s', rs, h => by simp only [evalEs] at h; cases h; rfl
  | e :: es, s, s', rs, h => by
    simp only [evalEs] at h
    cases h1 : evalE cf e s with
    | bad => rw [h1] at h; cases h
    | exc _ _ => rw [h1] at h; cases h
    | ok r s1 =>
      rw [h1] at h
      simp only [Res.bind] at h
      cases h2 : evalEs cf es s1 with
      | bad => rw [h2] at h; cases h
      | exc _ _ => rw [h2] at h; cases h
      | ok rs' s2 =>
        rw [h2] at h
        cases h
        simp [evalEs_ln h2]
theorem tA_app {as bs : List E} {σ : L2.St} {H : Hp} {Q : List V → Hp → Prop} (h : tAX X cf Ex (as ++ bs) σ H Q) : tAX X cf Ex as σ H fun xs H1 => xs.length = as.length ∧ tAX X cf Ex bs σ H1 fun ys H2 => ys.length = bs.length ∧ Q (xs ++ ys) H2 := by
  obtain ⟨G, s, R, h⟩ := h
  rw [evalEs_app] at h
  refine ⟨G, s, R, ?_⟩
  cases e1 : evalEs cf as s with
  | bad => rw [e1] at h; rcases h with ⟨_, _, z, _⟩ | ⟨_, _, z, _⟩ <;> cases z
  | exc x s1 =>
    rw [e1] at h
    rcases h with ⟨_, _, z, _⟩ | ⟨_, _, z, h⟩
    · cases z
    · cases z
      exact .inr ⟨_, _, rfl, h⟩
  | ok r s1 =>
    rw [e1] at h
    simp only [Res.bind] at h
    refine .inl ⟨r, s1, rfl, fun G1 H1 xs R1 st1 rv => ⟨rv.length.symm.trans (evalEs_ln e1), G1, s1, R1, ?_⟩⟩
    cases e2 : evalEs cf bs s1 with
    | bad => rw [e2] at h; rcases h with ⟨_, _, z, _⟩ | ⟨_, _, z, _⟩ <;> cases z
    | exc y s2 =>
      rw [e2] at h
      rcases h with ⟨_, _, z, _⟩ | ⟨_, _, z, h⟩
      · cases z
      · cases z
        exact .inr ⟨_, _, rfl, h.step st1⟩
    | ok rs s2 =>
      rw [e2] at h
      rcases h with ⟨_, _, z, h⟩ | ⟨_, _, z, _⟩
      · cases z
        exact .inl ⟨rs, s2, rfl, fun G2 H2 ys R2 st2 rvs => ⟨rvs.length.symm.trans (evalEs_ln e2), h G2 H2 _ R2 (st1.trans st2) (RVRs.app st1 st2 rvs rv)⟩⟩
      · cases z
theorem kwE_pk {N : List Str} {k : Nat} {sc : Scope} : ∀ {kws : List Keyword} {bs : List E}, mapO (cE g N k sc) (kwE kws) = some bs → PEs X cf Ex (kwE kws) bs → PK X kws (tAX X cf Ex bs)
  | [], bs, h, p => by
    cases h
    exact ⟨fun pos pins s σ H Q I h => L2.pk_nil.run pos pins s σ H Q I (tA_nil h)⟩
  | ⟨nm, e, kpos⟩ :: kws, bs, h, p => by
    change mapO (cE g N k sc) (e :: kwE kws) = some bs at h
    change PEs X cf Ex (e :: kwE kws) bs at p
    simp only [mapO] at h
    cases q1 : cE g N k sc e with
    | none => rw [q1] at h; cases h
    | some e1 =>
      cases q2 : mapO (cE g N k sc) (kwE kws) with
      | none => rw [q1, q2] at h; cases h
      | some bs' =>
        rw [q1, q2] at h
        cases h
        cases p with
        | cons p1 _ t =>
          have pk := L2.pk_cons (nm := nm) (kpos := kpos) p1 (kwE_pk q2 t)
          exact ⟨fun pos pins s σ H Q I h => pk.run pos pins s σ H Q I (tA_cons h)⟩
theorem kw_all : ∀ {kws : List Keyword} {ks : List Str} (pos : Pos) (env : Env), kwN kws = some ks → (backToKw pos (keywordEach kws env)).all (·.1.isSome) = true ∧ (backToKw pos (keywordEach kws env)).filterMap (·.1) = ks ∧ (backToKw pos (keywordEach kws env)).any (·.1.isNone) = false
  | [], ks, pos, env, h => by
    cases h
    exact ⟨rfl, rfl, rfl⟩
  | ⟨nm, e, kpos⟩ :: kws, ks, pos, env, h => by
    simp only [kwN, mapO] at h
    cases nm with
    | none => cases h
    | some x =>
      simp only at h
      split at h
      · cases h
      · rename_i ks' e2
        cases h
        obtain ⟨h1, h2, h3⟩ := kw_all (kws := kws) (ks := ks') pos env e2
        refine ⟨?_, ?_, ?_⟩
        · show (true && (backToKw pos (keywordEach kws env)).all (·.1.isSome)) = true
          rw [h1]; rfl
        · show x :: (backToKw pos (keywordEach kws env)).filterMap (·.1) = _
          rw [h2]
        · show (false || (backToKw pos (keywordEach kws env)).any (·.1.isNone)) = false
          rw [h3]; rfl
theorem run_fnNS {CX : L2.CXT} {k n : Nat} {f : Addr} {fd : FuncData} {ps ks : List Str} {sp : L2.Sp} {E : L2.XK} {gg : List Value → List Value → List Value} {gV : List V → List V → List V} {pins : List (Addr × Obj)} {σ : L2.St} {H : Hp} {s : Shared} {Q : L2.VK} {us ws : List Value} {vs zs : List V} (F : L2.FnOk X.prog X.w X.K X.mg X.base CX k f fd ps sp) (hr : L2.Room k X.A) (hb : L2.KBn X.K fd ps n ks gg gV) (hx : L2.PassesAt CX X σ E)
    (I : Inv X pins σ H s) (r : Vals vs us) (rz : Vals zs ws) (l1 : vs.length = n) (l2 : zs.length = ks.length) (h : sp (gV vs zs) H Q E) : wpAny (model X.prog X.w) X.A (call (.ref f) us (ks.zip ws)) (L2.EP X pins σ Q) X.xe s := by
  have r2 := hb.rel r rz
  refine wpAny_call (codeAny_mono (F.run X.A X.stack s H ⟨us, ks.zip ws⟩ (gg us ws) (gV vs zs) Q E hr I.env0 (hb.to s us ws I.kIn (r.length.symm.trans l1) (rz.length.symm.trans l2)) r2 h) fun r s' hq => ?_)
  cases r with
  | error e => exact hx pins H s e s' I hq
  | ok fl =>
    cases fl with
    | ret u => exact I.after hq
    | next => exact False.elim hq
    | brk => exact False.elim hq
    | cont => exact False.elim hq
theorem pe_callK' {N : List Str} {k : Nat} {sc : Scope} (o : XO X g cf Ex) {f : Str} {es : List Expr} {kws : List Keyword} {as bs : List E} {ks : List Str} {pm : List (Sum Nat PV)} {p pos : Pos} (hp : plainNm f = true) (hg : glB X.env.scope f = true) (hf : f ∈ g.fns) (he : mapO (cE g N k sc) es = some as) (hb : mapO (cE g N k sc) (kwE kws) = some bs)
    (hn : kwN kws = some ks) (hk : kpOf g f es.length ks = some pm) (ha : PA X es (tAX X cf Ex as)) (hkw : PK X kws (tAX X cf Ex bs)) : PE X (.Call (.Name f p) es kws pos) (tEX X cf Ex (.callK f (as ++ bs) pm)) := by
  unfold kpOf at hk
  split at hk
  · rename_i q hq
    split at hk
    · rename_i hpm
      cases hk
      rw [Bool.and_eq_true] at hpm
      have hq1 := List.find?_some hq
      have hq2 := List.mem_of_find?_eq_some hq
      obtain ⟨rfl, hqn, rfl⟩ := of_decide_eq_true hq1
      obtain ⟨n, a, fd, ps, F, hr, hm, hkp, _, hkb⟩ := o.fns _ hf
      obtain ⟨gg, gV, kb, pr⟩ := hkb q hq2 rfl
      obtain ⟨k1, k2, k3⟩ := kw_all pos X.env hn
      have las : as.length = es.length := by
        have : ∀ {es : List Expr} {as : List E}, mapO (cE g N k sc) es = some as → as.length = es.length := by
          intro es
          induction es with
          | nil => intro as h; cases h; rfl
          | cons e es ih =>
            intro as h
            simp only [mapO] at h
            split at h
            · cases h
            · split at h
              · cases h
              · rename_i e2; cases h; simp [ih e2]
        exact this he
      have lbs : bs.length = q.ks.length := by
        have l1 : ∀ {es : List Expr} {as : List E}, mapO (cE g N k sc) es = some as → as.length = es.length := by
          intro es
          induction es with
          | nil => intro as h; cases h; rfl
          | cons e es ih =>
            intro as h
            simp only [mapO] at h
            split at h
            · cases h
            · split at h
              · cases h
              · rename_i e2; cases h; simp [ih e2]
        have l2 : ∀ {kws : List Keyword} {ks : List Str}, kwN kws = some ks → ks.length = (kwE kws).length := by
          intro kws
          induction kws with
          | nil => intro ks h; cases h; rfl
          | cons c kws ih =>
            intro ks h
            obtain ⟨nm, e, kpos⟩ := c
            simp only [kwN, mapO] at h
            cases nm with
            | none => cases h
            | some x =>
              simp only at h
              split at h
              · cases h
              · rename_i e2; cases h; simp [ih e2, kwE]
        rw [l1 hb, l2 hn]
      have fin : ∀ (pins : List (Addr × Obj)) (s : Shared) (σ : L2.St) (H : Hp) (Q : L2.VK) (us ws : List Value) (vs zs : List V), Inv X pins σ H s → Vals vs us → Vals zs ws → vs.length = as.length → zs.length = bs.length → (∀ ys, PmRel X.K X.mg q.pm (vs ++ zs) ys → spF X.K X.mg cf q.f ys H Q (fun c d H => Ex c d σ H)) →
          wpAny (model X.prog X.w) X.A (call (.ref a) us (q.ks.zip ws)) (L2.EP X pins σ Q) X.xe s := fun pins s σ H Q us ws vs zs I r rz l1 l2 h =>
        run_fnNS F hr kb (o.pass σ) I r rz (l1.trans (las.trans hqn.symm)) (l2.trans lbs) (h _ (pr vs zs (l1.trans (las.trans hqn.symm)) (l2.trans lbs)))
      cases es with
      | nil =>
        refine ⟨fun pins s σ H Q I h => ?_⟩
        have h := tA_app (tE_callK hpm.1 h)
        cases he
        obtain ⟨l0, h⟩ := tA_nil h
        refine wpAny_Call_Name_kw (L2.ld_glob I (gl_of hg) hm ?_ (nm_ne hp).1)
        refine PySem.W.callWith_KW0 (h₀ := X.base) I.ok.mod.kin hkp k1 (L2.thn (hkw.run pos pins s σ H _ I h) fun ws s2 ⟨zs, H2, I2, rz, lz, q2⟩ => ⟨I2.kIn, ?_⟩) (by rw [k3]; rfl)
        rw [k2]
        exact fin pins s2 σ H2 Q [] ws [] zs I2 .nil rz rfl lz q2
      | cons e es =>
        have he1 := he
        simp only [mapO] at he1
        cases q1 : cE g N k sc e with
        | none => rw [q1] at he1; cases he1
        | some e1 =>
          cases q2 : mapO (cE g N k sc) es with
          | none => rw [q1, q2] at he1; cases he1
          | some es1 =>
            refine ⟨fun pins s σ H Q I h => ?_⟩
            have h := tA_app (tE_callK hpm.1 h)
            refine wpAny_Call_Name_kw (L2.ld_glob I (gl_of hg) hm ?_ (nm_ne hp).1)
            refine PySem.W.callWith_KW (h₀ := X.base) I.ok.mod.kin hkp k1 (L2.thn (ha.run pos pins s σ H _ I h) fun us s1 ⟨vs, H1, I1, r, lv, q⟩ => ?_) (by rw [cEs_star he, backTo_plain, k3]; rfl) (cE_star q1 es X.env)
            refine L2.thn (hkw.run pos pins s1 σ H1 _ I1 q) fun ws s2 ⟨zs, H2, I2, rz, lz, q2⟩ => ⟨I2.kIn, ?_⟩
            rw [k2]
            exact fin pins s2 σ H2 Q us ws vs zs I2 r rz lv lz q2
    · cases hk
  · cases hk
theorem pe_callL' {N : List Str} {k i : Nat} {sc : Scope} {fs : List Str} (o : XO X g cf Ex) (hfs : (fs.all fun f => g.fns.contains f) = true) {x : Str} {es : List Expr} {es' : List E} {p pos : Pos} (hp : plainNm x = true) (hi : X.N[i]? = some x) (hv : visB X.env.scope x = true) (he : mapO (cE g N k sc) es = some es') (ha : PA X es (tAX X cf Ex es')) :
    PE X (.Call (.Name x p) es [] pos) (tEX X cf Ex (.callL i fs es')) := by
  refine ⟨fun pins s σ H Q I h => ?_⟩
  obtain ⟨G, s0, R, h⟩ := h
  simp only [evalE] at h
  cases ei : s0.env[i]? with
  | none => rw [ei] at h; rcases h with ⟨_, _, z, _⟩ | ⟨_, _, z, _⟩ <;> cases z
  | some sl =>
    rw [ei] at h
    cases sl with
    | un => rcases h with ⟨_, _, z, _⟩ | ⟨_, _, z, _⟩ <;> cases z
    | own _ => rcases h with ⟨_, _, z, _⟩ | ⟨_, _, z, _⟩ <;> cases z
    | val v =>
      cases v with
      | glo f =>
        simp only at h
        split at h
        · rename_i hf
          have hf : f ∈ g.fns := by
            have := List.all_eq_true.mp hfs f (by simpa using hf)
            simpa using this
          obtain ⟨n, a, fd, ps, F, hr, hm, hkp, hb, _⟩ := o.fns f hf
          obtain ⟨xv, e1, pv⟩ := R.val ei
          cases pv with
          | glo em =>
            rw [hm] at em
            cases em
            have h' : tEX X cf Ex (.call f es') σ H Q := ⟨G, s0, R, by simp only [evalE]; exact h⟩
            have h' := tE_call h'
            simp only [plainNm, Bool.and_eq_true, Bool.not_eq_true'] at hp
            have vis : Vis X.env.scope x := by
              unfold visB at hv
              split at hv
              · rename_i z; exact .inl z
              · rename_i z; exact .inr (.inl z)
              · rename_i z; exact .inr (.inr z)
              · cases hv
            refine wpAny_Call_Name_kw (L2.thn ((L2.pe_var (pos := p) hi vis hp.1.1 hp.1.2).run pins s σ H (fun v H1 => v = .ref a ∧ H1 = H) I ⟨.ref a, e1, rfl, rfl⟩) fun u s1 ⟨v, H1, I1, r1, q1⟩ => ?_)
            obtain ⟨rfl, rfl⟩ := q1
            cases r1
            cases es with
            | nil =>
              cases he
              exact PySem.W.callWith_K0 I1.kIn hkp (L2.run_fnSD (us := []) (dvs := []) (E := fun σ c d H => Ex c d σ H) F hr hb .nil (o.pass σ) I1 .nil (tA_nil h'))
            | cons e es =>
              have he1 := he
              simp only [mapO] at he1
              cases q1 : cE g N k sc e with
              | none => rw [q1] at he1; cases he1
              | some e1 =>
                cases q2 : mapO (cE g N k sc) es with
                | none => rw [q1, q2] at he1; cases he1
                | some es1 =>
                  refine PySem.W.callWith_K (h₀ := X.base) I1.ok.mod.kin hkp (L2.thn (ha.run pos pins s1 σ _ _ I1 h') fun us s2 ⟨vs, H2, I2, r, q⟩ => ⟨I2.kIn, ?_⟩) (cE_star q1 es X.env) (by rw [cEs_star q2]; exact backTo_plain pos es X.env)
                  exact L2.run_fnSD (dvs := []) (ds := []) (E := fun σ c d H => Ex c d σ H) F hr hb .nil (o.pass σ) I2 r (by rw [List.append_nil]; exact q)
        · rcases h with ⟨_, _, z, _⟩ | ⟨_, _, z, _⟩ <;> cases z
      | _ => rcases h with ⟨_, _, z, _⟩ | ⟨_, _, z, _⟩ <;> cases z
end
end TP

set_option Elab.async false
set_option linter.all false
set_option maxRecDepth 100000
set_option maxHeartbeats 8000000
/-! Sal6: targets, what loops walk, comprehensions; every expression. -/
namespace TP
open PySem PySem.Spec PyProof.Rows
open L2 (V Hp HO Key upd upd_same upd_ne SqL SqT Rd OpR UnR CallR IxR Vals Inv PE PT PW PA PI PG PGs PO PTs Vis Gl Loc It Itl Itt Itr Its Ite Itz Itv)

section
variable {X : L2.Cx} {g : Cg} {cf : CF} {Ex : L2.WX}

/-! ### targets -/
/-! which slots a target stores -/
mutual
def tIn : T → Nat → Bool
  | .nm i, j => decide (i = j)
  | .tp ts, j => tIns ts j
def tIns : List T → Nat → Bool
  | [], _ => false
  | t :: ts, j => tIn t j || tIns ts j
end
def tG (K : PySem.W.Frag) (mg : Str → Option Value) (t : T) : L2.TG := fun x σ H Q => ∃ G v s s', Rel K mg G s σ H ∧ PVR K mg G H v x ∧ bindT t v s = some s' ∧
  ∀ σ', Rel K mg G s' σ' H → σ'.length = σ.length → (∀ j : Nat, tIn t j = false → σ'[j]? = σ[j]?) → Q σ' H
def tGs (K : PySem.W.Frag) (mg : Str → Option Value) (ts : List T) : L2.TGs := fun xs σ H Q => ∃ G vs s s', Rel K mg G s σ H ∧ PVRs K mg G H vs xs ∧ bindTs ts vs s = some s' ∧
  ∀ σ', Rel K mg G s' σ' H → σ'.length = σ.length → (∀ j : Nat, tIns ts j = false → σ'[j]? = σ[j]?) → Q σ' H
theorem PG.imp {X : L2.Cx} {e : Expr} {t t' : L2.TG} (h : PG X e t) (i : ∀ x σ H Q, t' x σ H Q → t x σ H Q) : PG X e t' := ⟨fun pins s σ H v u Q I r q => h.run pins s σ H v u Q I r (i v σ H Q q)⟩
theorem PGs.imp {X : L2.Cx} {e : List Expr} {t t' : L2.TGs} (h : PGs X e t) (i : ∀ x σ H Q, t' x σ H Q → t x σ H Q) : PGs X e t' := ⟨fun pins s σ H v u Q I r q => h.run pins s σ H v u Q I r (i v σ H Q q)⟩
/-- the names that may be stored -/
def NkOk (X : L2.Cx) (nk : Str → Bool) : Prop := ∀ x, nk x = true → Loc X.env.scope x ∧ (X.fn x = true ∨ X.env.scope.names.lookup x = some .local)
theorem cT_star {ok : Nat → Bool} {nk : Str → Bool} {N : List Str} {k : Nat} {e : Expr} {t : T} (h : cT ok nk N k e = some t) : ∀ (es : List Expr) (env : Env), assignEach (e :: es) env = (false, assign e env) :: assignEach es env := by
  cases k with
  | zero => simp only [cT] at h; cases h
  | succ k => cases e <;> first | (intro _ _; rfl) | (simp only [cT] at h; cases h)
theorem cTs_star {ok : Nat → Bool} {nk : Str → Bool} {N : List Str} : ∀ {k : Nat} {es : List Expr} {ts : List T}, cTs ok nk N k es = some ts → ∀ env : Env, assignEach es env = es.map (fun e => (false, assign e env)) ∧ es.length = ts.length
  | 0, es, ts, h, env => by simp only [cTs] at h; cases h
  | k + 1, [], ts, h, env => by simp only [cTs] at h; cases h; exact ⟨rfl, rfl⟩
  | k + 1, e :: es, ts, h, env => by
    simp only [cTs] at h
    cases h1 : cT ok nk N k e with
    | none => rw [h1] at h; cases h
    | some t =>
      cases h2 : cTs ok nk N k es with
      | none => rw [h1, h2] at h; cases h
      | some ts' =>
        rw [h1, h2] at h
        cases h
        obtain ⟨q1, q2⟩ := cTs_star h2 env
        exact ⟨by rw [cT_star h1, q1, List.map_cons], by simp [q2]⟩
theorem findIdx_none (es : List Expr) (env : Env) : (es.map fun e => (false, assign e env)).findIdx? (·.1) = none := by
  induction es with
  | nil => rfl
  | cons e es ih => simp [List.findIdx?_cons]
mutual
theorem pg_T {ok : Nat → Bool} {nk : Str → Bool} (o : XO X g cf Ex) (hn : NkOk X nk) : ∀ (k : Nat) {e : Expr} {t : T}, cT ok nk X.N k e = some t → PG X e (tG X.K X.mg t)
  | 0, e, t, h => by simp only [cT] at h; cases h
  | k + 1, e, t, h => by
    cases e with
    | Name x pos =>
      simp only [cT] at h
      cases hi : ixOf x X.N with
      | none => rw [hi] at h; cases h
      | some i =>
        rw [hi] at h
        simp only at h
        split at h <;> cases h
        rename_i hk
        rw [Bool.and_eq_true] at hk
        obtain ⟨hl, hf⟩ := hn x hk.2
        refine PG.imp (L2.pg_name o.nd (ixOf_get hi) hl hf) fun y σ H Q q => ?_
        obtain ⟨G, v, s, s', R, p, e, q⟩ := q
        simp only [bindT] at e
        split at e <;> cases e
        rename_i hlt
        refine q _ (R.setVal p hlt) (by simp) fun j hj => ?_
        simp only [tIn, decide_eq_false_iff_not] at hj
        exact List.getElem?_set_ne hj
    | Tuple es kk pos =>
      simp only [cT, Option.map_eq_some_iff] at h
      obtain ⟨ts, h, rfl⟩ := h
      obtain ⟨q1, q2⟩ := cTs_star h X.env
      have hlen : ∀ {ts : List T} {xs : List PV} {s s' : SS}, bindTs ts xs s = some s' → xs.length = ts.length := by
        intro ts
        induction ts with
        | nil =>
          intro xs s s' e
          cases xs with
          | nil => rfl
          | cons _ _ => simp only [bindTs] at e; cases e
        | cons t ts ih =>
          intro xs s s' e
          cases xs with
          | nil => simp only [bindTs] at e; cases e
          | cons x xs =>
            simp only [bindTs] at e
            split at e
            · simp [ih e]
            · cases e
      have both : PG X (.Tuple es kk pos) (fun v σ H Q => L2.gTup X.K ts.length (tGs X.K X.mg ts) v σ H Q ∨ L2.gUnl X.K ts.length (tGs X.K X.mg ts) v σ H Q) := ⟨fun pins s σ H v u Q I r q => by
        rcases q with q | q
        · exact (L2.pg_tup (k := kk) (pos := pos) (n := ts.length) o.calm (pgs_T o hn k h) (by rw [q1, List.length_map]; exact q2) (by rw [q1]; exact findIdx_none es X.env)).run pins s σ H v u Q I r q
        · exact (L2.pg_unl (k := kk) (pos := pos) (n := ts.length) o.calm (pgs_T o hn k h) (by rw [q1, List.length_map]; exact q2) (by rw [q1]; exact findIdx_none es X.env)).run pins s σ H v u Q I r q⟩
      refine PG.imp both fun y σ H Q q => ?_
      obtain ⟨G, v, s, s', R, p, e, q⟩ := q
      cases v <;> first | (simp only [bindT] at e; cases e; done) | skip
      · rename_i xs
        cases p with
        | tup h1 ps =>
          rename_i a Vs
          simp only [bindT] at e
          exact .inl ⟨a, Vs, rfl, h1, by rw [← ps.length]; exact hlen e, ⟨G, xs, s, s', R, ps, e, fun σ' R' hl hs => q σ' R' hl fun j hj => hs j (by simpa only [tIn] using hj)⟩⟩
      · rename_i xs
        cases p with
        | lst h1 hg ps =>
          rename_i a Vs
          simp only [bindT] at e
          exact .inr ⟨a, Vs, rfl, .of h1, by rw [← ps.length]; exact hlen e, ⟨G, xs, s, s', R, ps, e, fun σ' R' hl hs => q σ' R' hl fun j hj => hs j (by simpa only [tIn] using hj)⟩⟩
    | _ => simp only [cT] at h; cases h
theorem pgs_T {ok : Nat → Bool} {nk : Str → Bool} (o : XO X g cf Ex) (hn : NkOk X nk) : ∀ (k : Nat) {es : List Expr} {ts : List T}, cTs ok nk X.N k es = some ts → PGs X es (tGs X.K X.mg ts)
  | 0, es, ts, h => by simp only [cTs] at h; cases h
  | k + 1, [], ts, h => by
    simp only [cTs] at h
    cases h
    refine PGs.imp L2.pgs_nil fun xs σ H Q q => ?_
    obtain ⟨G, vs, s, s', R, p, e, q⟩ := q
    cases p with
    | nil =>
      simp only [bindTs] at e
      cases e
      exact ⟨rfl, q σ R rfl fun _ _ => rfl⟩
    | cons _ _ => simp only [bindTs] at e; cases e
  | k + 1, e :: es, ts, h => by
    simp only [cTs] at h
    cases h1 : cT ok nk X.N k e with
    | none => rw [h1] at h; cases h
    | some t =>
      cases h2 : cTs ok nk X.N k es with
      | none => rw [h1, h2] at h; cases h
      | some ts' =>
        rw [h1, h2] at h
        cases h
        refine PGs.imp (L2.pgs_cons (pg_T o hn k h1) (pgs_T o hn k h2) (by rw [cT_star h1, List.map_cons])) fun xs σ H Q q => ?_
        obtain ⟨G, vs, s, s', R, p, e, q⟩ := q
        cases p with
        | nil => simp only [bindTs] at e; cases e
        | cons p ps =>
          simp only [bindTs] at e
          split at e
          · rename_i s1 e1
            refine ⟨_, _, rfl, G, _, s, s1, R, p, e1, fun σ1 R1 l1 h1 => ⟨G, _, s1, s', R1, ps, e, fun σ2 R2 l2 h2 => q σ2 R2 (l2.trans l1) fun j hj => ?_⟩⟩
            simp only [tIns, Bool.or_eq_false_iff] at hj
            rw [h2 j hj.2, h1 j hj.1]
          · cases e
end
theorem cT_ok {ok : Nat → Bool} {nk : Str → Bool} {N : List Str} : ∀ (k : Nat), (∀ {e : Expr} {t : T}, cT ok nk N k e = some t → ∀ j, tIn t j = true → ok j = true) ∧ (∀ {es : List Expr} {ts : List T}, cTs ok nk N k es = some ts → ∀ j, tIns ts j = true → ok j = true) := by
  intro k
  induction k with
  | zero => exact ⟨fun {e t} h => (by simp only [cT] at h; cases h), fun {es ts} h => (by simp only [cTs] at h; cases h)⟩
  | succ k ih =>
    refine ⟨fun {e t} h j hj => ?_, fun {es ts} h j hj => ?_⟩
    · cases e <;> first | (simp only [cT] at h; cases h; done) | skip
      · simp only [cT] at h
        split at h
        · split at h <;> cases h
          rename_i hk
          rw [Bool.and_eq_true] at hk
          simp only [tIn, decide_eq_true_eq] at hj
          rw [← hj]; exact hk.1
        · cases h
      · simp only [cT, Option.map_eq_some_iff] at h
        obtain ⟨ts, h, rfl⟩ := h
        exact ih.2 h j (by simpa only [tIn] using hj)
    · cases es with
      | nil => simp only [cTs] at h; cases h; simp only [tIns] at hj; cases hj
      | cons e es =>
        simp only [cTs] at h
        cases h1 : cT ok nk N k e with
        | none => rw [h1] at h; cases h
        | some t =>
          cases h2 : cTs ok nk N k es with
          | none => rw [h1, h2] at h; cases h
          | some ts' =>
            rw [h1, h2] at h
            cases h
            simp only [tIns, Bool.or_eq_true] at hj
            rcases hj with hj | hj
            · exact ih.1 h1 j hj
            · exact ih.2 h2 j hj

/-! ### what loops walk -/
section
variable {K : PySem.W.Frag} {mg : Str → Option Value} {G : Gh} {H : Hp}
theorem walks_list {a : Addr} {Vs : List V} {xs : List PV} (hs : ∀ G' H', Step G H G' H' → SqL K H' a Vs) (hu : ∀ H' Ws, SqL K H' a Vs → SqL K H' a Ws → True) (p : PVRs K mg G H xs Vs) : Walks K mg (Itl K a) G H xs := fun i G' H' st tr => by
  refine ⟨fun v e => ?_, fun e => ⟨Vs, hs G' H' st, by rw [e, p.length]; exact Nat.le_refl _⟩⟩
  obtain ⟨x, e1, px⟩ := p.get e
  refine ⟨⟨Vs, x, hs G' H' st, e1⟩, fun y H'' hy => ?_⟩
  obtain ⟨rfl, h2⟩ := hy
  have := h2 Vs (hs G' _ st)
  rw [e1] at this
  cases this
  exact ⟨G', .refl tr, px.step st.mono⟩
theorem walks_tup {a : Addr} {Vs : List V} {xs : List PV} (h : SqT K H a Vs) (p : PVRs K mg G H xs Vs) : Walks K mg (Itt K a) G H xs := fun i G' H' st tr => by
  have hs : SqT K H' a Vs := SqT.step h st.mono
  refine ⟨fun v e => ?_, fun e => ⟨Vs, hs, by rw [e, p.length]; exact Nat.le_refl _⟩⟩
  obtain ⟨x, e1, px⟩ := p.get e
  refine ⟨⟨Vs, x, hs, e1⟩, fun y H'' hy => ?_⟩
  obtain ⟨rfl, h2⟩ := hy
  have := h2 Vs hs
  rw [e1] at this
  cases this
  exact ⟨G', .refl tr, px.step st.mono⟩
theorem walks_str {x : List Nat} : Walks K mg (Its ⟨x.toArray⟩) G H (x.map fun c => .str [c]) := fun i G' H' st tr => by
  refine ⟨fun v e => ?_, fun e => by show x.toArray.size ≤ i; rw [e]; simp⟩
  rw [List.getElem?_map] at e
  obtain ⟨c, ec, rfl⟩ := Option.map_eq_some_iff.mp e
  have hlt := (List.getElem?_eq_some_iff.mp ec).1
  refine ⟨by show i < x.toArray.size; simpa using hlt, fun y H'' hy => ?_⟩
  obtain ⟨rfl, d, ed, rfl⟩ := hy
  have : c = d := by
    have ed' : x[i]? = some d := by simpa using ed
    rw [ec] at ed'; exact Option.some.inj ed'
  subst this
  exact ⟨G', .refl tr, .str [c]⟩
theorem walks_range {a : Int} {n : Nat} : Walks K mg (Itr a n) G H (rangeL a n) := fun i G' H' st tr => by
  unfold rangeL
  refine ⟨fun v e => ?_, fun e => by show n ≤ i; rw [e]; simp⟩
  rw [List.getElem?_map] at e
  obtain ⟨c, ec, rfl⟩ := Option.map_eq_some_iff.mp e
  obtain ⟨hlt, ec⟩ := List.getElem?_eq_some_iff.mp ec
  rw [List.getElem_range] at ec
  subst ec
  refine ⟨by show i < n; simpa using hlt, fun y H'' hy => ?_⟩
  obtain ⟨rfl, rfl⟩ := hy
  exact ⟨G', .refl tr, .int _⟩
theorem enumL_get : ∀ {xs : List PV} {k i : Nat} {v : PV}, (enumL k xs)[i]? = some v → ∃ x, xs[i]? = some x ∧ v = .tup [.int ((k + i : Nat) : Int), x]
  | [], k, i, v, h => by simp [enumL] at h
  | x :: xs, k, 0, v, h => by simp [enumL] at h; exact ⟨x, rfl, h.symm⟩
  | x :: xs, k, i + 1, v, h => by
    obtain ⟨y, h1, h2⟩ := enumL_get (xs := xs) (k := k + 1) (i := i) (by simpa [enumL] using h)
    exact ⟨y, by simpa using h1, by rw [h2]; congr 3; omega⟩
theorem enumL_len : ∀ {xs : List PV} {k : Nat}, (enumL k xs).length = xs.length
  | [], _ => rfl
  | _ :: xs, k => by simp [enumL, enumL_len (xs := xs)]
theorem walks_enum {a : Addr} {Vs : List V} {xs : List PV} (h : H a = some (.lst Vs)) (hg : G a = .fz) (p : PVRs K mg G H xs Vs) : Walks K mg (Ite K a) G H (enumL 0 xs) := fun i G' H' st tr => by
  have hs : SqL K H' a Vs := .of ((st.fz a hg).2.trans h)
  refine ⟨fun v e => ?_, fun e => ⟨Vs, hs, by rw [e, enumL_len, p.length]; exact Nat.le_refl _⟩⟩
  obtain ⟨w, e0, rfl⟩ := enumL_get e
  obtain ⟨x, e1, px⟩ := p.get e0
  refine ⟨⟨Vs, x, hs, e1⟩, fun y H'' hy => ?_⟩
  obtain ⟨t, y', rfl, ht, rfl, h2⟩ := hy
  have := h2 Vs hs
  rw [e1] at this
  cases this
  have q := Same.new (t := .free) (o := .tup [.int (i : Nat), x]) tr ht (fun _ z => nomatch z)
  refine ⟨_, q, .tup (.inl (.inl upd_same)) (.cons ?_ (.cons ((px.step st.mono).step q.st.mono) .nil))⟩
  rw [Nat.zero_add]
  exact .int _
theorem walks_zipL {a b : Addr} {Vs Ws : List V} {xs ys : List PV} (h : H a = some (.lst Vs)) (hg : G a = .fz) (p : PVRs K mg G H xs Vs) (h' : H b = some (.lst Ws)) (hg' : G b = .fz) (p' : PVRs K mg G H ys Ws) :
    Walks K mg (Itz K a b) G H ((xs.zip ys).map fun p => .tup [p.1, p.2]) := fun i G' H' st tr => by
  have hs : SqL K H' a Vs := .of ((st.fz a hg).2.trans h)
  have hs' : SqL K H' b Ws := .of ((st.fz b hg').2.trans h')
  refine ⟨fun v e => ?_, fun e => ⟨Vs, Ws, hs, hs', by rw [e, List.length_map, List.length_zip, p.length, p'.length]; omega⟩⟩
  rw [List.getElem?_map] at e
  obtain ⟨⟨c, d⟩, ec, rfl⟩ := Option.map_eq_some_iff.mp e
  obtain ⟨q1, q2⟩ := List.getElem?_zip_eq_some.mp ec
  obtain ⟨x, e1, px⟩ := p.get q1
  obtain ⟨y, e2, py⟩ := p'.get q2
  refine ⟨⟨Vs, Ws, x, y, hs, hs', e1, e2⟩, fun z H'' hz => ?_⟩
  obtain ⟨t, x', y', rfl, ht, rfl, h2, h3⟩ := hz
  have z1 := h2 Vs hs
  have z2 := h3 Ws hs'
  rw [e1] at z1; cases z1
  rw [e2] at z2; cases z2
  have q := Same.new (t := .free) (o := .tup [x, y]) tr ht (fun _ z => nomatch z)
  exact ⟨_, q, .tup (.inl (.inl upd_same)) (.cons ((px.step st.mono).step q.st.mono) (.cons ((py.step st.mono).step q.st.mono) .nil))⟩
theorem walks_zipT {a b : Addr} {Vs Ws : List V} {xs ys : List PV} (h : SqT K H a Vs) (p : PVRs K mg G H xs Vs) (h' : SqT K H b Ws) (p' : PVRs K mg G H ys Ws) :
    Walks K mg (RZ.ItzT K a b) G H ((xs.zip ys).map fun p => .tup [p.1, p.2]) := fun i G' H' st tr => by
  have hs : SqT K H' a Vs := SqT.step h st.mono
  have hs' : SqT K H' b Ws := SqT.step h' st.mono
  refine ⟨fun v e => ?_, fun e => ⟨Vs, Ws, hs, hs', by rw [e, List.length_map, List.length_zip, p.length, p'.length]; omega⟩⟩
  rw [List.getElem?_map] at e
  obtain ⟨⟨c, d⟩, ec, rfl⟩ := Option.map_eq_some_iff.mp e
  obtain ⟨q1, q2⟩ := List.getElem?_zip_eq_some.mp ec
  obtain ⟨x, e1, px⟩ := p.get q1
  obtain ⟨y, e2, py⟩ := p'.get q2
  refine ⟨⟨Vs, Ws, x, y, hs, hs', e1, e2⟩, fun z H'' hz => ?_⟩
  obtain ⟨t, x', y', rfl, ht, rfl, h2, h3⟩ := hz
  have z1 := h2 Vs hs
  have z2 := h3 Ws hs'
  rw [e1] at z1; cases z1
  rw [e2] at z2; cases z2
  have q := Same.new (t := .free) (o := .tup [x, y]) tr ht (fun _ z => nomatch z)
  exact ⟨_, q, .tup (.inl (.inl upd_same)) (.cons ((px.step st.mono).step q.st.mono) (.cons ((py.step st.mono).step q.st.mono) .nil))⟩
theorem rev_get {α : Type} {xs : List α} {i : Nat} {v : α} (h : xs.reverse[i]? = some v) : xs[xs.length - 1 - i]? = some v := by
  have hlt := (List.getElem?_eq_some_iff.mp h).1
  rw [List.length_reverse] at hlt
  rw [List.getElem?_reverse hlt] at h
  exact h
theorem walks_revL {a : Addr} {Vs : List V} {xs : List PV} (h : H a = some (.lst Vs)) (hg : G a = .fz) (p : PVRs K mg G H xs Vs) : Walks K mg (Itv K a Vs.length) G H xs.reverse := fun i G' H' st tr => by
  have hs : SqL K H' a Vs := .of ((st.fz a hg).2.trans h)
  refine ⟨fun v e => ?_, fun e => by show Vs.length ≤ i; rw [e, List.length_reverse, p.length]; exact Nat.le_refl _⟩
  have hlt := (List.getElem?_eq_some_iff.mp e).1
  rw [List.length_reverse, p.length] at hlt
  obtain ⟨x, e1, px⟩ := p.get (rev_get e)
  rw [p.length] at e1
  refine ⟨⟨hlt, Vs, x, hs, e1⟩, fun y H'' hy => ?_⟩
  obtain ⟨rfl, h2⟩ := hy
  have := h2 Vs hs
  rw [e1] at this
  cases this
  exact ⟨G', .refl tr, px.step st.mono⟩
theorem walks_revT {a : Addr} {Vs : List V} {xs : List PV} (h : SqT K H a Vs) (p : PVRs K mg G H xs Vs) : Walks K mg (RT.ItvT K a Vs.length) G H xs.reverse := fun i G' H' st tr => by
  have hs : SqT K H' a Vs := SqT.step h st.mono
  refine ⟨fun v e => ?_, fun e => by show Vs.length ≤ i; rw [e, List.length_reverse, p.length]; exact Nat.le_refl _⟩
  have hlt := (List.getElem?_eq_some_iff.mp e).1
  rw [List.length_reverse, p.length] at hlt
  obtain ⟨x, e1, px⟩ := p.get (rev_get e)
  rw [p.length] at e1
  refine ⟨⟨hlt, Vs, x, hs, e1⟩, fun y H'' hy => ?_⟩
  obtain ⟨rfl, h2⟩ := hy
  have := h2 Vs hs
  rw [e1] at this
  cases this
  exact ⟨G', .refl tr, px.step st.mono⟩
end
end
end TP

set_option Elab.async false
set_option linter.all false
set_option maxRecDepth 100000
set_option maxHeartbeats 8000000
/-! Sal6b: a, b, *c = .. -/
namespace TP
open PySem PySem.Spec PyProof.Rows
open L2 (V Hp HO Key upd upd_same upd_ne SqL SqT Rd OpR UnR CallR IxR Vals Inv PE PT PW PA PI PG PGs PO PTs Vis Gl Loc)
/-- names, the last one starred -/
def starT (ok : Nat → Bool) (nk : Str → Bool) (N : List Str) : List Expr → Option (List Nat × Nat)
  | [.Starred (.Name x _) _] => (match ixOf x N with
    | some i => if ok i && nk x then some ([], i) else none
    | none => none)
  | .Name x _ :: r => (match ixOf x N, starT ok nk N r with
    | some i, some q => if ok i && nk x then some (i :: q.1, q.2) else none
    | _, _ => none)
  | _ => none
def putV : List Nat → List V → L2.St → L2.St
  | i :: is, x :: xs, σ => putV is xs (σ.set i (some x))
  | _, _, σ => σ
def gPut (js : List Nat) : L2.TGs := fun xs σ H Q => xs.length = js.length ∧ Q (putV js xs σ) H
section
variable {X : L2.Cx}
theorem starT_ok {ok : Nat → Bool} {nk : Str → Bool} (nd : X.N.Nodup) (hn : NkOk X nk) : ∀ {ts : List Expr} {q : List Nat × Nat}, starT ok nk X.N ts = some q → PGs X ts (gPut (q.1 ++ [q.2])) ∧ ts.length = q.1.length + 1 ∧ (assignEach ts X.env).length = q.1.length + 1 ∧ (assignEach ts X.env).findIdx? (·.1) = some q.1.length ∧ ∀ i ∈ q.1 ++ [q.2], ok i = true
  | [], q, h => by cases h
  | e :: r, q, h => by
    unfold starT at h
    split at h
    · rename_i x p p2 heq
      injection heq with h1 h2
      subst h1 h2
      split at h
      · rename_i i hi
        split at h <;> cases h
        rename_i hk
        rw [Bool.and_eq_true] at hk
        obtain ⟨hl, hf⟩ := hn x hk.2
        refine ⟨⟨fun pins s σ H vs us Q I rr hq => ?_⟩, rfl, rfl, rfl, fun j hj => by simp at hj; rw [hj]; exact hk.1⟩
        obtain ⟨hlen, hq⟩ := hq
        cases rr with
        | nil => simp at hlen
        | cons r1 rr =>
          cases rr with
          | cons _ _ => simp at hlen
          | nil =>
            show wpAny _ _ (assignInOrder [assign (.Name x p) X.env] _) _ _ _
            refine assignInOrder_cons (L2.thn ((L2.pg_name nd (ixOf_get hi) hl hf).run pins s σ H _ _ (fun σ' H' => σ' = σ.set i (some _) ∧ H' = H) I r1 ⟨rfl, rfl⟩) fun _ s1 ⟨σ1, H1, I1, e1, e2⟩ => ?_)
            subst e1 e2
            exact assignInOrder_nil ⟨_, _, I1, hq⟩
      · cases h
    · rename_i x p r' heq
      injection heq with h1 h2
      subst h1 h2
      split at h
      · rename_i i q' hi hr
        split at h <;> cases h
        rename_i hk
        rw [Bool.and_eq_true] at hk
        obtain ⟨hl, hf⟩ := hn x hk.2
        obtain ⟨pg, l1, l2, l3, l4⟩ := starT_ok nd hn hr
        refine ⟨⟨fun pins s σ H vs us Q I rr hq => ?_⟩, by simp [l1], by show (assignEach _ X.env).length + 1 = _; rw [l2]; rfl, ?_, fun j hj => ?_⟩
        · obtain ⟨hlen, hq⟩ := hq
          cases rr with
          | nil => simp at hlen
          | cons r1 rr =>
            show wpAny _ _ (assignInOrder (assign (.Name x p) X.env :: _) _) _ _ _
            refine assignInOrder_cons (L2.thn ((L2.pg_name nd (ixOf_get hi) hl hf).run pins s σ H _ _ (fun σ' H' => σ' = σ.set i (some _) ∧ H' = H) I r1 ⟨rfl, rfl⟩) fun _ s1 ⟨σ1, H1, I1, e1, e2⟩ => ?_)
            subst e1 e2
            exact pg.run pins s1 _ _ _ _ Q I1 rr ⟨by simpa using hlen, hq⟩
        · show ((false, assign (.Name x p) X.env) :: assignEach _ X.env).findIdx? (·.1) = _
          rw [List.findIdx?_cons]
          simp only [Bool.false_eq_true, if_false, l3, Option.map_some, List.length_cons]
        · simp only [List.cons_append, List.mem_cons] at hj
          rcases hj with z | z
          · rw [z]; exact hk.1
          · exact l4 j z
      · cases h
    · cases h
/-- the rest is a new list -/
def gStar (K : PySem.W.Frag) (is : List Nat) (j : Nat) : L2.TG := fun v σ H Q => ∃ a xs, v = .ref a ∧ (SqT K H a xs ∨ SqL K H a xs) ∧ is.length ≤ xs.length ∧ xs.length ≤ 16384 ∧ ∀ D, H D = none → Q (putV (is ++ [j]) (xs.take is.length ++ [.ref D]) σ) (upd H D (.lst (xs.drop is.length)))
theorem take_vals {xs : List V} {us : List Value} (n : Nat) (h : Vals xs us) : Vals (xs.take n) (us.take n) := h.take n
theorem pg_star {ts : List Expr} {k : Nat} {pos : Pos} {is : List Nat} {j : Nat} (hc : X.calm = true) (h : PGs X ts (gPut (is ++ [j]))) (hl : (assignEach ts X.env).length = is.length + 1) (hst : (assignEach ts X.env).findIdx? (·.1) = some is.length) : PG X (.Tuple ts k pos) (gStar X.K is j) := by
  refine ⟨fun pins s σ H v u Q I r hw => ?_⟩
  obtain ⟨a, xs, e1, hq, hle, hz, hw⟩ := hw
  subst e1
  cases r
  have hh := I.ok.hd hc
  -- behind the items
  have fin : ∀ (its : List Value) (h₂ : Heap) (tk : Tok), Vals xs its → (∀ b o, s.heap.get? b = some o → h₂.get? b = some o) → wpAny (model X.prog X.w) X.A (newList (its.drop is.length) >>= fun d => pure (its.take is.length ++ [d] ++ [])) (fun items s3 => wpAny (model X.prog X.w) X.A (assignInOrder ((assignEach ts X.env).map (·.2)) items) (fun _ s' => ∃ σ' H', Inv X pins σ' H' s' ∧ Q σ' H') X.xe s3) X.xe { s with heap := h₂, toks := tk } := fun its h₂ tk rv hk => by
    have I2 : Inv X pins σ H { s with heap := h₂, toks := tk } := I.kept (t' := tk) hk
    have hll := rv.length
    refine wpAny_bind (wpAny_newList (wpAny_pure ?_) (by rw [List.length_drop, sizeLine_eq]; omega))
    have hf : H h₂.objs.size = none := I2.hok.fresh (Nat.le_refl _)
    have I3 : Inv X pins σ (upd H h₂.objs.size (.lst (xs.drop is.length))) { s with heap := h₂.push { cls := .type "list", data := .seq (its.drop is.length).toArray 0 }, toks := tk } :=
      I2.laid (t' := tk) (fun b u e => Heap.get?_push_of_some _ e) (Nat.le_refl _) ⟨by rw [List.length_drop, sizeLine_eq]; omega, its.drop is.length, 0, rv.drop _, Heap.get?_push_size _ rfl⟩
    refine h.run pins _ σ _ (xs.take is.length ++ [.ref h₂.objs.size]) _ Q I3 ?_ ⟨by simp; omega, hw _ hf⟩
    rw [List.append_nil]
    exact (rv.take _).append (.cons rfl .nil)
  rw [PyProof.Rows.assign_Tuple]
  refine wpAny_bind (wpAny_standAt ?_)
  unfold unpack
  rw [hl, hst]
  rcases hq with hq | hq
  · obtain ⟨its, rv, ht, _⟩ := I.tuple hq
    have hll := rv.length
    have hlt : a ≠ s.heap.objs.size := by obtain ⟨o, ho, _⟩ := ht; exact Nat.ne_of_lt (Heap.lt_size ho)
    refine wpAny_bind (wpAny_holding ?_)
    unfold unpackItems
    refine wpAny_bind ?_
    unfold notIterableAtAll
    refine wpAny_bind (wpAny_specialOf ht.typeIs slot_tuple_iter.lookup ?_)
    refine wpAny_pure ?_
    simp only [Bool.false_eq_true, if_false]
    refine wpAny_bind (wpAny_holding (iter_tuple ht ?_))
    refine wpAny_bind (wpAny_holding (draw_tuple hlt is.length 0 _ _ ⟨_, Heap.get?_push_size _ rfl, rfl, rfl⟩ (ht.push _) (by simp; omega) fun h₁ hit₁ hs₁ => ?_))
    have ht₁ : IsTup h₁ a its.toArray := (ht.push _).extBut hs₁.extBut hlt
    rw [Nat.zero_add] at hit₁
    have hit₁' := hit₁
    obtain ⟨oi, hoi, _⟩ := hit₁'
    have ht₁' := ht₁
    obtain ⟨ol, hol, _⟩ := ht₁'
    rw [List.drop_zero]
    have hfl : (its.toArray.toList.take is.length).length = is.length := by rw [List.length_take]; simp; omega
    rw [if_neg (show ¬ ((its.toArray.toList.take is.length).length < is.length) by rw [hfl]; omega)]
    refine wpAny_bind (wpAny_holding (PySem.W.kun_collect (s := { s with heap := h₁ }) (T := "tuple_iterator") (.inr (.inr (.inr rfl))) (Walks.tuple (A := X.A.in1) hh s.heap.objs.size a hlt its.toArray) (fun j u st => st.1.typeIs) (k := is.length) (by simp; omega) ⟨hit₁, ht₁⟩ (Heap.lt_size hoi) (Heap.lt_size hol) (fun h₂ tk hk => ?_) (by rw [sizeLine_eq]; simp; omega)))
    have hrl : (its.toArray.toList.drop is.length).length = its.length - is.length := by rw [List.length_drop]
    have e0 : is.length + 1 - 1 - is.length = 0 := by omega
    rw [e0]
    show wpAny _ _ (if (its.toArray.toList.drop is.length).length < 0 then _ else _) _ _ _
    rw [if_neg (by omega)]
    have he : ∀ b o, s.heap.get? b = some o → h₂.get? b = some o := fun b o e => by
      have hb : b ≠ s.heap.objs.size := Nat.ne_of_lt (Heap.lt_size e)
      exact hk b o hb (hs₁.extBut b o hb (Heap.get?_push_of_some _ e))
    have := fin its h₂ tk rv he
    simp only [Nat.sub_zero, List.take_length, List.drop_length]
    exact this
  · obtain ⟨its, rv, pl, _⟩ := I.list hq
    have hll := rv.length
    have ht : s.heap.IsList a its.toArray := by
      obtain ⟨o, m, e, c, d, q⟩ := pl
      exact ⟨o, e, c, m, q⟩
    have hlt : a ≠ s.heap.objs.size := by obtain ⟨o, ho, _⟩ := ht; exact Nat.ne_of_lt (Heap.lt_size ho)
    refine wpAny_bind (wpAny_holding ?_)
    unfold unpackItems
    refine wpAny_bind ?_
    unfold notIterableAtAll
    refine wpAny_bind (wpAny_specialOf ht.typeIs slot_list_iter.lookup ?_)
    refine wpAny_pure ?_
    simp only [Bool.false_eq_true, if_false]
    refine wpAny_bind (wpAny_holding (wpAny_pyIter_list ht ?_))
    refine wpAny_bind (wpAny_holding (PySem.W.kun_draw hlt is.length 0 _ _ ⟨_, Heap.get?_push_size _ rfl, rfl, rfl⟩ (ht.push _) (by simp; omega) fun h₁ hit₁ hs₁ => ?_))
    have ht₁ : h₁.IsList a its.toArray := (ht.push _).extBut hs₁.extBut hlt
    rw [Nat.zero_add] at hit₁
    have hit₁' := hit₁
    obtain ⟨oi, hoi, _⟩ := hit₁'
    have ht₁' := ht₁
    obtain ⟨ol, hol, _⟩ := ht₁'
    rw [List.drop_zero]
    have hfl : (its.toArray.toList.take is.length).length = is.length := by rw [List.length_take]; simp; omega
    rw [if_neg (show ¬ ((its.toArray.toList.take is.length).length < is.length) by rw [hfl]; omega)]
    refine wpAny_bind (wpAny_holding (PySem.W.kun_collect (s := { s with heap := h₁ }) (T := "list_iterator") (.inr (.inr (.inl rfl))) (Walks.list (A := X.A.in1) hh s.heap.objs.size a hlt its.toArray) (fun j u st => st.1.typeIs) (k := is.length) (by simp; omega) ⟨hit₁, ht₁⟩ (Heap.lt_size hoi) (Heap.lt_size hol) (fun h₂ tk hk => ?_) (by rw [sizeLine_eq]; simp; omega)))
    have hrl : (its.toArray.toList.drop is.length).length = its.length - is.length := by rw [List.length_drop]
    have e0 : is.length + 1 - 1 - is.length = 0 := by omega
    rw [e0]
    show wpAny _ _ (if (its.toArray.toList.drop is.length).length < 0 then _ else _) _ _ _
    rw [if_neg (by omega)]
    have he : ∀ b o, s.heap.get? b = some o → h₂.get? b = some o := fun b o e => by
      have hb : b ≠ s.heap.objs.size := Nat.ne_of_lt (Heap.lt_size e)
      exact hk b o hb (hs₁.extBut b o hb (Heap.get?_push_of_some _ e))
    have := fin its h₂ tk rv he
    simp only [Nat.sub_zero, List.take_length, List.drop_length]
    exact this
end
end TP

set_option Elab.async false
set_option linter.all false
set_option maxRecDepth 100000
set_option maxHeartbeats 8000000
/-! Sal7: what is walked, by the text; comprehensions; every expression. -/
namespace TP
open PySem PySem.Spec PyProof.Rows
open L2 (V Hp HO Key upd upd_same upd_ne SqL SqT Rd OpR UnR CallR IxR Vals Inv PE PT PW PA PI PG PGs PO PTs Vis Gl Loc It Itl Itt Itr Its Ite Itz Itv)

section
variable {X : L2.Cx} {g : Cg} {cf : CF} {Ex : L2.WX}
/-- the first evaluation, kept -/
theorem pi_of' {t e : Expr} {e' : E} (hp : PE X e (tEX X cf Ex e')) : PI X t e (tIX X cf Ex (.of e')) := by
  refine ⟨fun pins s σ H R I h => ?_⟩
  obtain ⟨G, st, Rl, h⟩ := h
  simp only [evalI] at h
  cases e1 : evalE cf e' st with
  | bad => rw [e1] at h; rcases h with ⟨_, _, z, _⟩ | ⟨_, _, z, _⟩ <;> cases z
  | exc x s1 =>
    rw [e1] at h
    rcases h with ⟨_, _, z, _⟩ | ⟨_, _, z, h⟩ <;> cases z
    exact (L2.pi_list hp).run pins s σ H R I ⟨G, st, Rl, .inr ⟨_, _, e1, h⟩⟩
  | ok r s1 =>
    rw [e1] at h
    simp only [Res.bind] at h
    cases e2 : keep s1 r with
    | none => rw [e2] at h; rcases h with ⟨_, _, z, _⟩ | ⟨_, _, z, _⟩ <;> cases z
    | some q =>
      obtain ⟨v, s2⟩ := q
      rw [e2] at h
      simp only at h
      have fin : ∀ {G1 H1 x}, Rel X.K X.mg G1 s1 σ H1 → Step G H G1 H1 → RVR X.K X.mg G G1 H1 σ r x → ∃ G2, Rel X.K X.mg G2 s2 σ H1 ∧ Step G H G2 H1 ∧ PVR X.K X.mg G2 H1 v x := fun R1 st1 rv => by
        obtain ⟨G2, R2, st2, _, p2, _⟩ := keep_ok R1 st1 rv e2
        exact ⟨G2, R2, st2, p2⟩
      cases v with
      | lst xs =>
        simp only [itemsOf] at h
        rcases h with ⟨_, _, z, h⟩ | ⟨_, _, z, _⟩ <;> cases z
        refine (L2.pi_list hp).run pins s σ H R I ⟨G, st, Rl, .inl ⟨r, s1, e1, fun G1 H1 x R1 st1 rv => ?_⟩⟩
        obtain ⟨G2, R2, st2, p2⟩ := fin R1 st1 rv
        cases p2 with
        | lst h1 hg ps => exact ⟨_, rfl, ⟨_, .of h1⟩, h G2 H1 _ R2 st2 (walks_list (fun G' H' st => .of ((st.fz _ hg).2.trans h1)) (fun _ _ _ _ => trivial) ps)⟩
      | rol xs =>
        simp only [itemsOf] at h
        rcases h with ⟨_, _, z, h⟩ | ⟨_, _, z, _⟩ <;> cases z
        refine (L2.pi_list hp).run pins s σ H R I ⟨G, st, Rl, .inl ⟨r, s1, e1, fun G1 H1 x R1 st1 rv => ?_⟩⟩
        obtain ⟨G2, R2, st2, p2⟩ := fin R1 st1 rv
        cases p2 with
        | rol h1 ps => exact ⟨_, rfl, ⟨_, h1.sq⟩, h G2 H1 _ R2 st2 (walks_list (fun G' H' st => (h1.step st.mono).sq) (fun _ _ _ _ => trivial) ps)⟩
      | tup xs =>
        simp only [itemsOf] at h
        rcases h with ⟨_, _, z, h⟩ | ⟨_, _, z, _⟩ <;> cases z
        refine (L2.pi_tup hp).run pins s σ H R I ⟨G, st, Rl, .inl ⟨r, s1, e1, fun G1 H1 x R1 st1 rv => ?_⟩⟩
        obtain ⟨G2, R2, st2, p2⟩ := fin R1 st1 rv
        cases p2 with
        | tup h1 ps => exact ⟨_, rfl, ⟨_, h1⟩, h G2 H1 _ R2 st2 (walks_tup h1 ps)⟩
      | str y =>
        simp only [itemsOf] at h
        rcases h with ⟨_, _, z, h⟩ | ⟨_, _, z, _⟩ <;> cases z
        refine (L2.pi_str hp).run pins s σ H R I ⟨G, st, Rl, .inl ⟨r, s1, e1, fun G1 H1 x R1 st1 rv => ?_⟩⟩
        obtain ⟨G2, R2, st2, p2⟩ := fin R1 st1 rv
        cases p2
        exact ⟨_, rfl, h G2 H1 _ R2 st2 walks_str⟩
      | _ =>
        simp only [itemsOf] at h
        rcases h with ⟨_, _, z, _⟩ | ⟨_, _, z, _⟩ <;> cases z
/-- arguments' values, then the walk -/
theorem tI_range1 {a : E} {σ : L2.St} {H : Hp} {R : It → Hp → Prop} (h : tIX X cf Ex (.range [a]) σ H R) : L2.iRng1 (L2.tCons (tEX X cf Ex a) L2.tNil) σ H R := by
  obtain ⟨G, s, Rl, h⟩ := h
  simp only [evalI, evalEs] at h
  refine ⟨G, s, Rl, ?_⟩
  cases e1 : evalE cf a s with
  | bad => rw [e1] at h; rcases h with ⟨_, _, z, _⟩ | ⟨_, _, z, _⟩ <;> cases z
  | exc x s1 =>
    rw [e1] at h
    rcases h with ⟨_, _, z, _⟩ | ⟨_, _, z, h⟩ <;> cases z
    exact .inr ⟨_, _, rfl, h⟩
  | ok r s1 =>
    rw [e1] at h
    simp only [Res.bind] at h
    refine .inl ⟨r, s1, rfl, fun G1 H1 x R1 st1 rv => ?_⟩
    cases e2 : cont s1 r with
    | none => simp only [conts, e2] at h; rcases h with ⟨_, _, z, _⟩ | ⟨_, _, z, _⟩ <;> cases z
    | some c =>
      simp only [conts, e2] at h
      have hc := cont_ok R1 rv e2
      cases c <;> first | (rcases h with ⟨_, _, z, _⟩ | ⟨_, _, z, _⟩ <;> cases z; done) | skip
      rename_i n
      simp only at h
      split at h
      · rename_i hn
        rcases h with ⟨_, _, z, h⟩ | ⟨_, _, z, _⟩ <;> cases z
        exact ⟨n, by rw [hc.int], hn.1, hn.2, h G1 H1 _ R1 st1 walks_range⟩
      · rcases h with ⟨_, _, z, _⟩ | ⟨_, _, z, _⟩ <;> cases z
theorem tI_range2 {a b : E} {σ : L2.St} {H : Hp} {R : It → Hp → Prop} (h : tIX X cf Ex (.range [a, b]) σ H R) : L2.iRng2 (L2.tCons (tEX X cf Ex a) (L2.tCons (tEX X cf Ex b) L2.tNil)) σ H R := by
  obtain ⟨G, s, Rl, h⟩ := h
  simp only [evalI, evalEs] at h
  refine ⟨G, s, Rl, ?_⟩
  cases e1 : evalE cf a s with
  | bad => rw [e1] at h; rcases h with ⟨_, _, z, _⟩ | ⟨_, _, z, _⟩ <;> cases z
  | exc x s1 =>
    rw [e1] at h
    rcases h with ⟨_, _, z, _⟩ | ⟨_, _, z, h⟩ <;> cases z
    exact .inr ⟨_, _, rfl, h⟩
  | ok r s1 =>
    rw [e1] at h
    simp only [Res.bind] at h
    refine .inl ⟨r, s1, rfl, fun G1 H1 x R1 st1 rv => ⟨G1, s1, R1, ?_⟩⟩
    cases e2 : evalE cf b s1 with
    | bad => rw [e2] at h; rcases h with ⟨_, _, z, _⟩ | ⟨_, _, z, _⟩ <;> cases z
    | exc x s2 =>
      rw [e2] at h
      rcases h with ⟨_, _, z, _⟩ | ⟨_, _, z, h⟩ <;> cases z
      exact .inr ⟨_, _, rfl, h.step st1⟩
    | ok r2 s2 =>
      rw [e2] at h
      simp only at h
      refine .inl ⟨r2, s2, rfl, fun G2 H2 y R2 st2 rv2 => ?_⟩
      cases e3 : cont s2 r with
      | none => simp only [conts, e3] at h; rcases h with ⟨_, _, z, _⟩ | ⟨_, _, z, _⟩ <;> cases z
      | some c =>
        cases e4 : cont s2 r2 with
        | none => simp only [conts, e3, e4] at h; rcases h with ⟨_, _, z, _⟩ | ⟨_, _, z, _⟩ <;> cases z
        | some d =>
          simp only [conts, e3, e4] at h
          have hc := cont_ok R2 (rv.mono st2) e3
          have hd := cont_ok R2 rv2 e4
          cases c <;> first | (rcases h with ⟨_, _, z, _⟩ | ⟨_, _, z, _⟩ <;> cases z; done) | skip
          cases d <;> first | (rcases h with ⟨_, _, z, _⟩ | ⟨_, _, z, _⟩ <;> cases z; done) | skip
          rename_i m n
          simp only at h
          split at h
          · rename_i hn
            rcases h with ⟨_, _, z, h⟩ | ⟨_, _, z, _⟩ <;> cases z
            exact ⟨m, n, by rw [hc.int, hd.int], ⟨hn.1.1, hn.1.2, hn.2.1, hn.2.2⟩, h G2 H2 _ R2 (st1.trans st2) walks_range⟩
          · rcases h with ⟨_, _, z, _⟩ | ⟨_, _, z, _⟩ <;> cases z
theorem tI_enum {a : E} {σ : L2.St} {H : Hp} {R : It → Hp → Prop} (h : tIX X cf Ex (.enum a) σ H R) : L2.iEnum X.K (L2.tCons (tEX X cf Ex a) L2.tNil) σ H R := by
  obtain ⟨G, s, Rl, h⟩ := h
  simp only [evalI] at h
  refine ⟨G, s, Rl, ?_⟩
  cases e1 : evalE cf a s with
  | bad => rw [e1] at h; rcases h with ⟨_, _, z, _⟩ | ⟨_, _, z, _⟩ <;> cases z
  | exc x s1 =>
    rw [e1] at h
    rcases h with ⟨_, _, z, _⟩ | ⟨_, _, z, h⟩ <;> cases z
    exact .inr ⟨_, _, rfl, h⟩
  | ok r s1 =>
    rw [e1] at h
    simp only [Res.bind] at h
    refine .inl ⟨r, s1, rfl, fun G1 H1 x R1 st1 rv => ?_⟩
    split at h
    · rename_i xs s2 e2
      rcases h with ⟨_, _, z, h⟩ | ⟨_, _, z, _⟩ <;> cases z
      obtain ⟨G2, R2, st2, _, p2, _⟩ := keep_ok R1 st1 rv e2
      cases p2 with
      | lst h1 hg ps => exact ⟨_, _, rfl, .of h1, h G2 H1 _ R2 st2 (walks_enum h1 hg ps)⟩
    · rcases h with ⟨_, _, z, _⟩ | ⟨_, _, z, _⟩ <;> cases z
theorem tI_rev {a : E} {σ : L2.St} {H : Hp} {R : It → Hp → Prop} (h : tIX X cf Ex (.rev a) σ H R) : RT.iRevA X.K (tEX X cf Ex a) σ H R := by
  obtain ⟨G, s, Rl, h⟩ := h
  simp only [evalI] at h
  refine ⟨G, s, Rl, ?_⟩
  cases e1 : evalE cf a s with
  | bad => rw [e1] at h; rcases h with ⟨_, _, z, _⟩ | ⟨_, _, z, _⟩ <;> cases z
  | exc x s1 =>
    rw [e1] at h
    rcases h with ⟨_, _, z, _⟩ | ⟨_, _, z, h⟩ <;> cases z
    exact .inr ⟨_, _, rfl, h⟩
  | ok r s1 =>
    rw [e1] at h
    simp only [Res.bind] at h
    refine .inl ⟨r, s1, rfl, fun G1 H1 x R1 st1 rv => ?_⟩
    split at h
    · rename_i xs s2 e2
      rcases h with ⟨_, _, z, h⟩ | ⟨_, _, z, _⟩ <;> cases z
      obtain ⟨G2, R2, st2, _, p2, _⟩ := keep_ok R1 st1 rv e2
      cases p2 with
      | lst h1 hg ps => exact ⟨_, _, rfl, .inl ⟨.of h1, h G2 H1 _ R2 st2 (walks_revL h1 hg ps)⟩⟩
    · rename_i xs s2 e2
      rcases h with ⟨_, _, z, h⟩ | ⟨_, _, z, _⟩ <;> cases z
      obtain ⟨G2, R2, st2, _, p2, _⟩ := keep_ok R1 st1 rv e2
      cases p2 with
      | tup h1 ps => exact ⟨_, _, rfl, .inr ⟨h1, h G2 H1 _ R2 st2 (walks_revT h1 ps)⟩⟩
    · rcases h with ⟨_, _, z, _⟩ | ⟨_, _, z, _⟩ <;> cases z
theorem PVRs.two {K : PySem.W.Frag} {mg : Str → Option Value} {G : Gh} {H : Hp} {v w : PV} {x y : V} (h : PVRs K mg G H [v, w] [x, y]) : PVR K mg G H v x ∧ PVR K mg G H w y := by
  cases h with
  | cons h t => cases t with
    | cons h2 t => exact ⟨h, h2⟩
theorem tI_zip {a b : E} {σ : L2.St} {H : Hp} {R : It → Hp → Prop} (h : tIX X cf Ex (.zip a b) σ H R) : RZ.iZipA X.K (L2.tCons (tEX X cf Ex a) (L2.tCons (tEX X cf Ex b) L2.tNil)) σ H R := by
  obtain ⟨G, s, Rl, h⟩ := h
  simp only [evalI] at h
  refine ⟨G, s, Rl, ?_⟩
  cases e1 : evalE cf a s with
  | bad => rw [e1] at h; rcases h with ⟨_, _, z, _⟩ | ⟨_, _, z, _⟩ <;> cases z
  | exc x s1 =>
    rw [e1] at h
    rcases h with ⟨_, _, z, _⟩ | ⟨_, _, z, h⟩ <;> cases z
    exact .inr ⟨_, _, rfl, h⟩
  | ok r s1 =>
    rw [e1] at h
    simp only [Res.bind] at h
    refine .inl ⟨r, s1, rfl, fun G1 H1 x R1 st1 rv => ⟨G1, s1, R1, ?_⟩⟩
    cases e2 : evalE cf b s1 with
    | bad => rw [e2] at h; rcases h with ⟨_, _, z, _⟩ | ⟨_, _, z, _⟩ <;> cases z
    | exc x s2 =>
      rw [e2] at h
      rcases h with ⟨_, _, z, _⟩ | ⟨_, _, z, h⟩ <;> cases z
      exact .inr ⟨_, _, rfl, h.step st1⟩
    | ok r2 s2 =>
      rw [e2] at h
      simp only at h
      refine .inl ⟨r2, s2, rfl, fun G2 H2 y R2 st2 rv2 => ?_⟩
      have rvs := RVRs.push st1 rv st2 (.cons rv2 (fun _ _ _ _ z => by simp at z) .nil)
      split at h
      · rename_i xs ys s3 e3
        rcases h with ⟨_, _, z, h⟩ | ⟨_, _, z, _⟩ <;> cases z
        obtain ⟨G3, R3, st3, _, p3, _⟩ := keeps_ok R2 (st1.trans st2) rvs e3
        obtain ⟨p4, p5⟩ := p3.two
        cases p4 with
        | lst h1 hg ps => cases p5 with
          | lst h2 hg2 ps2 => exact ⟨_, _, _, _, rfl, .inl ⟨.of h1, .of h2, h G3 H2 _ R3 st3 (walks_zipL h1 hg ps h2 hg2 ps2)⟩⟩
      · rename_i xs ys s3 e3
        rcases h with ⟨_, _, z, h⟩ | ⟨_, _, z, _⟩ <;> cases z
        obtain ⟨G3, R3, st3, _, p3, _⟩ := keeps_ok R2 (st1.trans st2) rvs e3
        obtain ⟨p4, p5⟩ := p3.two
        cases p4 with
        | tup h1 ps => cases p5 with
          | tup h2 ps2 => exact ⟨_, _, _, _, rfl, .inr ⟨h1, h2, h G3 H2 _ R3 st3 (walks_zipT h1 ps h2 ps2)⟩⟩
      · rcases h with ⟨_, _, z, _⟩ | ⟨_, _, z, _⟩ <;> cases z

/-! ### comprehensions -/
theorem wipeS_len : ∀ {own : List Nat} {env : List Sl}, (wipeS env own).length = env.length
  | [], _ => rfl
  | v :: vs, env => by simp only [wipeS, List.length_set]; exact wipeS_len
theorem wipeS_get : ∀ {own : List Nat} {env : List Sl} {j : Nat} {sl : Sl}, (wipeS env own)[j]? = some sl → (j ∈ own ∧ sl = .un) ∨ (j ∉ own ∧ env[j]? = some sl)
  | [], env, j, sl, h => .inr ⟨by simp, h⟩
  | v :: vs, env, j, sl, h => by
    simp only [wipeS] at h
    by_cases hj : j = v
    · subst hj
      have hlt : j < (wipeS env vs).length := by
        have := (List.getElem?_eq_some_iff.mp h).1
        simpa using this
      rw [List.getElem?_set_self hlt] at h
      cases h
      exact .inl ⟨by simp, rfl⟩
    · rw [List.getElem?_set_ne (Ne.symm hj)] at h
      rcases wipeS_get h with ⟨h1, h2⟩ | ⟨h1, h2⟩
      · exact .inl ⟨List.mem_cons_of_mem _ h1, h2⟩
      · exact .inr ⟨by simp [hj, h1], h2⟩
theorem wipeS_out : ∀ {own : List Nat} {env : List Sl} {j : Nat}, j ∉ own → (wipeS env own)[j]? = env[j]?
  | [], env, j, _ => rfl
  | v :: vs, env, j, h => by
    simp only [List.mem_cons, not_or] at h
    simp only [wipeS]
    rw [List.getElem?_set_ne (fun z => h.1 z.symm)]
    exact wipeS_out h.2
theorem restS_len : ∀ {own : List Nat} {old env : List Sl}, (restS old env own).length = env.length
  | [], _, _ => rfl
  | v :: vs, old, env => by simp only [restS, List.length_set]; exact restS_len
theorem restS_get : ∀ {own : List Nat} {old env : List Sl} {j : Nat} {sl : Sl}, (restS old env own)[j]? = some sl → (j ∈ own ∧ sl = old.getD j .un) ∨ (j ∉ own ∧ env[j]? = some sl)
  | [], old, env, j, sl, h => .inr ⟨by simp, h⟩
  | v :: vs, old, env, j, sl, h => by
    simp only [restS] at h
    by_cases hj : j = v
    · subst hj
      have hlt : j < (restS old env vs).length := by
        have := (List.getElem?_eq_some_iff.mp h).1
        simpa using this
      rw [List.getElem?_set_self hlt] at h
      cases h
      exact .inl ⟨by simp, rfl⟩
    · rw [List.getElem?_set_ne (Ne.symm hj)] at h
      rcases restS_get h with ⟨h1, h2⟩ | ⟨h1, h2⟩
      · exact .inl ⟨List.mem_cons_of_mem _ h1, h2⟩
      · exact .inr ⟨by simp [hj, h1], h2⟩
theorem wipe_in : ∀ {vs : List Nat} {σ : L2.St} {j : Nat}, j ∈ vs → (L2.wipe σ vs)[j]? = none ∨ (L2.wipe σ vs)[j]? = some none
  | [], _, _, h => by simp at h
  | v :: vs, σ, j, h => by
    unfold L2.wipe
    by_cases hj : j = v
    · subst hj
      by_cases hl : j < (L2.wipe σ vs).length
      · rw [List.getElem?_set_self hl]; exact .inr rfl
      · exact .inl (List.getElem?_eq_none (by simpa using hl))
    · rw [List.getElem?_set_ne (Ne.symm hj)]
      rcases List.mem_cons.mp h with z | z
      · exact absurd z hj
      · exact wipe_in z
theorem wipe_eq {σ τ : L2.St} {vs : List Nat} (hl : σ.length = τ.length) (h : ∀ j : Nat, j ∉ vs → σ[j]? = τ[j]?) : L2.wipe σ vs = L2.wipe τ vs := by
  refine List.ext_getElem? fun j => ?_
  by_cases hj : j ∈ vs
  · have l1 : (L2.wipe σ vs).length = (L2.wipe τ vs).length := by rw [L2.wipe_length, L2.wipe_length, hl]
    rcases wipe_in (σ := σ) hj with e1 | e1 <;> rcases wipe_in (σ := τ) hj with e2 | e2
    · rw [e1, e2]
    · have a := List.getElem?_eq_none_iff.mp e1
      have b := (List.getElem?_eq_some_iff.mp e2).1
      omega
    · have a := List.getElem?_eq_none_iff.mp e2
      have b := (List.getElem?_eq_some_iff.mp e1).1
      omega
    · rw [e1, e2]
  · rw [L2.wipe_out hj, L2.wipe_out hj]; exact h j hj
/-- the block's names are forgotten -/
theorem Rel.wipe {K : PySem.W.Frag} {mg : Str → Option Value} {G : Gh} {s : SS} {σ : L2.St} {H : Hp} (R : Rel K mg G s σ H) (own : List Nat) : Rel K mg G { s with env := wipeS s.env own } (L2.wipe σ own) H :=
  R.unset (by rw [wipeS_len, L2.wipe_length]; exact R.len) fun i sl e => by
    rcases wipeS_get e with ⟨_, h⟩ | ⟨h1, h2⟩
    · exact .inl h
    · exact .inr ⟨h2, by rw [L2.wipe_out h1]⟩
/-- an object that is held grows -/
theorem Rel.updHold {K : PySem.W.Frag} {mg : Str → Option Value} {G : Gh} {s : SS} {σ : L2.St} {H : Hp} {D : Addr} {acc : List V} {ho : HO} (R : Rel K mg G s σ H) (g : G D = .hold) (h : H D = some (.lst acc)) : Rel K mg G s σ (upd H D ho) ∧ Mono G H G (upd H D ho) := by
  have m : Mono G H G (upd H D ho) := ⟨fun b e => ⟨e, upd_ne fun z => by rw [z, g] at e; cases e⟩, fun _ _ e => e,
    fun b xs e => by rw [upd_ne (fun z => by rw [z, h] at e; cases e)]; exact e, fun b q u e => by rw [upd_ne (fun z => by rw [z, h] at e; cases e)]; exact e⟩
  refine ⟨⟨R.len, fun j sl ej => ?_, fun l so el => ?_, R.uniq, fun b hb => ?_, R.lim⟩, m⟩
  · have sr := R.slots j sl ej
    cases sl with
    | un => trivial
    | val v => obtain ⟨y, e1, p⟩ := sr; exact ⟨y, e1, p.step m⟩
    | own c =>
      obtain ⟨b, e1, gb, ob⟩ := sr
      exact ⟨b, e1, gb, ob.step (upd_ne fun z => by rw [z, g] at gb; cases gb) m⟩
  · obtain ⟨b, gb, ob⟩ := R.sto l so el
    exact ⟨b, gb, ob.step (upd_ne fun z => by rw [z, g] at gb; cases gb) m⟩
  · by_cases n : b = D
    · subst n; rw [upd_same]; exact fun z => nomatch z
    · rw [upd_ne n]; exact R.trk b hb
theorem Step.updHold {G0 G : Gh} {H0 H : Hp} {D : Addr} {ho : HO} (st : Step G0 H0 G H) (h0 : H0 D = none) (t0 : G0 D = .free) : Step G0 H0 G (upd H D ho) where
  mono := ⟨fun b e => let ⟨e1, e2⟩ := st.fz b e; ⟨e1, (upd_ne fun z => by rw [z, t0] at e; cases e).trans e2⟩, fun b l e => st.loc b l e,
    fun b xs e => by rw [upd_ne (fun z => by rw [z, h0] at e; cases e)]; exact st.tup b xs e, fun b q u e => by rw [upd_ne (fun z => by rw [z, h0] at e; cases e)]; exact st.frz b q u e⟩
  hold := fun b e => let ⟨e1, e2⟩ := st.hold b e; ⟨e1, (upd_ne fun z => by rw [z, t0] at e; cases e).trans e2⟩
/-- a comprehension's tests -/
def tCs (K : PySem.W.Frag) (mg : Str → Option Value) (cf : CF) (cs : List E) : L2.TT := fun σ H Q => ∃ G s b s', Rel K mg G s σ H ∧ evalCs cf cs s = .ok b s' ∧ ∀ G' H', Rel K mg G' s' σ H' → Step G H G' H' → Q b H'
theorem PTs.imp {X : L2.Cx} {e : List Expr} {t t' : L2.TT} (h : PTs X e t) (i : ∀ σ H Q, t' σ H Q → t σ H Q) : PTs X e t' := ⟨fun pins s σ H Q I q => h.run pins s σ H Q I (i σ H Q q)⟩
theorem pts_of {Y : L2.Cx} {cf : CF} {es : List Expr} {cs : List E} (hl : cs.length ≤ 1) (h : PEs Y cf noEx es cs) : PTs Y es (tCs Y.K Y.mg cf cs) := by
  cases h with
  | nil =>
    refine PTs.imp L2.pts_nil fun σ H Q q => ?_
    obtain ⟨G, s, b, s', R, e, q⟩ := q
    simp only [evalCs] at e
    cases e
    exact q G H R .refl
  | cons h1 h2 t =>
    cases t with
    | cons _ _ _ => simp at hl
    | nil =>
      refine PTs.imp (L2.pts_one h2) fun σ H Q q => ?_
      obtain ⟨G, s, b, s', R, e, q⟩ := q
      simp only [evalCs] at e
      refine ⟨G, s, R, ?_⟩
      cases e1 : evalE cf _ s with
      | bad => rw [e1] at e; cases e
      | exc x s1 => rw [e1] at e; cases e
      | ok r s1 =>
        rw [e1] at e
        simp only [Res.bind] at e
        cases e2 : testR s1 r with
        | none => rw [e2] at e; cases e
        | some c =>
          rw [e2] at e
          cases e
          exact .inl ⟨r, _, _, rfl, e2, q⟩
/-- one turn -/
def lcTurn (cf : CF) (elt : E) (t : T) (cs : List E) : PV → SS → Res (Option PV) := fun x s2 => match bindT t x s2 with
  | some s3 => (evalCs cf cs s3).bind fun b s4 => if b then (evalE cf elt s4).bind fun r s5 => (match keep s5 r with
      | some (v, s6) => .ok (some v) s6
      | none => .bad)
    else .ok none s4
  | none => .bad
theorem Res.bind_ok {α β : Type} (a : α) (s : SS) (f : α → SS → Res β) : (Res.ok a s).bind f = f a s := rfl
theorem evalE_lc (cf : CF) (elt : E) (t : T) (it : I) (cs : List E) (own : List Nat) (s : SS) : evalE cf (.lc elt t it cs own) s = (evalI cf it s).bind fun xs s1 => if ownSlots s1.env own then .bad else
    (noExc (lcLoop own (lcTurn cf elt t cs) xs [] s1)).bind fun ys s7 => .ok (.fr (.lst ys)) { s7 with env := restS s1.env s7.env own } := by
  simp only [evalE]; rfl
theorem res_noExc {α : Type} {r : Res α} {a : α} {s : SS} (h : noExc r = .ok a s) : r = .ok a s := by
  cases r <;> first | exact h | cases h
theorem tE_lc {e' : E} {t' : T} {it' : I} {cs : List E} {vs0 : List Nat} {nk : Str → Bool} {N : List Str} {k : Nat} {t : Expr} (ht : cT (fun i => decide (i ∈ vs0)) nk N k t = some t') {σ : L2.St} {H : Hp} {Q : L2.VK}
    (h : tEX X cf Ex (.lc e' t' it' cs vs0) σ H Q) : L2.tLc (tIX X cf Ex it') (tG X.K X.mg t') (tCs X.K X.mg cf cs) (tE X.K X.mg cf noEx e') vs0 σ H Q := by
  obtain ⟨G, s, Rl, h⟩ := h
  rw [evalE_lc] at h
  generalize hvs : vs0 = vs at *
  refine ⟨G, s, Rl, ?_⟩
  cases e1 : evalI cf it' s with
  | bad => rw [e1] at h; rcases h with ⟨_, _, z, _⟩ | ⟨_, _, z, _⟩ <;> cases z
  | exc x s1 =>
    rw [e1] at h
    rcases h with ⟨_, _, z, _⟩ | ⟨_, _, z, h⟩ <;> cases z
    exact .inr ⟨_, _, rfl, h⟩
  | ok xs s1 =>
    rw [e1, Res.bind_ok] at h
    refine .inl ⟨xs, s1, rfl, fun G1 H1 J R1 st1 wk D hD => ?_⟩
    split at h
    · rcases h with ⟨_, _, z, _⟩ | ⟨_, _, z, _⟩ <;> cases z
    rename_i hown
    have loop : ∃ ys s7, lcLoop vs (lcTurn cf e' t' cs) xs [] s1 = .ok ys s7 ∧ ∀ G' H' x, Rel X.K X.mg G' { s7 with env := restS s1.env s7.env vs } σ H' → Step G H G' H' → RVR X.K X.mg G G' H' σ (.fr (.lst ys)) x → Q x H' := by
      cases e2 : noExc (lcLoop vs (lcTurn cf e' t' cs) xs [] s1) with
      | bad =>
        rcases h with ⟨_, _, z, _⟩ | ⟨_, _, z, _⟩
        · rw [e2] at z; cases z
        · rw [e2] at z; cases z
      | exc x s2 =>
        cases e3 : lcLoop vs (lcTurn cf e' t' cs) xs [] s1 <;> (rw [e3] at e2; cases e2)
      | ok ys s7 =>
        rcases h with ⟨_, _, z, h⟩ | ⟨_, _, z, _⟩
        · have e3 := e2
          rw [e2] at z
          cases z
          exact ⟨ys, s7, res_noExc e3, h⟩
        · rw [e2] at z; cases z
    obtain ⟨ys, s7, eL, fin⟩ := loop
    -- the new list
    have q0 := Same.new (t := .hold) (o := .lst []) R1.trk hD (fun _ z => nomatch z)
    have R1' := R1.same q0
    have st1' := st1.trans q0.st
    have hG1D : G1 D = .free := R1.free hD
    have hGD : G D ≠ .hold := fun z => by have := (st1.hold D z).1; rw [hG1D] at this; cases this
    refine ⟨fun i m Hc => m = xs.length - i ∧ i ≤ xs.length ∧ ∃ G2 s2 acc accV, Rel X.K X.mg G2 { s2 with env := wipeS s2.env vs } (L2.wipe σ vs) Hc ∧ Step G1 H1 G2 Hc ∧ G2 D = .hold ∧ Hc D = some (.lst accV) ∧ PVRs X.K X.mg G2 Hc acc accV ∧
      lcLoop vs (lcTurn cf e' t' cs) (xs.drop i) acc s2 = .ok ys s7 ∧ s2.env.length = s1.env.length, ⟨xs.length, by simp, Nat.zero_le _, _, s1, [], [], R1'.wipe vs, q0.st, tg_same, upd_same, .nil, by simpa using eL, rfl⟩, ?_⟩
    rintro i m Hc ⟨rfl, hi', G2, s2, acc, accV, R2, st2, g2, hHD, pa, eL2, len2⟩
    obtain ⟨w1, w2⟩ := wk i G2 Hc st2 R2.trk
    by_cases hlt : i < xs.length
    · refine .inr ?_
      have ex : xs[i]? = some xs[i] := by simp [hlt]
      obtain ⟨go, yl⟩ := w1 _ ex
      rw [List.drop_eq_getElem_cons hlt] at eL2
      simp only [lcLoop] at eL2
      refine ⟨go, fun H' => ∃ G5 s5 acc5 accV5, Rel X.K X.mg G5 { s5 with env := wipeS s5.env vs } (L2.wipe σ vs) H' ∧ Step G1 H1 G5 H' ∧ G5 D = .hold ∧ H' D = some (.lst accV5) ∧ PVRs X.K X.mg G5 H' acc5 accV5 ∧ lcLoop vs (lcTurn cf e' t' cs) (xs.drop (i + 1)) acc5 s5 = .ok ys s7 ∧ s5.env.length = s1.env.length,
        fun H' ⟨G5, s5, acc5, accV5, a1, a2, a3, a4, a5, a6, a7⟩ => ⟨xs.length - (i + 1), by omega, rfl, hlt, G5, s5, acc5, accV5, a1, a2, a3, a4, a5, a6, a7⟩, fun x H' hy => ?_⟩
      obtain ⟨G3, q3, px⟩ := yl x H' hy
      have R3 := R2.same q3
      have g3 := q3.st.hold D g2
      have tu : ∃ o sT, lcTurn cf e' t' cs xs[i] { s2 with env := wipeS s2.env vs } = .ok o sT ∧ (match o with | some v => if acc.length < szL then lcLoop vs (lcTurn cf e' t' cs) (xs.drop (i + 1)) (acc ++ [v]) sT else .bad | none => lcLoop vs (lcTurn cf e' t' cs) (xs.drop (i + 1)) acc sT) = .ok ys s7 := by
        cases e4 : lcTurn cf e' t' cs xs[i] { s2 with env := wipeS s2.env vs } with
        | bad => rw [e4] at eL2; cases eL2
        | exc _ _ => rw [e4] at eL2; cases eL2
        | ok o sT => rw [e4] at eL2; exact ⟨o, sT, rfl, eL2⟩
      obtain ⟨oT, sT, eT, eL3⟩ := tu
      unfold lcTurn at eT
      cases eb : bindT t' xs[i] { s2 with env := wipeS s2.env vs } with
      | none => rw [eb] at eT; cases eT
      | some s3 =>
        rw [eb] at eT
        simp only at eT
        have hwA : ∀ σ2 : L2.St, σ2.length = (L2.wipe σ vs).length → (∀ j : Nat, tIn t' j = false → σ2[j]? = (L2.wipe σ vs)[j]?) → L2.wipe σ2 vs = L2.wipe σ vs := fun σ2 l4 k4 => wipe_eq (by rw [l4, L2.wipe_length]) fun j hj => by
          rw [k4 j, L2.wipe_out hj]
          cases ti : tIn t' j with
          | false => rfl
          | true =>
            have := (cT_ok k).1 ht j ti
            rw [decide_eq_true_eq] at this
            exact absurd this hj
        refine ⟨G3, xs[i], _, s3, R3, px, eb, fun σ2 R4 l4 k4 => ⟨hwA σ2 l4 k4, ?_⟩⟩
        have hw : L2.wipe σ2 vs = L2.wipe σ vs := hwA σ2 l4 k4
        have l3 : s3.env.length = s1.env.length := by rw [R4.len, l4, L2.wipe_length, ← R1.len]
        cases ec : evalCs cf cs s3 with
        | bad => rw [ec] at eT; cases eT
        | exc _ _ => rw [ec] at eT; cases eT
        | ok b s4 =>
          rw [ec] at eT
          simp only [Res.bind] at eT
          refine ⟨G3, s3, b, s4, R4, ec, fun G5 H5 R5 st5 => ?_⟩
          have g5 := st5.hold D g3.1
          cases b with
          | false =>
            rw [if_neg Bool.false_ne_true] at eT
            cases eT
            show (if false = true then _ else _)
            rw [if_neg Bool.false_ne_true]
            have R5w := R5.wipe vs
            rw [hw] at R5w
            refine ⟨G5, _, acc, accV, R5w, (st2.trans q3.st).trans st5, g5.1, by rw [g5.2, g3.2]; exact hHD, (pa.step q3.st.mono).step st5.mono, eL3, ?_⟩
            rw [R5.len, l4, L2.wipe_length, ← R1.len]
          | true =>
            rw [if_pos rfl] at eT
            show (if true = true then _ else _)
            rw [if_pos rfl]
            refine ⟨G5, s4, R5, ?_⟩
            cases ee : evalE cf e' s4 with
            | bad => rw [ee] at eT; cases eT
            | exc _ _ => rw [ee] at eT; cases eT
            | ok r s5 =>
              rw [ee] at eT
              simp only at eT
              refine .inl ⟨r, s5, rfl, fun G6 H6 y R6 st6 rv6 => ?_⟩
              cases ek : keep s5 r with
              | none => rw [ek] at eT; cases eT
              | some q =>
                obtain ⟨v, s6⟩ := q
                rw [ek] at eT
                cases eT
                simp only at eL3
                split at eL3
                · rename_i hz
                  obtain ⟨G7, R7, st7, m7, p7, l7, _⟩ := keep_ok R6 st6 rv6 ek
                  have g7 := st7.hold D g5.1
                  have hHD7 : H6 D = some (.lst accV) := by rw [g7.2, g5.2, g3.2]; exact hHD
                  have pa7 := ((pa.step q3.st.mono).step st5.mono).step st7.mono
                  refine ⟨accV, hHD7, by rw [← pa7.length, ← szL_eq]; exact hz, ?_⟩
                  obtain ⟨R8, m8⟩ := R7.updHold (ho := .lst (accV ++ [y])) g7.1 hHD7
                  have R8w := R8.wipe vs
                  rw [hw] at R8w
                  refine ⟨G7, _, acc ++ [v], accV ++ [y], R8w, (((st2.trans q3.st).trans st5).trans st7).updHold hD hG1D, g7.1, upd_same, (pa7.step m8).append (.cons (p7.step m8) .nil), eL3, ?_⟩
                  rw [R8.len, l4, L2.wipe_length, ← R1.len]
                · cases eL3
    · have e : i = xs.length := by omega
      subst e
      refine .inl ⟨w2 rfl, ?_⟩
      rw [List.drop_length] at eL2
      simp only [lcLoop] at eL2
      cases eL2
      refine fin G2 Hc _ ⟨?_, fun j sl ej => ?_, R2.sto, R2.uniq, R2.trk, R2.lim⟩ (st1.trans st2) ⟨D, rfl, g2, hGD, accV, hHD, pa⟩
      · rw [restS_len]; exact len2.trans R1.len
      · rcases restS_get ej with ⟨hj, rfl⟩ | ⟨hj, ej'⟩
        · -- the block's own name: as it was
          cases e5 : s1.env[j]? with
          | none =>
            have : s1.env.getD j Sl.un = .un := by rw [List.getD_eq_getElem?_getD, e5]; rfl
            rw [this]; trivial
          | some sl =>
            have : s1.env.getD j Sl.un = sl := by rw [List.getD_eq_getElem?_getD, e5]; rfl
            rw [this]
            have sr := R1.slots j sl e5
            cases sl with
            | un => trivial
            | val v => obtain ⟨y, e1, p⟩ := sr; exact ⟨y, e1, p.step st2.mono⟩
            | own c =>
              exfalso
              apply hown
              unfold ownSlots
              rw [List.any_eq_true]
              exact ⟨j, hj, by rw [e5]⟩
        · have e6 : (wipeS s7.env vs)[j]? = some sl := by rw [wipeS_out hj]; exact ej'
          have sr := R2.slots j sl e6
          rw [L2.wipe_out hj] at sr
          exact sr
theorem pe_lc' (o : XO X g cf Ex) {t it elt : Expr} {ifs : List Expr} {scope : Scope} {own : List (Str × Nat)} {pos : Pos} {e' : E} {t' : T} {it' : I} {cs : List E} {nk : Str → Bool} {k : Nat}
    (ok : L2.BlkOk X.N X.env.scope scope own) (hi : PI X t it (tIX X cf Ex it')) (hf : ∀ x, foldedSetIterable it X.env x = pure x) (hl : cs.length ≤ 1)
    (ht : cT (fun i => decide (i ∈ own.map (·.2))) nk X.N k t = some t')
    (hblk : ∀ (s : Shared) (H : Hp) (C : Addr) (cl : List (Str × Addr)) (fp : List Addr), PG (X.blk s H scope (compEnvC scope cl C X.env) fp) t (tG X.K X.mg t') ∧ PEs (X.blk s H scope (compEnvC scope cl C X.env) fp) cf noEx ifs cs ∧ PE (X.blk s H scope (compEnvC scope cl C X.env) fp) elt (tE X.K X.mg cf noEx e')) :
    PE X (.ListComp elt [⟨t, it, ifs, 0⟩] scope pos) (tEX X cf Ex (.lc e' t' it' cs (own.map (·.2)))) :=
  PE.imp (L2.pe_lc (pos := pos) o.calm o.nd hi ok (fun s H C cl fp => (hblk s H C cl fp).1) (tt := tCs X.K X.mg cf cs) (te := tE X.K X.mg cf noEx e') (g := tG X.K X.mg t') (fun s H C cl fp => pts_of hl (hblk s H C cl fp).2.1) (fun s H C cl fp => (hblk s H C cl fp).2.2) hf) fun σ H Q h => tE_lc ht h
end
end TP

set_option Elab.async false
set_option linter.all false
set_option maxRecDepth 100000
set_option maxHeartbeats 4000000
/-! Sal8: every compiled expression keeps its meaning. -/
namespace TP
open PySem PySem.Spec PyProof.Rows
open L2 (V Hp HO Key upd upd_same upd_ne SqL SqT Rd OpR UnR CallR IxR Vals Inv PE PT PW PA PI PG PGs PO PTs Vis Gl Loc It Itl Itt Itr Its Ite Itz Itv)

section
variable {X : L2.Cx} {g : Cg} {cf : CF} {Ex : L2.WX}
theorem tT_ite {c a b : E} {σ : L2.St} {H : Hp} {Q : Bool → Hp → Prop} (h : tTX X cf Ex (.ite c a b) σ H Q) : tTX X cf Ex c σ H fun t H1 => if t = true then tTX X cf Ex a σ H1 Q else tTX X cf Ex b σ H1 Q := by
  obtain ⟨G, s, R, h⟩ := h
  simp only [evalE] at h
  refine ⟨G, s, R, ?_⟩
  cases e1 : evalE cf c s with
  | bad => rw [e1] at h; rcases h with ⟨_, _, _, z, _⟩ | ⟨_, _, z, _⟩ <;> cases z
  | exc x s1 =>
    rw [e1] at h
    rcases h with ⟨_, _, _, z, _⟩ | ⟨_, _, z, h⟩ <;> cases z
    exact .inr ⟨_, _, rfl, h⟩
  | ok r s1 =>
    rw [e1] at h
    simp only [Res.bind] at h
    cases e2 : testR s1 r with
    | none => rw [e2] at h; rcases h with ⟨_, _, _, z, _⟩ | ⟨_, _, z, _⟩ <;> cases z
    | some t =>
      rw [e2] at h
      refine .inl ⟨r, t, s1, rfl, e2, fun G1 H1 R1 st1 => ?_⟩
      have fin : ∀ {d : E}, ((∃ r b s', evalE cf d s1 = .ok r s' ∧ testR s' r = some b ∧ ∀ G' H', Rel X.K X.mg G' s' σ H' → Step G H G' H' → Q b H') ∨ (∃ x s', evalE cf d s1 = .exc x s' ∧ xcP X.K X.mg Ex x s' G σ H)) → tTX X cf Ex d σ H1 Q := fun {d} h => by
        refine ⟨G1, s1, R1, ?_⟩
        rcases h with ⟨r2, b2, s2, z, z2, h⟩ | ⟨x, s2, z, h⟩
        · exact .inl ⟨r2, b2, s2, z, z2, fun G2 H2 R2 st2 => h G2 H2 R2 (st1.trans st2)⟩
        · exact .inr ⟨x, s2, z, h.step st1⟩
      cases t with
      | true => show (if true = true then _ else _); rw [if_pos rfl]; exact fin h
      | false => show (if false = true then _ else _); rw [if_neg Bool.false_ne_true]; exact fin h
theorem pt_ite {c a b : Expr} {c' a' b' : E} {pos : Pos} (hc : PT X c (tTX X cf Ex c')) (ha : PT X a (tTX X cf Ex a')) (hb : PT X b (tTX X cf Ex b')) : PT X (.IfExp c a b pos) (tTX X cf Ex (.ite c' a' b')) := by
  refine ⟨fun pins s σ H Q I h => ?_⟩
  show wpAny _ _ (do if ← isTrue c X.env (eval c X.env) then isTrue a X.env (eval a X.env) else isTrue b X.env (eval b X.env)) _ _ _
  refine wpAny_bind (L2.thn (hc.run pins s σ H _ I (tT_ite h)) fun t s1 ⟨H1, I1, q1⟩ => ?_)
  cases t with
  | true => exact ha.run pins s1 σ H1 Q I1 (by simpa using q1)
  | false => exact hb.run pins s1 σ H1 Q I1 (by simpa using q1)
/-- an expression's two readings -/
abbrev PB (X : L2.Cx) (cf : CF) (Ex : L2.WX) (e : Expr) (e' : E) : Prop := PE X e (tEX X cf Ex e') ∧ PT X e (tTX X cf Ex e')
theorem pb_list {N : List Str} {sc : Scope} {k : Nat} (h : ∀ {e : Expr} {e' : E}, cE g N k sc e = some e' → PB X cf Ex e e') : ∀ {es : List Expr} {es' : List E}, mapO (cE g N k sc) es = some es' → PEs X cf Ex es es'
  | [], es', he => by cases he; exact .nil
  | e :: es, es', he => by
    simp only [mapO] at he
    cases h1 : cE g N k sc e with
    | none => rw [h1] at he; cases he
    | some e1 =>
      cases h2 : mapO (cE g N k sc) es with
      | none => rw [h1, h2] at he; cases he
      | some es1 =>
        rw [h1, h2] at he
        cases he
        exact .cons (h h1).1 (h h1).2 (pb_list h h2)
theorem mapO_one {α β : Type} {f : α → Option β} {es : List α} {a : β} (h : mapO f es = some [a]) : ∃ e, es = [e] ∧ f e = some a := by
  match es, h with
  | [], h => cases h
  | [e], h =>
    simp only [mapO] at h
    cases h1 : f e with
    | none => rw [h1] at h; cases h
    | some b => rw [h1] at h; cases h; exact ⟨e, rfl, h1⟩
  | e :: e2 :: es, h =>
    simp only [mapO] at h
    cases h1 : f e with
    | none => rw [h1] at h; cases h
    | some b =>
      rw [h1] at h
      cases h2 : f e2 with
      | none => rw [h2] at h; cases h
      | some c =>
        rw [h2] at h
        cases h3 : mapO f es with
        | none => rw [h3] at h; cases h
        | some cs => rw [h3] at h; cases h
theorem mapO_nil {α β : Type} {f : α → Option β} {es : List α} (h : mapO f es = some []) : es = [] := by
  match es, h with
  | [], _ => rfl
  | e :: es, h =>
    simp only [mapO] at h
    cases h1 : f e with
    | none => rw [h1] at h; cases h
    | some b =>
      rw [h1] at h
      cases h3 : mapO f es with
      | none => rw [h3] at h; cases h
      | some cs => rw [h3] at h; cases h
theorem mapO_two {α β : Type} {f : α → Option β} {es : List α} {a b : β} (h : mapO f es = some [a, b]) : ∃ e d, es = [e, d] ∧ f e = some a ∧ f d = some b := by
  match es, h with
  | [], h => cases h
  | e :: es, h =>
    simp only [mapO] at h
    cases h1 : f e with
    | none => rw [h1] at h; cases h
    | some c =>
      rw [h1] at h
      cases h3 : mapO f es with
      | none => rw [h3] at h; cases h
      | some cs =>
        rw [h3] at h
        cases h
        obtain ⟨d, rfl, hd⟩ := mapO_one h3
        exact ⟨e, d, rfl, h1, hd⟩
theorem mapO_emp {α β : Type} {f : α → Option β} {es : List α} {es' : List β} (h : mapO f es = some es') (hn : ¬ es.isEmpty = true) : es ≠ [] := fun z => by subst z; exact hn rfl
theorem behind_blk {s : Shared} {H : Hp} {scope : Scope} {C : Addr} {cl : List (Str × Addr)} {fp : List Addr} : NkOk (X.blk s H scope (compEnvC scope cl C X.env) fp) (ownNm scope) := by
  intro x hx
  unfold ownNm at hx
  split at hx
  · rename_i e
    have e2 : (compEnvC scope cl C X.env).scope.names.lookup x = some .local := L2.lookup_relS_keep (sc := X.env.scope) (by decide) e
    exact ⟨.inl e2, .inr e2⟩
  · rename_i e
    have e2 : (compEnvC scope cl C X.env).scope.names.lookup x = some .cell := L2.lookup_relS_keep (sc := X.env.scope) (by decide) e
    refine ⟨.inr e2, .inl ?_⟩
    show (scope.names.lookup x == some .cell) = true
    rw [e]; rfl
  · cases hx
theorem cI_fold {N : List Str} {sc : Scope} {k : Nat} {t e : Expr} {i : I} (h : cI g N k sc t e = some i) : ∀ (env : Env) (x : Value), foldedSetIterable e env x = pure x := by
  cases k with
  | zero => cases h
  | succ k => cases e <;> first | (intro _ _; rfl) | (simp only [cI] at h; cases h)
theorem pb_plain {e : Expr} {e' : E} (h : PE X e (tEX X cf Ex e')) (he : ∀ whole, isTrue e X.env whole = (do let v ← whole; standAt e.pos; holding [v] (truthy v))) : PB X cf Ex e e' := ⟨h, pt_plain h he⟩
theorem po_bnd {N : List Str} {sc : Scope} {k : Nat} (ih : ∀ {e : Expr} {e' : E}, cE g N k sc e = some e' → PB X cf Ex e e') {o : Option Expr} {l : E} (h : bndC (cE g N k sc) o = some l) : PO X o (tBnd X cf Ex l) := by
  cases o with
  | none => cases h; exact po_none'
  | some e =>
    simp only [bndC] at h
    cases h1 : cE g N k sc e with
    | none => rw [h1] at h; cases h
    | some e1 =>
      rw [h1] at h
      simp only at h
      split at h
      · cases h
      · rename_i hb
        cases h
        exact po_some' (by simpa using hb) (ih h1).1
/-- THE EXPRESSIONS -/
theorem exprs_ok : ∀ (k : Nat), (∀ {X : L2.Cx} {g : Cg} {cf : CF} {Ex : L2.WX} (o : XO X g cf Ex) {e : Expr} {e' : E}, cE g X.N k X.env.scope e = some e' → PB X cf Ex e e') ∧
    (∀ {X : L2.Cx} {g : Cg} {cf : CF} {Ex : L2.WX} (o : XO X g cf Ex) {t e : Expr} {i : I}, cI g X.N k X.env.scope t e = some i → PI X t e (tIX X cf Ex i))
  | 0 => ⟨fun _ _ _ h => (nomatch h), fun _ _ _ _ h => (nomatch h)⟩
  | k + 1 => by
    obtain ⟨ihE, ihI⟩ := exprs_ok k
    refine ⟨fun {X g cf Ex} o {e e'} h => ?_, fun {X g cf Ex} o {t e i} h => ?_⟩
    · have ih : ∀ {e : Expr} {e' : E}, cE g X.N k X.env.scope e = some e' → PB X cf Ex e e' := fun h => ihE o h
      rw [cE.eq_def] at h
      simp only at h
      split at h
      · cases h
        exact pb_plain (PE.imp L2.pe_int fun σ H Q h => tE_con (fun _ _ => .int _) h) fun _ => rfl
      · cases h
        exact pb_plain (PE.imp L2.pe_bl fun σ H Q h => tE_con (fun _ _ => .bl _) h) fun _ => rfl
      · cases h
        exact pb_plain (PE.imp L2.pe_non fun σ H Q h => tE_con (fun _ _ => .non) h) fun _ => rfl
      · cases h
        exact pb_plain (PE.imp L2.pe_str fun σ H Q h => tE_con (fun _ _ => .str _) h) fun _ => rfl
      · -- a name
        rename_i x p
        split at h
        · rename_i hp
          split at h
          · rename_i i hi
            split at h
            · rename_i hv
              cases h
              exact pb_plain (pe_var' hp (ixOf_get hi) hv) fun _ => rfl
            · cases h
          · split at h
            · rename_i hg
              split at h
              · rename_i n hn
                cases h
                exact pb_plain (pe_tyNm o hp hg hn) fun _ => rfl
              · obtain ⟨v, hv, rfl⟩ := Option.map_eq_some_iff.mp h
                exact pb_plain (pe_gcon o hp hg hv) fun _ => rfl
            · cases h
        · cases h
      · split at h
        · rename_i h1 h2 h3
          cases h
          exact pb_plain (pe_bin2 o h1 (ih h2).1 (ih h3).1) fun _ => rfl
        · cases h
      · obtain ⟨a', ha, rfl⟩ := Option.map_eq_some_iff.mp h
        exact pb_plain (pe_neg' (ih ha).1) fun _ => rfl
      · obtain ⟨a', ha, rfl⟩ := Option.map_eq_some_iff.mp h
        exact pe_not' (ih ha).1 (ih ha).2
      · split at h
        · cases h
        · rename_i hn
          obtain ⟨as, ha, rfl⟩ := Option.map_eq_some_iff.mp h
          obtain ⟨q1, q2⟩ := pe_and' (pos := _) (pb_list ih ha) (mapO_emp ha hn)
          exact ⟨q1, q2.pt⟩
      · split at h
        · cases h
        · rename_i hn
          obtain ⟨as, ha, rfl⟩ := Option.map_eq_some_iff.mp h
          obtain ⟨q1, q2⟩ := pe_or' (pos := _) (pb_list ih ha) (mapO_emp ha hn)
          exact ⟨q1, q2.pt⟩
      · split at h
        · rename_i hb
          obtain ⟨a', ha, rfl⟩ := Option.map_eq_some_iff.mp h
          exact pe_isN' hb (ih ha).1
        · split at h
          · rename_i c hb
            obtain ⟨a', ha, rfl⟩ := Option.map_eq_some_iff.mp h
            exact pe_isB' hb (ih ha).1
          · cases h
      · split at h
        · rename_i hb
          obtain ⟨a', ha, rfl⟩ := Option.map_eq_some_iff.mp h
          exact pe_notN' hb (ih ha).1
        · split at h
          · rename_i c hb
            obtain ⟨a', ha, rfl⟩ := Option.map_eq_some_iff.mp h
            exact pe_notB' hb (ih ha).1
          · cases h
      · split at h
        · cases h
        · rename_i hb
          split at h
          · rename_i h1 h2 h3
            cases h
            exact pe_cmp' o (by simpa using hb) h1 (ih h2).1 (ih h3).1
          · cases h
      · split at h
        · cases h
        · rename_i hb
          split at h
          · rename_i h1 h2 h3 h4 h5
            cases h
            exact pe_chain' o (by simpa using hb) h1 h2 (ih h3).1 (ih h4).1 (ih h5).1
          · cases h
      · split at h
        · rename_i h1 h2 h3
          cases h
          exact ⟨pe_ite' (ih h1).2 (ih h2).1 (ih h3).1, pt_ite (ih h1).2 (ih h2).2 (ih h3).2⟩
        · cases h
      · obtain ⟨as, ha, rfl⟩ := Option.map_eq_some_iff.mp h
        exact pb_plain (pe_tup' (PEs.pa ha (pb_list ih ha))) fun _ => rfl
      · obtain ⟨as, ha, rfl⟩ := Option.map_eq_some_iff.mp h
        exact pb_plain (pe_list' (PEs.pa ha (pb_list ih ha))) fun _ => rfl
      · split at h
        · rename_i h1 h2 h3
          cases h
          exact pb_plain (pe_slice' (ih h1).1 (po_bnd ih h2) (po_bnd ih h3)) fun _ => rfl
        · cases h
      · split at h
        · rename_i hs
          obtain ⟨a', ha, rfl⟩ := Option.map_eq_some_iff.mp h
          exact pb_plain (pe_revs hs (ih ha).1) fun _ => rfl
        · cases h
      · split at h
        · cases h
        · rename_i hs
          split at h
          · rename_i q hq
            obtain ⟨a', ha, rfl⟩ := Option.map_eq_some_iff.mp h
            exact pb_plain (pe_didx o (by simpa using hs) hq (ih ha).1) fun _ => rfl
          · split at h
            · rename_i h1 h2
              cases h
              exact pb_plain (pe_ix' (by simpa using hs) (ih h1).1 (ih h2).1) fun _ => rfl
            · cases h
      · -- a call of a name
        split at h
        · rename_i hp
          split at h
          · cases h
          · rename_i as ha
            split at h
            · rename_i hg
              split at h
              · rename_i hf
                cases h
                exact pb_plain (pe_call' o hp hg hf ha (PEs.pa ha (pb_list ih ha))) fun _ => rfl
              · split at h
                · rename_i a
                  obtain ⟨p, hb, rfl⟩ := Option.map_eq_some_iff.mp h
                  obtain ⟨e1, rfl, h1⟩ := mapO_one ha
                  exact pb_plain (pe_blt1 o hp hg hb h1 (ih h1).1) fun _ => rfl
                · rename_i a b
                  obtain ⟨p, hb, rfl⟩ := Option.map_eq_some_iff.mp h
                  obtain ⟨e1, e2, rfl, h1, h2⟩ := mapO_two ha
                  exact pb_plain (pe_blt2 o hp hg hb h1 h2 (ih h1).1 (ih h2).1) fun _ => rfl
                · cases h
            · split at h
              · rename_i i hi
                split at h
                · rename_i hv
                  rw [Bool.and_eq_true] at hv
                  cases h
                  exact pb_plain (pe_callL' o hv.2 hp (ixOf_get hi) hv.1 ha (PEs.pa ha (pb_list ih ha))) fun _ => rfl
                · cases h
              · cases h
        · cases h
      · -- by keywords
        split at h
        · rename_i hp
          simp only [Bool.and_eq_true, decide_eq_true_eq] at hp
          obtain ⟨⟨⟨hp, hg⟩, hf⟩, hst⟩ := hp
          split at h
          · rename_i as bs ks h1 h2 h3
            split at h
            · rename_i pm hk
              cases h
              exact pb_plain (pe_callK' o hp hg hf h1 h2 h3 hk (PEs.pa h1 (pb_list ih h1)) (kwE_pk h2 (pb_list ih h2))) fun _ => rfl
            · cases h
          · cases h
        · cases h
      · -- a method
        split at h
        · rename_i hp
          rw [Bool.and_eq_true, Bool.not_eq_true'] at hp
          split at h
          · rename_i h1 ha
            split at h
            · obtain ⟨e1, rfl, h2⟩ := mapO_one ha
              split at h
              · rename_i d hd
                cases h
                unfold dedM1 at hd
                split at hd
                · rename_i hm
                  cases hd
                  subst hm
                  exact pb_plain (pe_append hp.1 hp.2 h1 h2 (ih h1).1 (ih h2).1) fun _ => rfl
                · split at hd
                  · rename_i hm
                    cases hd
                    subst hm
                    exact pb_plain (pe_popAt hp.1 hp.2 h1 h2 (ih h1).1 (ih h2).1) fun _ => rfl
                  · cases hd
              · obtain ⟨p, hm, rfl⟩ := Option.map_eq_some_iff.mp h
                exact pb_plain (pe_sm hm hp.1 hp.2 h1 h2 (ih h1).1 (ih h2).1) fun _ => rfl
            · obtain ⟨d, hd, rfl⟩ := Option.map_eq_some_iff.mp h
              have := mapO_nil ha
              subst this
              unfold dedM0 at hd
              split at hd
              · rename_i hm
                cases hd
                subst hm
                exact pb_plain (pe_pop hp.1 hp.2 h1 (ih h1).1) fun _ => rfl
              · split at hd
                · rename_i hm
                  cases hd
                  subst hm
                  exact pb_plain (pe_clear hp.1 hp.2 h1 (ih h1).1) fun _ => rfl
                · split at hd
                  · rename_i hm
                    cases hd
                    subst hm
                    exact pb_plain (pe_reverse hp.1 hp.2 h1 (ih h1).1) fun _ => rfl
                  · cases hd
            · obtain ⟨d, hd, rfl⟩ := Option.map_eq_some_iff.mp h
              obtain ⟨e1, e2, rfl, h2, h3⟩ := mapO_two ha
              unfold dedM2 at hd
              split at hd
              · rename_i hm
                cases hd
                subst hm
                exact pb_plain (pe_insert hp.1 hp.2 h1 h2 h3 (ih h1).1 (ih h2).1 (ih h3).1) fun _ => rfl
              · cases hd
            · cases h
          · cases h
        · cases h
      · -- a comprehension
        rename_i elt tgt it ifs scope pos
        split at h
        · rename_i own hown
          split at h
          · rename_i hb
            split at h
            · rename_i it' t' cs e1 h1 h2 h3 h4
              split at h
              · rename_i hl
                cases h
                refine pb_plain (pe_lc' o (L2.blkOk_by hb) (ihI o h1) (cI_fold h1 _) hl h2 fun s H C cl fp => ?_) fun _ => rfl
                have ob := o.blk s H scope (compEnvC scope cl C X.env) fp
                have ihB : ∀ {e : Expr} {e' : E}, cE g X.N k (L2.relS scope X.env.scope) e = some e' → PB (X.blk s H scope (compEnvC scope cl C X.env) fp) cf noEx e e' := fun h => ihE ob h
                exact ⟨pg_T ob behind_blk k h2, pb_list ihB h3, (ihB h4).1⟩
              · cases h
            · cases h
          · cases h
        · cases h
      · cases h
    · have ih : ∀ {e : Expr} {e' : E}, cE g X.N k X.env.scope e = some e' → PB X cf Ex e e' := fun h => ihE o h
      have one : ∀ {e : Expr} {i : I}, (cE g X.N k X.env.scope e).map .of = some i → PI X t e (tIX X cf Ex i) := fun h => by
        obtain ⟨a', ha, rfl⟩ := Option.map_eq_some_iff.mp h
        exact pi_of' (ih ha).1
      rw [cI.eq_def] at h
      simp only at h
      split at h
      · rename_i f np args pos
        split at h
        · rename_i hc
          simp only [Bool.and_eq_true, Bool.not_eq_true', decide_eq_false_iff_not] at hc
          obtain ⟨⟨⟨hp, hg⟩, hf⟩, hw⟩ := hc
          split at h
          · cases h
          · rename_i as ha
            split at h
            · rename_i hn
              subst hn
              split at h
              · cases h
                obtain ⟨e1, rfl, h1⟩ := mapO_one ha
                exact PI.imp (L2.pi_range1 (gl_of hg) (o.bn _ (by decide)) (L2.pa_cons (ih h1).1 L2.pa_nil (cE_star h1 [] X.env)) (cE_star h1 [] X.env)) fun σ H R h => tI_range1 h
              · cases h
                obtain ⟨e1, e2, rfl, h1, h2⟩ := mapO_two ha
                exact PI.imp (L2.pi_range2 (gl_of hg) (o.bn _ (by decide)) (L2.pa_cons (ih h1).1 (L2.pa_cons (ih h2).1 L2.pa_nil (cE_star h2 [] X.env)) (cE_star h1 [e2] X.env)) (by rw [cE_star h1, cE_star h2]; rfl) (cE_star h2 [] X.env)) fun σ H R h => tI_range2 h
              · cases h
            · split at h
              · rename_i hn
                subst hn
                split at h
                · cases h
                  obtain ⟨e1, rfl, h1⟩ := mapO_one ha
                  exact PI.imp (L2.pi_enum (gl_of hg) (o.bn _ (by decide)) (L2.pa_cons (ih h1).1 L2.pa_nil (cE_star h1 [] X.env)) (cE_star h1 [] X.env)) fun σ H R h => tI_enum h
                · cases h
              · split at h
                · rename_i hn
                  subst hn
                  split at h
                  · cases h
                    obtain ⟨e1, e2, rfl, h1, h2⟩ := mapO_two ha
                    exact PI.imp (RZ.pi_zipA (gl_of hg) (o.bn _ (by decide)) (L2.pa_cons (ih h1).1 (L2.pa_cons (ih h2).1 L2.pa_nil (cE_star h2 [] X.env)) (cE_star h1 [e2] X.env)) (cE_star h1 [e2] X.env) (by rw [cE_star h2]; rfl)) fun σ H R h => tI_zip h
                  · cases h
                · split at h
                  · cases h
                    obtain ⟨e1, rfl, h1⟩ := mapO_one ha
                    have hn : f = "reversed" := by simp_all
                    subst hn
                    exact PI.imp (RT.pi_revA (gl_of hg) (o.bn _ (by decide)) (ih h1).1 (cE_star h1 [] X.env)) fun σ H R h => tI_rev h
                  · cases h
        · exact one h
      · cases h
      · exact one h
end
end TP

set_option Elab.async false
set_option linter.all false
set_option maxRecDepth 100000
set_option maxHeartbeats 4000000
/-! Sal9: statements. -/
namespace TP
open PySem PySem.Spec PyProof.Rows
open L2 (V Hp HO Key upd upd_same upd_ne SqL SqT Rd OpR UnR CallR IxR Vals Inv PE PT PW PA PI PG PGs PO PTs PS PSs Vis Gl Loc It Ends)

/-! ### compiling -/
def isCompE : Expr → Bool
  | .ListComp _ _ _ _ => true
  | .SetComp _ _ _ _ => true
  | .DictComp _ _ _ _ _ => true
  | _ => false
def isStarE : Expr → Bool
  | .Starred .. => true
  | _ => false
/-- the order of several stores at once -/
def swS (sc : Scope) (ts vs : List Expr) : Option (Option (List Str)) :=
  if !(ts.length == 2 || ts.length == 3) || vs.length != ts.length then some none
  else if vs.any isStarE then some none
  else
    let line := (ts.head?.map (·.pos.line)).getD 0
    let names := ts.filterMap fun
      | .Name id pos => if sc.names.lookup id == some .local && pos.line == line then some id else none
      | _ => none
    if names.length != ts.length || names.eraseDups.length != names.length then some none
    else if vs.all (foldedForSure 8) then some none
    else if vs.all (constantsAlone 8) then none
    else some (some names)
theorem swS_ok {env : Env} (hk : env.scope.kind = .function) {ts vs : List Expr} {r : Option (List Str)} (h : swS env.scope ts vs = some r) {k k2 : Nat} {p p2 : Pos} : swappedStores [.Tuple ts k p] (.Tuple vs k2 p2) env = pure r := by
  have hb : env.blockKind = .function := by unfold Env.blockKind; rw [hk]; rfl
  have hs : isStarE = (fun | .Starred .. => true | _ => false : Expr → Bool) := rfl
  unfold swS at h
  unfold swappedStores
  simp only [hb]
  split at h
  · rename_i h1
    cases h
    rw [if_pos (by simpa using h1)]
  · rename_i h1
    rw [if_neg (by simpa using h1)]
    by_cases c2 : vs.any isStarE = true
    · rw [if_pos c2] at h
      cases h
      exact if_pos c2
    · rw [if_neg c2] at h
      refine (if_neg c2).trans ?_
      simp only at h
      change (if _ = true then pure none else _) = _
      split at h
      · rename_i c3
        cases h
        exact if_pos c3
      · rename_i c3
        refine (if_neg c3).trans ?_
        split at h
        · rename_i c4
          cases h
          exact if_pos c4
        · rename_i c4
          refine (if_neg c4).trans ?_
          split at h
          · cases h
          · rename_i c5
            cases h
            exact if_neg c5
theorem swNm {env : Env} {x : Str} {p : Pos} {l : Nat} (hk : env.scope.kind = .function) {e : Expr} : 
    swapsWith e (some (.Name x p)) l env = pure (match e with
      | .ListComp _ _ s _ => env.scope.names.lookup x == some .local && p.line == e.pos.line && !(s.names.any fun (n, k) => n == x && (k == .local || k == .cell))
      | .SetComp _ _ s _ => env.scope.names.lookup x == some .local && p.line == e.pos.line && !(s.names.any fun (n, k) => n == x && (k == .local || k == .cell))
      | .DictComp _ _ _ s _ => env.scope.names.lookup x == some .local && p.line == e.pos.line && !(s.names.any fun (n, k) => n == x && (k == .local || k == .cell))
      | _ => false) := by
  have hb : env.blockKind = .function := by unfold Env.blockKind; rw [hk]; rfl
  cases e <;> first | rfl | (unfold swapsWith; simp only [hb]; rfl)
theorem swTup {env : Env} {ts : List Expr} {k : Nat} {p : Pos} {l : Nat} {e : Expr} : swapsWithSole [.Tuple ts k p] e l env = pure false := by
  cases e <;> rfl
theorem swSub {env : Env} {a i : Expr} {p : Pos} {l : Nat} {e : Expr} : swapsWithSole [.Subscript a i p] e l env = pure false := by
  cases e <;> rfl
theorem cE_assign {g : Cg} {N : List Str} {k : Nat} {sc : Scope} {i : Expr} {i' : E} (h : cE g N k sc i = some i') : ∀ (o : Expr) (pos : Pos) (env : Env) (v : Value), assign (.Subscript o i pos) env v = (do
      let ov ← holding [v] (eval o env)
      let iv ← holding [v, ov] (eval i env)
      standAt pos
      holding [v, ov, iv] (setItem ov iv v)
      release [v, ov, iv] []) := by
  cases k with
  | zero => cases h
  | succ k => cases i <;> first | (intro _ _ _ _; rfl) | (simp only [cE] at h; cases h)
theorem swNo {env : Env} {l : Nat} {e : Expr} (h : isCompE e = false) : swapsWith e none l env = pure false := by
  cases e <;> first | rfl | cases h
def isTupE : Expr → Bool
  | .Tuple _ _ _ => true
  | _ => false
theorem swsNo {env : Env} {t e : Expr} (h : isTupE e = false) : swappedStores [t] e env = pure none := by
  cases e <;> first | (cases t <;> rfl) | cases h
theorem swsSub {env : Env} {a i : Expr} {p : Pos} {e : Expr} : swappedStores [.Subscript a i p] e env = pure none := by
  cases e <;> rfl

/-- name = [..] on one line -/
def lcSw (sc : Scope) (x : Str) (p : Pos) (e : Expr) : Bool := match e with
  | .ListComp _ _ s _ => sc.names.lookup x == some .local && p.line == e.pos.line && !(s.names.any fun (n, k) => n == x && (k == .local || k == .cell))
  | .SetComp _ _ s _ => sc.names.lookup x == some .local && p.line == e.pos.line && !(s.names.any fun (n, k) => n == x && (k == .local || k == .cell))
  | .DictComp _ _ _ s _ => sc.names.lookup x == some .local && p.line == e.pos.line && !(s.names.any fun (n, k) => n == x && (k == .local || k == .cell))
  | _ => false
def augP : Operator → Option P
  | .Add => some .add
  | .Sub => some .sub
  | _ => none
mutual
def cS (g : Cg) (N : List Str) (ok : Nat → Bool) : Nat → Scope → Stmt → Option S
  | 0, _, _ => none
  | k + 1, sc, st => match st with
    | .Pass _ => some .pass
    | .Break _ => some .brk
    | .Continue _ => some .cont
    | .Expr e _ => if isCompE e then none else (cE g N k sc e).map .expr
    | .Return none _ => some .retN
    | .Return (some e) _ => (cE g N k sc e).map .ret
    | .If c a b _ => (match cE g N k sc c, cSs g N ok k sc a, cSs g N ok k sc b with
      | some c', some a', some b' => some (.ite c' a' b')
      | _, _, _ => none)
    | .While c b [] _ => (match cE g N k sc c, cSs g N ok k sc b with
      | some c', some b' => some (.while c' b')
      | _, _ => none)
    | .For t it b [] _ => (match cI g N k sc t it, cT ok (ownNm sc) N k t, cSs g N ok k sc b with
      | some it', some t', some b' => some (.for t' it' b')
      | _, _, _ => none)
    | .AugAssign (.Name x _) op e _ => (match ixOf x N, augP op, cE g N k sc e with
      | some i, some p, some e' => if ok i && ownNm sc x then some (.aug i p e') else none
      | _, _, _ => none)
    | .Assign [.Name x p] e _ => (match ixOf x N, cE g N k sc e with
      | some i, some e' => if ok i && ownNm sc x then some (.asg (.nm i) e') else none
      | _, _ => none)
    | .Assign [.Subscript o i _] e _ => (match cE g N k sc o, cE g N k sc i, cE g N k sc e with
      | some o', some i', some e' => some (.setix o' i' e')
      | _, _, _ => none)
    | .Assign [.Tuple ts tk tp] e _ => (match starT ok (ownNm sc) N ts with
    | some q => if isTupE e then none else (cE g N k sc e).map fun e' => .asgR q.1 q.2 e'
    | none => match isTupE e with
      | false => (match cT ok (ownNm sc) N k (.Tuple ts tk tp), cE g N k sc e with
        | some t', some e' => some (.asg t' e')
        | _, _ => none)
      | true => (match e with
        | .Tuple vs _ _ => (match swS sc ts vs with
          | none => none
          | some none => (match cT ok (ownNm sc) N k (.Tuple ts tk tp), cE g N k sc e with
            | some t', some e' => some (.asg t' e')
            | _, _ => none)
          | some (some names) => (match ts, vs with
            | [.Name x _, .Name y _], [a, b] => (match ixOf x N, ixOf y N, cE g N k sc a, cE g N k sc b with
              | some i, some j, some a', some b' => if (ok i && ok j && decide (i ≠ j)) && decide (names = [x, y]) && (sc.names.lookup x == some .local) && (sc.names.lookup y == some .local) then some (.par [i, j] [a', b']) else none
              | _, _, _, _ => none)
            | [.Name x _, .Name y _, .Name z _], [a, b, c] => (match ixOf x N, ixOf y N, ixOf z N, cE g N k sc a, cE g N k sc b, cE g N k sc c with
              | some i, some j, some l, some a', some b', some c' => if (ok i && ok j && ok l && decide (i ≠ j) && decide (i ≠ l) && decide (j ≠ l)) && decide (names = [x, y, z]) && (sc.names.lookup x == some .local) && (sc.names.lookup y == some .local) && (sc.names.lookup z == some .local) then some (.par [i, j, l] [a', b', c']) else none
              | _, _, _, _, _, _ => none)
            | _, _ => none))
        | _ => none))
    | _ => none
def cSs (g : Cg) (N : List Str) (ok : Nat → Bool) : Nat → Scope → List Stmt → Option (List S)
  | 0, _, _ => none
  | _ + 1, _, [] => some []
  | k + 1, sc, st :: r => match cS g N ok k sc st, cSs g N ok k sc r with
    | some s', some r' => some (s' :: r')
    | none, some r' => some (.dead :: r')
    | _, none => none
end

/-! ### readings -/
def keepS (ok : Nat → Bool) (σ σ' : L2.St) : Prop := σ'.length = σ.length ∧ ∀ j, ok j = false → σ'[j]? = σ[j]?
theorem keepS.refl {ok : Nat → Bool} {σ : L2.St} : keepS ok σ σ := ⟨rfl, fun _ _ => rfl⟩
theorem keepS.trans {ok : Nat → Bool} {σ τ υ : L2.St} (a : keepS ok σ τ) (b : keepS ok τ υ) : keepS ok σ υ := ⟨b.1.trans a.1, fun j h => (b.2 j h).trans (a.2 j h)⟩
theorem keepS.set {ok : Nat → Bool} {σ : L2.St} {i : Nat} {x : Option V} (h : ok i = true) : keepS ok σ (σ.set i x) := ⟨by simp, fun j hj => by
  rw [List.getElem?_set_ne]
  intro z
  subst z
  rw [h] at hj
  cases hj⟩
section
variable (K : PySem.W.Frag) (mg : Str → Option Value) (Ex : L2.WX) (ok : Nat → Bool)
def flP (D : Ends) (G G' : Gh) (σ' : L2.St) (H' : Hp) : Fl → Prop
  | .nx => D.nx σ' H'
  | .br => D.bk σ' H'
  | .ct => D.ct σ' H'
  | .rt r => ∀ x, RVR K mg G G' H' [] r x → D.rt x H'
def xcS (x : PV) (s' : SS) (G : Gh) (σ : L2.St) (H : Hp) : Prop := ∀ G' σ' H' C d, Rel K mg G' s' σ' H' → Step G H G' H' → keepS ok σ σ' → ExnR K mg G' H' x C d → Ex C d σ' H'
/-- how a run of statements ends -/
def EndS (D : Ends) (G : Gh) (σ : L2.St) (H : Hp) (r : Res Fl) : Prop :=
  (∃ fl s', r = .ok fl s' ∧ ∀ G' σ' H', Rel K mg G' s' σ' H' → Step G H G' H' → keepS ok σ σ' → flP K mg D G G' σ' H' fl) ∨ (∃ x s', r = .exc x s' ∧ xcS K mg Ex ok x s' G σ H)
def tS (f : SS → Res Fl) : L2.TS := fun D σ H => ∃ G s, Rel K mg G s σ H ∧ EndS K mg Ex ok D G σ H (f s)
end
section
variable {K : PySem.W.Frag} {mg : Str → Option Value} {Ex : L2.WX} {ok : Nat → Bool} {cf : CF} {G : Gh} {H : Hp} {σ : L2.St} {D : Ends}
theorem xcS.xcP {x : PV} {s' : SS} (h : xcS K mg Ex ok x s' G σ H) : xcP K mg Ex x s' G σ H := fun G' H' C d R st e => h G' σ H' C d R st .refl e
theorem flP.back {G1 G2 : Gh} {H1 H2 : Hp} {fl : Fl} (h : flP K mg D G G2 σ H2 fl) (st : Step G H G1 H1) : flP K mg D G1 G2 σ H2 fl := by
  cases fl with
  | nx => exact h
  | br => exact h
  | ct => exact h
  | rt r => exact fun x rv => h x (rv.back st)
theorem EndS.back {r : Res Fl} {G1 : Gh} {H1 : Hp} {σ1 : L2.St} (h : EndS K mg Ex ok D G σ H r) (st : Step G H G1 H1) (k : keepS ok σ σ1) : EndS K mg Ex ok D G1 σ1 H1 r := by
  rcases h with ⟨fl, s', e, h⟩ | ⟨x, s', e, h⟩
  · exact .inl ⟨fl, s', e, fun G' σ' H' R s2 k2 => (h G' σ' H' R (st.trans s2) (k.trans k2)).back st⟩
  · exact .inr ⟨x, s', e, fun G' σ' H' C d R s2 k2 q => h G' σ' H' C d R (st.trans s2) (k.trans k2) q⟩
theorem EndS.bad (h : EndS K mg Ex ok D G σ H .bad) : False := by
  rcases h with ⟨_, _, z, _⟩ | ⟨_, _, z, _⟩ <;> cases z
theorem EndS.exc {x : PV} {s' : SS} (h : EndS K mg Ex ok D G σ H (.exc x s')) : xcS K mg Ex ok x s' G σ H := by
  rcases h with ⟨_, _, z, _⟩ | ⟨_, _, z, h⟩ <;> cases z
  exact h
theorem EndS.done {fl : Fl} {s' : SS} (h : EndS K mg Ex ok D G σ H (.ok fl s')) : ∀ G' σ' H', Rel K mg G' s' σ' H' → Step G H G' H' → keepS ok σ σ' → flP K mg D G G' σ' H' fl := by
  rcases h with ⟨_, _, z, h⟩ | ⟨_, _, z, _⟩ <;> cases z
  exact h
/-- an expression first -/
theorem tE_then {e : E} {s : SS} {F : RV → SS → Res Fl} {Q : L2.VK} (R : Rel K mg G s σ H) (h : EndS K mg Ex ok D G σ H ((evalE cf e s).bind F))
    (q : ∀ r s1 G1 H1 x, EndS K mg Ex ok D G σ H (F r s1) → Rel K mg G1 s1 σ H1 → Step G H G1 H1 → RVR K mg G G1 H1 σ r x → Q x H1) : tE K mg cf Ex e σ H Q := by
  refine ⟨G, s, R, ?_⟩
  cases e1 : evalE cf e s with
  | bad => rw [e1] at h; exact h.bad.elim
  | exc x s1 => rw [e1] at h; exact .inr ⟨x, s1, rfl, h.exc.xcP⟩
  | ok r s1 =>
    rw [e1] at h
    exact .inl ⟨r, s1, rfl, fun G1 H1 x R1 st1 rv => q r s1 G1 H1 x h R1 st1 rv⟩
theorem tA_then {e : List E} {s : SS} {F : List RV → SS → Res Fl} {Q : List V → Hp → Prop} (R : Rel K mg G s σ H) (h : EndS K mg Ex ok D G σ H ((evalEs cf e s).bind F))
    (q : ∀ r s1 G1 H1 x, EndS K mg Ex ok D G σ H (F r s1) → Rel K mg G1 s1 σ H1 → Step G H G1 H1 → RVRs K mg G G1 H1 σ r x → Q x H1) : tA K mg cf Ex e σ H Q := by
  refine ⟨G, s, R, ?_⟩
  cases e1 : evalEs cf e s with
  | bad => rw [e1] at h; exact h.bad.elim
  | exc x s1 => rw [e1] at h; exact .inr ⟨x, s1, rfl, h.exc.xcP⟩
  | ok r s1 =>
    rw [e1] at h
    exact .inl ⟨r, s1, rfl, fun G1 H1 x R1 st1 rv => q r s1 G1 H1 x h R1 st1 rv⟩
theorem tT_then {e : E} {s : SS} {F : Bool → SS → Res Fl} {Q : Bool → Hp → Prop} (R : Rel K mg G s σ H) (h : EndS K mg Ex ok D G σ H ((evalE cf e s).bind fun r s1 => match testR s1 r with | some b => F b s1 | none => .bad))
    (q : ∀ b s1 G1 H1, EndS K mg Ex ok D G σ H (F b s1) → Rel K mg G1 s1 σ H1 → Step G H G1 H1 → Q b H1) : tT K mg cf Ex e σ H Q := by
  refine ⟨G, s, R, ?_⟩
  cases e1 : evalE cf e s with
  | bad => rw [e1] at h; exact h.bad.elim
  | exc x s1 => rw [e1] at h; exact .inr ⟨x, s1, rfl, h.exc.xcP⟩
  | ok r s1 =>
    rw [e1] at h
    have h : EndS K mg Ex ok D G σ H (match testR s1 r with | some b => F b s1 | none => .bad) := h
    cases e2 : testR s1 r with
    | none => rw [e2] at h; exact h.bad.elim
    | some b =>
      rw [e2] at h
      exact .inl ⟨r, b, s1, rfl, e2, fun G1 H1 R1 st1 => q b s1 G1 H1 h R1 st1⟩
end

/-! ### each kind of statement -/
section
variable {K : PySem.W.Frag} {mg : Str → Option Value} {Ex : L2.WX} {ok : Nat → Bool} {cf : CF} {H : Hp} {σ : L2.St} {D : Ends} {np : Nat}
abbrev tSt (K : PySem.W.Frag) (mg : Str → Option Value) (Ex : L2.WX) (ok : Nat → Bool) (cf : CF) (np : Nat) (st : S) : L2.TS := tS K mg Ex ok (execS cf np st)
abbrev tSts (K : PySem.W.Frag) (mg : Str → Option Value) (Ex : L2.WX) (ok : Nat → Bool) (cf : CF) (np : Nat) (st : List S) : L2.TS := tS K mg Ex ok (execSs cf np st)
/-- what r gives is stored into slot i -/
theorem asg_nm {G0 G : Gh} {H0 : Hp} {s s' : SS} {r : RV} {x : V} {i : Nat} (hi : ok i = true) (R : Rel K mg G s σ H) (st : Step G0 H0 G H) (rv : RVR K mg G0 G H σ r x) (h : asgT (.nm i) r s = some s') :
    ∃ G', Rel K mg G' s' (σ.set i (some x)) H ∧ Step G0 H0 G' H ∧ keepS ok σ (σ.set i (some x)) := by
  have viaKeep : (match keep s r with | some (v, s1) => bindT (.nm i) v s1 | none => none) = some s' → ∃ G', Rel K mg G' s' (σ.set i (some x)) H ∧ Step G0 H0 G' H ∧ keepS ok σ (σ.set i (some x)) := fun h => by
    cases e : keep s r with
    | none => rw [e] at h; cases h
    | some q =>
      obtain ⟨v, s1⟩ := q
      rw [e] at h
      obtain ⟨G', R', st', _, p, _, _⟩ := keep_ok R st rv e
      simp only [bindT] at h
      split at h
      · rename_i hl
        cases h
        exact ⟨G', R'.setVal p hl, st', .set hi⟩
      · cases h
  cases r with
  | sh v => exact viaKeep h
  | hd j => exact viaKeep h
  | fr o =>
    obtain ⟨a, rfl, g, n, ob⟩ := rv
    simp only [asgT] at h
    split at h
    · rename_i hl
      cases h
      exact ⟨_, R.setOwn g ob hl, st.tag n (st.notFz (fz_of g (fun z => nomatch z))) (st.notLoc (loc_of g (fun _ z => nomatch z))), .set hi⟩
    · cases h
theorem tS_asgNm {i : Nat} {e : E} (hi : ok i = true) (h : tSt K mg Ex ok cf np (.asg (.nm i) e) D σ H) : L2.tAsg (tE K mg cf Ex e) (L2.gName i) D σ H := by
  obtain ⟨G, s, R, h⟩ := h
  simp only [execS] at h
  refine tE_then R h fun r s1 G1 H1 x h R1 st1 rv => ?_
  cases e2 : asgT (.nm i) r s1 with
  | none => rw [e2] at h; exact h.bad.elim
  | some s2 =>
    rw [e2] at h
    obtain ⟨G2, R2, st2, k2⟩ := asg_nm hi R1 st1 rv e2
    exact h.done G2 _ H1 R2 st2 k2
theorem tS_asgT {t : T} {e : E} (ht : ∀ j, tIn t j = true → ok j = true) (hn : ∀ i, t ≠ .nm i) (h : tSt K mg Ex ok cf np (.asg t e) D σ H) : L2.tAsg (tE K mg cf Ex e) (tG K mg t) D σ H := by
  obtain ⟨G, s, R, h⟩ := h
  simp only [execS] at h
  refine tE_then R h fun r s1 G1 H1 x h R1 st1 rv => ?_
  have ea : asgT t r s1 = (match keep s1 r with | some (v, s1) => bindT t v s1 | none => none) := by
    cases t with
    | nm i => exact absurd rfl (hn i)
    | tp ts => cases r <;> rfl
  rw [ea] at h
  cases e2 : keep s1 r with
  | none => rw [e2] at h; exact h.bad.elim
  | some q =>
    obtain ⟨v, s2⟩ := q
    rw [e2] at h
    have h : EndS K mg Ex ok D G σ H (match bindT t v s2 with | some s2 => .ok .nx s2 | none => .bad) := h
    obtain ⟨G2, R2, st2, _, p, _, _⟩ := keep_ok R1 st1 rv e2
    cases e3 : bindT t v s2 with
    | none => rw [e3] at h; exact h.bad.elim
    | some s3 =>
      rw [e3] at h
      exact ⟨G2, v, s2, s3, R2, p, e3, fun σ3 R3 l3 k3 => h.done G2 σ3 H1 R3 st2 ⟨l3, fun j hj => k3 j (by
        cases ti : tIn t j with
        | false => rfl
        | true => have := ht j ti; rw [hj] at this; cases this)⟩⟩
theorem tS_expr {e : E} (h : tSt K mg Ex ok cf np (.expr e) D σ H) : L2.tDrop (tE K mg cf Ex e) D σ H := by
  obtain ⟨G, s, R, h⟩ := h
  simp only [execS] at h
  exact tE_then R h fun r s1 G1 H1 x h R1 st1 rv => h.done G1 σ H1 R1 st1 .refl
theorem tS_retN (h : tSt K mg Ex ok cf np .retN D σ H) : L2.tRetN D σ H := by
  obtain ⟨G, s, R, h⟩ := h
  simp only [execS] at h
  exact h.done G σ H R .refl .refl _ .non
theorem tS_pass (h : tSt K mg Ex ok cf np .pass D σ H) : L2.tNext D σ H := by
  obtain ⟨G, s, R, h⟩ := h
  simp only [execS] at h
  exact h.done G σ H R .refl .refl
theorem tS_brk (h : tSt K mg Ex ok cf np .brk D σ H) : L2.tBreak D σ H := by
  obtain ⟨G, s, R, h⟩ := h
  simp only [execS] at h
  exact h.done G σ H R .refl .refl
theorem tS_cont (h : tSt K mg Ex ok cf np .cont D σ H) : L2.tCont D σ H := by
  obtain ⟨G, s, R, h⟩ := h
  simp only [execS] at h
  exact h.done G σ H R .refl .refl
/-- what is told: a slot's own thing is given away, or stays with the caller -/
theorem tS_ret {e : E} (h : tSt K mg Ex ok cf np (.ret e) D σ H) : L2.tRet (tE K mg cf Ex e) D σ H := by
  obtain ⟨G, s, R, h⟩ := h
  simp only [execS] at h
  refine tE_then R h fun r s1 G1 H1 x h R1 st1 rv => ?_
  cases e2 : retR np r s1 with
  | none => rw [e2] at h; exact h.bad.elim
  | some q =>
    obtain ⟨r', s2⟩ := q
    rw [e2] at h
    have h : EndS K mg Ex ok D G σ H (.ok (.rt r') s2) := h
    cases r with
    | sh v => cases e2; exact h.done G1 σ H1 R1 st1 .refl x rv
    | fr o => cases e2; exact h.done G1 σ H1 R1 st1 .refl x rv
    | hd i =>
      have hx : σ[i]? = some (some x) := rv
      simp only [retR] at e2
      cases ei : s1.env[i]? with
      | none => rw [ei] at e2; cases e2
      | some sl =>
        rw [ei] at e2
        cases sl with
        | un => cases e2
        | val v =>
          cases e2
          obtain ⟨y, e1, p⟩ := R1.val ei
          rw [hx] at e1
          cases e1
          exact h.done G1 σ H1 R1 st1 .refl x p
        | own o =>
          obtain ⟨a, e1, g, ob⟩ := R1.own ei
          rw [hx] at e1
          cases e1
          have h2 : G1 a ≠ .fz := fz_of g (fun z => nomatch z)
          have h3 : ∀ l, G1 a ≠ .loc l := loc_of g (fun _ z => nomatch z)
          have h4 : G1 a ≠ .hold := by rw [g]; exact fun z => nomatch z
          have stt : ∀ t, Step G H (tg G1 a t) H1 := fun t => st1.tag (st1.notHold h4) (st1.notFz h2) (st1.notLoc h3)
          simp only at e2
          split at e2
          · cases e2
            exact h.done _ σ H1 (R1.frzSlot ei hx g ob) (stt .fz) .refl _ ((ob.step rfl (.tag h2 h3)).pvr tg_same)
          · cases e2
            have Rn : Rel K mg (tg G1 a .hold) { s1 with env := s1.env.set i .un } σ H1 := R1.tagged rfl h2 h3 (fun _ z => nomatch z) ob.there (by simp [R1.len]) fun j sl ej => by
              by_cases hj : j = i
              · subst hj
                have hlt := (List.getElem?_eq_some_iff.mp ei).1
                rw [List.getElem?_set_self hlt] at ej
                cases ej
                trivial
              · rw [List.getElem?_set_ne (Ne.symm hj)] at ej
                exact SlR.tag h2 h3 (fun z => by rw [g] at z; cases z; exact absurd rfl hj) (R1.slots j sl ej)
            exact h.done _ σ H1 Rn (stt .hold) .refl _ ⟨a, rfl, tg_same, st1.notHold h4, ob.step rfl (.tag h2 h3)⟩
theorem tS_if {c : E} {a b : List S} (h : tSt K mg Ex ok cf np (.ite c a b) D σ H) : L2.tIfS (tT K mg cf Ex c) (tSts K mg Ex ok cf np a) (tSts K mg Ex ok cf np b) D σ H := by
  obtain ⟨G, s, R, h⟩ := h
  have e : execS cf np (.ite c a b) s = (evalE cf c s).bind fun r s1 => match testR s1 r with | some t => (if t = true then execSs cf np a s1 else execSs cf np b s1) | none => .bad := by
    simp only [execS]
    congr 1
    funext r s1
    cases testR s1 r with
    | none => rfl
    | some t => cases t <;> rfl
  rw [e] at h
  refine tT_then R h fun t s1 G1 H1 h R1 st1 => ?_
  cases t with
  | true => exact ⟨G1, s1, R1, h.back st1 .refl⟩
  | false => exact ⟨G1, s1, R1, h.back st1 .refl⟩
theorem tS_seq {st : S} {r : List S} (h : tSts K mg Ex ok cf np (st :: r) D σ H) : L2.tSeq (tSt K mg Ex ok cf np st) (tSts K mg Ex ok cf np r) D σ H := by
  obtain ⟨G, s, R, h⟩ := h
  simp only [execSs] at h
  refine ⟨G, s, R, ?_⟩
  cases e1 : execS cf np st s with
  | bad => rw [e1] at h; exact h.bad.elim
  | exc x s1 => rw [e1] at h; exact .inr ⟨x, s1, rfl, h.exc⟩
  | ok fl s1 =>
    rw [e1] at h
    refine .inl ⟨fl, s1, rfl, fun G1 σ1 H1 R1 st1 k1 => ?_⟩
    cases fl with
    | nx => exact ⟨G1, s1, R1, EndS.back h st1 k1⟩
    | br => exact EndS.done h G1 σ1 H1 R1 st1 k1
    | ct => exact EndS.done h G1 σ1 H1 R1 st1 k1
    | rt r => exact EndS.done h G1 σ1 H1 R1 st1 k1
theorem tS_nil (h : tSts K mg Ex ok cf np [] D σ H) : L2.tNext D σ H := by
  obtain ⟨G, s, R, h⟩ := h
  simp only [execSs] at h
  exact h.done G σ H R .refl .refl
theorem Res.bind_assoc {α β γ : Type} (r : Res α) (f : α → SS → Res β) (g : β → SS → Res γ) : (r.bind f).bind g = r.bind fun a s => (f a s).bind g := by
  cases r <;> rfl
theorem while_step (c : E) (B : SS → Res Fl) (n : Nat) (s : SS) : whileN (fun s => (evalE cf c s).bind fun r s1 => match testR s1 r with
      | some t => .ok t s1
      | none => .bad) B (n + 1) s = (evalE cf c s).bind fun r s1 => match testR s1 r with
      | some t => (if t = true then (B s1).bind fun f s2 => (match f with
          | .nx => whileN (fun s => (evalE cf c s).bind fun r s1 => match testR s1 r with
              | some t => .ok t s1
              | none => .bad) B n s2
          | .ct => whileN (fun s => (evalE cf c s).bind fun r s1 => match testR s1 r with
              | some t => .ok t s1
              | none => .bad) B n s2
          | .br => .ok .nx s2
          | .rt r => .ok (.rt r) s2) else .ok .nx s1)
      | none => .bad := by
  show Res.bind (Res.bind _ _) _ = _
  rw [Res.bind_assoc]
  congr 1
  funext r s1
  cases testR s1 r with
  | none => rfl
  | some t => cases t <;> rfl
theorem tS_while {c : E} {b : List S} (h : tSt K mg Ex ok cf np (.while c b) D σ H) : L2.tWhile (tT K mg cf Ex c) (tSts K mg Ex ok cf np b) D σ H := by
  obtain ⟨G, s, R, h⟩ := h
  simp only [execS] at h
  refine ⟨fun m σ1 H1 => ∃ G1 s1, Rel K mg G1 s1 σ1 H1 ∧ EndS K mg Ex ok D G1 σ1 H1 (whileN (fun s => (evalE cf c s).bind fun r s1 => match testR s1 r with
      | some t => .ok t s1
      | none => .bad) (fun s => execSs cf np b s) m s1), ⟨turns, G, s, R, h⟩, ?_⟩
  rintro m σ1 H1 ⟨G1, s1, R1, h⟩
  cases m with
  | zero => exact h.bad.elim
  | succ n =>
    rw [while_step] at h
    refine tT_then R1 h fun t s2 G2 H2 h2 R2 st2 => ?_
    cases t with
    | false =>
      show (if false = true then _ else _)
      rw [if_neg Bool.false_ne_true]
      exact EndS.done h2 G2 σ1 H2 R2 st2 .refl
    | true =>
      show (if true = true then _ else _)
      rw [if_pos rfl]
      refine ⟨_, fun σ' H' z => ⟨n, Nat.lt_succ_self _, z⟩, G2, s2, R2, ?_⟩
      have h2 : EndS K mg Ex ok D G1 σ1 H1 ((execSs cf np b s2).bind fun f s2 => (match f with
          | .nx => whileN (fun s => (evalE cf c s).bind fun r s1 => match testR s1 r with
              | some t => .ok t s1
              | none => .bad) (fun s => execSs cf np b s) n s2
          | .ct => whileN (fun s => (evalE cf c s).bind fun r s1 => match testR s1 r with
              | some t => .ok t s1
              | none => .bad) (fun s => execSs cf np b s) n s2
          | .br => .ok .nx s2
          | .rt r => .ok (.rt r) s2)) := h2
      have h2 := h2.back st2 .refl
      cases e3 : execSs cf np b s2 with
      | bad => rw [e3] at h2; exact h2.bad.elim
      | exc x s3 => rw [e3] at h2; exact .inr ⟨x, s3, rfl, EndS.exc h2⟩
      | ok fl s3 =>
        rw [e3] at h2
        refine .inl ⟨fl, s3, rfl, fun G3 σ3 H3 R3 st3 k3 => ?_⟩
        cases fl with
        | nx => exact ⟨G3, s3, R3, EndS.back h2 st3 k3⟩
        | ct => exact ⟨G3, s3, R3, EndS.back h2 st3 k3⟩
        | br => exact EndS.done h2 G3 σ3 H3 R3 st3 k3
        | rt r => exact EndS.done h2 G3 σ3 H3 R3 st3 k3
/-- what is gone through first -/
theorem tI_then {it : I} {s : SS} {F : List PV → SS → Res Fl} {G : Gh} {Q : L2.It → Hp → Prop} (R : Rel K mg G s σ H) (h : EndS K mg Ex ok D G σ H ((evalI cf it s).bind F))
    (q : ∀ xs s1 G1 H1 J, EndS K mg Ex ok D G σ H (F xs s1) → Rel K mg G1 s1 σ H1 → Step G H G1 H1 → Walks K mg J G1 H1 xs → Q J H1) : tI K mg cf Ex it σ H Q := by
  refine ⟨G, s, R, ?_⟩
  cases e1 : evalI cf it s with
  | bad => rw [e1] at h; exact h.bad.elim
  | exc x s1 => rw [e1] at h; exact .inr ⟨x, s1, rfl, h.exc.xcP⟩
  | ok r s1 =>
    rw [e1] at h
    exact .inl ⟨r, s1, rfl, fun G1 H1 x R1 st1 rv => q r s1 G1 H1 x h R1 st1 rv⟩
theorem tS_for {t : T} {it : I} {b : List S} (ht : ∀ j, tIn t j = true → ok j = true) (h : tSt K mg Ex ok cf np (.for t it b) D σ H) : L2.tFor (tI K mg cf Ex it) (tG K mg t) (tSts K mg Ex ok cf np b) D σ H := by
  obtain ⟨G, s, R, h⟩ := h
  simp only [execS] at h
  refine tI_then R h fun xs s1 G1 H1 J h R1 st1 wk => ?_
  have h := EndS.back h st1 .refl
  refine ⟨fun i m σ2 H2 => m = xs.length - i ∧ i ≤ xs.length ∧ ∃ G2 s2, Rel K mg G2 s2 σ2 H2 ∧ Step G1 H1 G2 H2 ∧ EndS K mg Ex ok D G2 σ2 H2 (forN (fun x s2 => match bindT t x s2 with
      | some s3 => execSs cf np b s3
      | none => .bad) (xs.drop i) s2), ⟨xs.length, by simp, Nat.zero_le _, G1, s1, R1, .refl, by rw [List.drop_zero]; exact h⟩, ?_⟩
  rintro i m σ2 H2 ⟨rfl, hi', G2, s2, R2, st2, h⟩
  obtain ⟨w1, w2⟩ := wk i G2 H2 st2 R2.trk
  by_cases hlt : i < xs.length
  · refine .inr ?_
    have ex : xs[i]? = some xs[i] := by simp [hlt]
    obtain ⟨go, yl⟩ := w1 _ ex
    rw [List.drop_eq_getElem_cons hlt] at h
    refine ⟨go, fun σ' H' => ∃ G5 s5, Rel K mg G5 s5 σ' H' ∧ Step G1 H1 G5 H' ∧ EndS K mg Ex ok D G5 σ' H' (forN (fun x s2 => match bindT t x s2 with
      | some s3 => execSs cf np b s3
      | none => .bad) (xs.drop (i + 1)) s5), fun σ' H' ⟨G5, s5, a1, a2, a3⟩ => ⟨xs.length - (i + 1), by omega, rfl, hlt, G5, s5, a1, a2, a3⟩, fun x H' hy => ?_⟩
    obtain ⟨G3, q3, px⟩ := yl x H' hy
    have R3 := R2.same q3
    have h : EndS K mg Ex ok D G2 σ2 H2 ((match bindT t xs[i] s2 with
      | some s3 => execSs cf np b s3
      | none => .bad).bind fun f s1 => match f with
        | .nx => forN (fun x s2 => match bindT t x s2 with
          | some s3 => execSs cf np b s3
          | none => .bad) (xs.drop (i + 1)) s1
        | .ct => forN (fun x s2 => match bindT t x s2 with
          | some s3 => execSs cf np b s3
          | none => .bad) (xs.drop (i + 1)) s1
        | .br => .ok .nx s1
        | .rt r => .ok (.rt r) s1) := h
    cases eb : bindT t xs[i] s2 with
    | none => rw [eb] at h; exact h.bad.elim
    | some s3 =>
      rw [eb] at h
      refine ⟨G3, xs[i], s2, s3, R3, px, eb, fun σ4 R4 l4 k4 => ?_⟩
      have kk : keepS ok σ2 σ4 := ⟨l4, fun j hj => k4 j (by
        cases ti : tIn t j with
        | false => rfl
        | true => have := ht j ti; rw [hj] at this; cases this)⟩
      have h := h.back q3.st kk
      refine ⟨G3, s3, R4, ?_⟩
      cases e3 : execSs cf np b s3 with
      | bad => simp only [e3] at h; exact h.bad.elim
      | exc x s4 => simp only [e3] at h; exact .inr ⟨x, s4, rfl, EndS.exc h⟩
      | ok fl s4 =>
        simp only [e3] at h
        refine .inl ⟨fl, s4, rfl, fun G5 σ5 H5 R5 st5 k5 => ?_⟩
        cases fl with
        | nx => exact ⟨G5, s4, R5, (st2.trans q3.st).trans st5, EndS.back h st5 k5⟩
        | ct => exact ⟨G5, s4, R5, (st2.trans q3.st).trans st5, EndS.back h st5 k5⟩
        | br => exact EndS.done h G5 σ5 H5 R5 st5 k5
        | rt r => exact EndS.done h G5 σ5 H5 R5 st5 k5
  · have e : i = xs.length := by omega
    subst e
    refine .inl ⟨w2 rfl, ?_⟩
    rw [List.drop_length] at h
    exact EndS.done h G2 σ2 H2 R2 .refl .refl
/-! several names at once -/
def SlX (K : PySem.W.Frag) (mg : Str → Option Value) (G0 G : Gh) (H : Hp) : Sl → V → Prop
  | .un, _ => False
  | .val v, x => PVR K mg G H v x
  | .own o, x => ∃ a, x = .ref a ∧ G a = .hold ∧ G0 a ≠ .hold ∧ ObR K mg G H a o
inductive SlXs (K : PySem.W.Frag) (mg : Str → Option Value) (G0 G : Gh) (H : Hp) : List Sl → List V → Prop where
  | nil : SlXs K mg G0 G H [] []
  | cons {r : Sl} {x : V} {rs : List Sl} {xs : List V} : SlX K mg G0 G H r x → (∀ o, r = .own o → ∀ o' (j : Nat), rs[j]? = some (.own o') → xs[j]? ≠ some x) → SlXs K mg G0 G H rs xs → SlXs K mg G0 G H (r :: rs) (x :: xs)
theorem slsOf_own : ∀ {rs : List RV} {s s' : SS} {as : List Sl} {j : Nat} {o : PV}, slsOf s rs = some (as, s') → as[j]? = some (.own o) → rs[j]? = some (.fr o)
  | [], s, s', as, j, o, h, e => by cases h; simp at e
  | r :: rs, s, s', as, j, o, h, e => by
    have viaKeep : (match keep s r with | some (v, s1) => (match slsOf s1 rs with | some (as, s2) => some (.val v :: as, s2) | none => none) | none => none) = some (as, s') → (r :: rs)[j]? = some (.fr o) := fun h => by
      cases e1 : keep s r with
      | none => rw [e1] at h; cases h
      | some q =>
        obtain ⟨v, s1⟩ := q
        rw [e1] at h
        simp only at h
        cases e2 : slsOf s1 rs with
        | none => rw [e2] at h; cases h
        | some q =>
          obtain ⟨bs, s2⟩ := q
          rw [e2] at h
          cases h
          cases j with
          | zero => simp at e
          | succ j => simpa using slsOf_own e2 (j := j) (by simpa using e)
    cases r with
    | sh v => exact viaKeep h
    | hd i => exact viaKeep h
    | fr o1 =>
      simp only [slsOf] at h
      cases e2 : slsOf s rs with
      | none => rw [e2] at h; cases h
      | some q =>
        obtain ⟨bs, s2⟩ := q
        rw [e2] at h
        cases h
        cases j with
        | zero => simp at e; subst e; rfl
        | succ j => simpa using slsOf_own e2 (j := j) (by simpa using e)
theorem slsOf_ok {G0 : Gh} : ∀ {rs : List RV} {xs : List V} {s s' : SS} {as : List Sl} {G : Gh}, Rel K mg G s σ H → RVRs K mg G0 G H σ rs xs → slsOf s rs = some (as, s') → ∃ G', Rel K mg G' s' σ H ∧ Step G H G' H ∧ SlXs K mg G0 G' H as xs
  | [], xs, s, s', as, G, R, rv, h => by
    cases rv
    cases h
    exact ⟨G, R, .refl, .nil⟩
  | r :: rs, xs0, s, s', as, G, R, rv, h => by
    cases rv with
    | cons hr hd ht =>
    rename_i x xs
    have viaKeep : (∀ o, r ≠ .fr o) → (match keep s r with | some (v, s1) => (match slsOf s1 rs with | some (as, s2) => some (.val v :: as, s2) | none => none) | none => none) = some (as, s') → ∃ G', Rel K mg G' s' σ H ∧ Step G H G' H ∧ SlXs K mg G0 G' H as (x :: xs) := fun hn h => by
      cases e1 : keep s r with
      | none => rw [e1] at h; cases h
      | some q =>
        obtain ⟨v, s1⟩ := q
        rw [e1] at h
        simp only at h
        cases e2 : slsOf s1 rs with
        | none => rw [e2] at h; cases h
        | some q =>
          obtain ⟨bs, s2⟩ := q
          rw [e2] at h
          cases h
          have hrG : RVR K mg G G H σ r x := by
            cases r with
            | sh v => exact hr
            | hd i => exact hr
            | fr o => exact absurd rfl (hn o)
          obtain ⟨G1, R1, st1, _, p, _, _⟩ := keep_ok R .refl hrG e1
          obtain ⟨G2, R2, st2, q⟩ := slsOf_ok R1 (ht.mono st1) e2
          exact ⟨G2, R2, st1.trans st2, .cons (PVR.step p st2.mono) (fun _ z => nomatch z) q⟩
    cases r with
    | sh v => exact viaKeep (fun _ z => nomatch z) h
    | hd i => exact viaKeep (fun _ z => nomatch z) h
    | fr o =>
      simp only [slsOf] at h
      cases e2 : slsOf s rs with
      | none => rw [e2] at h; cases h
      | some q =>
        obtain ⟨bs, s2⟩ := q
        rw [e2] at h
        cases h
        obtain ⟨G2, R2, st2, q⟩ := slsOf_ok R ht e2
        refine ⟨G2, R2, st2, .cons (hr.mono st2) (fun o1 e1 o' j ej => hd _ rfl o' j (slsOf_own e2 ej)) q⟩
theorem SlXs.tag {G0 G : Gh} {a : Addr} {t : Tag} (h2 : G a ≠ .fz) (h3 : ∀ l, G a ≠ .loc l) : ∀ {rs : List Sl} {xs : List V}, SlXs K mg G0 G H rs xs → (∀ o (j : Nat), rs[j]? = some (.own o) → xs[j]? ≠ some (.ref a)) → SlXs K mg G0 (tg G a t) H rs xs
  | _, _, .nil, _ => .nil
  | _, _, .cons (r := r) (x := x) h d q, ha => by
    refine .cons ?_ d (SlXs.tag h2 h3 q fun o j e => by simpa using ha o (j + 1) (by simpa using e))
    cases r with
    | un => exact h.elim
    | val v => exact PVR.step h (.tag h2 h3)
    | own o =>
      obtain ⟨b, e, g, n, ob⟩ := h
      have nb : b ≠ a := fun z => by
        have := ha o 0 rfl
        rw [e, z] at this
        exact this rfl
      exact ⟨b, e, (tg_ne nb).trans g, n, ob.step rfl (.tag h2 h3)⟩
theorem putSls_ok {G0 : Gh} {H0 : Hp} : ∀ {is : List Nat} {as : List Sl} {xs : List V} {s s' : SS} {G : Gh} {σ : L2.St}, (∀ i ∈ is, ok i = true) → Rel K mg G s σ H → Step G0 H0 G H → SlXs K mg G0 G H as xs → putSls is as s = some s' →
    ∃ G', Rel K mg G' s' (putV is xs σ) H ∧ Step G0 H0 G' H ∧ keepS ok σ (putV is xs σ)
  | [], [], xs, s, s', G, σ, ho, R, st, q, h => by cases q; cases h; exact ⟨G, R, st, .refl⟩
  | [], _ :: _, xs, s, s', G, σ, ho, R, st, q, h => by cases h
  | _ :: _, [], xs, s, s', G, σ, ho, R, st, q, h => by cases h
  | i :: is, a :: as, xs0, s, s', G, σ, ho, R, st, q, h => by
    cases q with
    | cons hx hd hq =>
    rename_i x xs
    simp only [putSls] at h
    split at h
    · rename_i hl
      have hi := ho i (List.mem_cons_self ..)
      have ho' : ∀ j ∈ is, ok j = true := fun j hj => ho j (List.mem_cons_of_mem _ hj)
      cases a with
      | un => exact hx.elim
      | val v =>
        obtain ⟨G2, R2, st2, k2⟩ := putSls_ok ho' (R.setVal hx hl) st hq h
        exact ⟨G2, R2, st2, (keepS.set hi).trans k2⟩
      | own o =>
        obtain ⟨b, rfl, g, n, ob⟩ := hx
        have h2 : G b ≠ .fz := fz_of g (fun z => nomatch z)
        have h3 : ∀ l, G b ≠ .loc l := loc_of g (fun _ z => nomatch z)
        obtain ⟨G2, R2, st2, k2⟩ := putSls_ok ho' (R.setOwn g ob hl) (st.tag n (st.notFz h2) (st.notLoc h3)) (hq.tag h2 h3 fun o' j ej => hd _ rfl o' j ej) h
        exact ⟨G2, R2, st2, (keepS.set hi).trans k2⟩
    · cases h
theorem SlXs.vals {G0 G : Gh} : ∀ {vs : List PV} {xs : List V}, PVRs K mg G H vs xs → SlXs K mg G0 G H (vs.map Sl.val) xs
  | _, _, .nil => .nil
  | _, _, .cons h t => .cons h (fun o e => by cases e) (SlXs.vals t)
theorem tS_asgR {is : List Nat} {j : Nat} {e : E} (ho : ∀ i ∈ is ++ [j], ok i = true) (h : tSt K mg Ex ok cf np (.asgR is j e) D σ H) : L2.tAsg (tE K mg cf Ex e) (gStar K is j) D σ H := by
  obtain ⟨G, s, R, h⟩ := h
  simp only [execS] at h
  refine tE_then R h fun r s1 G1 H1 x h R1 st1 rv => ?_
  cases e2 : keep s1 r with
  | none => rw [e2] at h; exact h.bad.elim
  | some q =>
    obtain ⟨v, s2⟩ := q
    rw [e2] at h
    have h : EndS K mg Ex ok D G σ H (match asgRS is j v s2 with | some s2 => .ok .nx s2 | none => .bad) := h
    obtain ⟨G2, R2, st2, _, p, _, _⟩ := keep_ok R1 st1 rv e2
    cases e3 : asgRS is j v s2 with
    | none => rw [e3] at h; exact h.bad.elim
    | some s3 =>
      rw [e3] at h
      have main : ∀ (xs : List PV) (Vs : List V), PVRs K mg G2 H1 xs Vs → is.length ≤ xs.length ∧ xs.length ≤ 16384 → putSls (is ++ [j]) ((xs.take is.length ++ [PV.lst (xs.drop is.length)]).map Sl.val) s2 = some s3 →
          is.length ≤ Vs.length ∧ Vs.length ≤ 16384 ∧ ∀ Dn, H1 Dn = none → D.nx (putV (is ++ [j]) (Vs.take is.length ++ [.ref Dn]) σ) (upd H1 Dn (.lst (Vs.drop is.length))) := fun xs Vs ps hc e4 => by
        refine ⟨by rw [← ps.length]; exact hc.1, by rw [← ps.length]; exact hc.2, fun Dn hD => ?_⟩
        have q := Same.new (t := .fz) (o := .lst (Vs.drop is.length)) R2.trk hD (fun _ z => nomatch z)
        have R3 := R2.same q
        have ps' := ps.step q.st.mono
        have pv : PVRs K mg (tg G2 Dn .fz) (upd H1 Dn (.lst (Vs.drop is.length))) (xs.take is.length ++ [PV.lst (xs.drop is.length)]) (Vs.take is.length ++ [.ref Dn]) := (ps'.take _).append (.cons (.lst upd_same tg_same (ps'.drop _)) .nil)
        obtain ⟨G4, R4, st4, k4⟩ := putSls_ok ho R3 .refl (SlXs.vals (G0 := tg G2 Dn .fz) pv) e4
        exact h.done G4 _ _ R4 ((st2.trans q.st).trans st4) k4
      unfold asgRS at e3
      split at e3
      · rename_i xs ex
        split at e3
        · rename_i hc
          cases v <;> first | (cases ex; done) | skip
          · cases ex
            cases p with
            | tup h1 ps =>
              obtain ⟨m1, m2, m3⟩ := main _ _ ps hc e3
              exact ⟨_, _, rfl, .inl h1, m1, m2, m3⟩
          · cases ex
            cases p with
            | lst h1 hg ps =>
              obtain ⟨m1, m2, m3⟩ := main _ _ ps hc e3
              exact ⟨_, _, rfl, .inr (.of h1), m1, m2, m3⟩
        · cases e3
      · cases e3
theorem tS_dead (h : tSt K mg Ex ok cf np .dead D σ H) : L2.tNever D σ H := by
  obtain ⟨G, s, R, h⟩ := h
  simp only [execS] at h
  exact h.bad
theorem RVRs.two {G0 G : Gh} {rs : List RV} {xs : List V} (h : RVRs K mg G0 G H σ rs xs) : rs.length = xs.length := h.length
theorem tS_par {is : List Nat} {es : List E} (hi : ∀ i ∈ is, ok i = true) (h : tSt K mg Ex ok cf np (.par is es) D σ H) : tA K mg cf Ex es σ H fun xs H1 => D.nx (putV is xs σ) H1 := by
  obtain ⟨G, s, R, h⟩ := h
  simp only [execS] at h
  refine tA_then R h fun rs s1 G1 H1 xs h R1 st1 rv => ?_
  cases e2 : slsOf s1 rs with
  | none => rw [e2] at h; exact h.bad.elim
  | some q =>
    obtain ⟨as, s2⟩ := q
    rw [e2] at h
    have h : EndS K mg Ex ok D G σ H (match putSls is as s2 with | some s3 => .ok .nx s3 | none => .bad) := h
    obtain ⟨G2, R2, st2, q2⟩ := slsOf_ok R1 rv e2
    cases e3 : putSls is as s2 with
    | none => rw [e3] at h; exact h.bad.elim
    | some s3 =>
      rw [e3] at h
      obtain ⟨G3, R3, st3, k3⟩ := putSls_ok hi R2 (st1.trans st2) q2 e3
      exact h.done G3 _ H1 R3 st3 k3
theorem evalEs_len : ∀ {es : List E} {s s' : SS} {rs : List RV}, evalEs cf es s = .ok rs s' → rs.length = es.length
  | [], s, s', rs, h => by simp only [evalEs] at h; cases h; rfl
  | e :: es, s, s', rs, h => by
    simp only [evalEs] at h
    cases e1 : evalE cf e s with
    | bad => rw [e1] at h; cases h
    | exc x s1 => rw [e1] at h; cases h
    | ok r s1 =>
      rw [e1] at h
      cases e2 : evalEs cf es s1 with
      | bad => simp only [Res.bind, e2] at h; cases h
      | exc x s1 => simp only [Res.bind, e2] at h; cases h
      | ok rs1 s2 =>
        simp only [Res.bind, e2] at h
        cases h
        exact congrArg Nat.succ (evalEs_len e2)
/-- the count of what was told -/
theorem tA_len {es : List E} {Q : List V → Hp → Prop} (h : tA K mg cf Ex es σ H Q) : tA K mg cf Ex es σ H fun xs H1 => xs.length = es.length ∧ Q xs H1 := by
  obtain ⟨G, s, R, h⟩ := h
  refine ⟨G, s, R, ?_⟩
  rcases h with ⟨rs, s', e, h⟩ | h
  · exact .inl ⟨rs, s', e, fun G' H' xs R' st rv => ⟨by rw [← rv.length]; exact evalEs_len e, h G' H' xs R' st rv⟩⟩
  · exact .inr h
theorem tS_par2 {i j : Nat} {a b : E} (hi : ok i = true) (hj : ok j = true) (h : tSt K mg Ex ok cf np (.par [i, j] [a, b]) D σ H) : L2.tPar i j (tA K mg cf Ex [a, b]) D σ H := by
  refine tA_mono (tA_len (tS_par (fun n hn => by simp at hn; rcases hn with rfl | rfl <;> assumption) h)) fun xs H1 ⟨l, q⟩ => ?_
  match xs, l with
  | [v, w], _ => exact ⟨v, w, rfl, q⟩
theorem tS_par3 {i j l : Nat} {a b c : E} (hi : ok i = true) (hj : ok j = true) (hl : ok l = true) (h : tSt K mg Ex ok cf np (.par [i, j, l] [a, b, c]) D σ H) : L2.tPar3 i j l (tA K mg cf Ex [a, b, c]) D σ H := by
  refine tA_mono (tA_len (tS_par (fun n hn => by simp at hn; rcases hn with rfl | rfl | rfl <;> assumption) h)) fun xs H1 ⟨l, q⟩ => ?_
  match xs, l with
  | [v, w, u], _ => exact ⟨v, w, u, rfl, q⟩
/-- name op= .. -/
def augF : P → Int → Int → Int
  | .add => fun i j => i + j
  | _ => fun i j => i - j
theorem tS_aug {i : Nat} {p : P} {e : E} (hi : ok i = true) (h : tSt K mg Ex ok cf np (.aug i p e) D σ H) : L2.tAug i (tE K mg cf Ex e) (L2.ipI (augF p)) D σ H := by
  obtain ⟨G, s, R, h⟩ := h
  simp only [execS] at h
  cases ei : s.env[i]? with
  | none => rw [ei] at h; exact h.bad.elim
  | some sl =>
    rw [ei] at h
    cases sl with
    | un => exact h.bad.elim
    | own _ => exact h.bad.elim
    | val v =>
      obtain ⟨x, e1, p1⟩ := R.val ei
      refine ⟨x, e1, tE_then R h fun r s1 G1 H1 y h R1 st1 rv => ?_⟩
      cases e2 : cont s1 r with
      | none => rw [e2] at h; exact h.bad.elim
      | some w =>
        rw [e2] at h
        simp only at h
        cases e3 : augSem p v w with
        | none => rw [e3] at h; exact h.bad.elim
        | some z =>
          rw [e3] at h
          have cn := cont_ok R1 rv e2
          have fin : ∀ a b : Int, v = .int a → w = .int b → z = .int (augF p a b) → L2.ipI (augF p) x y H1 fun z H2 => D.nx (σ.set i (some z)) H2 := fun a b ea eb ez => by
            subst ea eb ez
            cases p1
            have ey := cn.int
            subst ey
            have hl : i < s1.env.length := by
              have := (List.getElem?_eq_some_iff.mp e1).1
              rw [R1.len]; exact this
            exact ⟨a, b, rfl, rfl, h.done G1 _ H1 (R1.setVal (.int _) hl) st1 (.set hi)⟩
          cases p <;> cases v <;> first | (exfalso; simp [augSem] at e3; done) | skip
          all_goals cases w <;> first | (exfalso; simp [augSem] at e3; done) | skip
          all_goals (simp only [augSem, Option.some.injEq] at e3; exact fin _ _ rfl rfl e3.symm)
/-- a[i] = v -/
theorem tS_setix {a b e : E} (h : tSt K mg Ex ok cf np (.setix a b e) D σ H) : L2.tAsg (tE K mg cf Ex e) (L2.gSub (tE K mg cf Ex a) (tE K mg cf Ex b) L2.rSetL) D σ H := by
  obtain ⟨G, s, R, h⟩ := h
  simp only [execS] at h
  refine tE_then R h fun r s1 G1 H1 x h R1 st1 rv => ?_
  cases e2 : keep s1 r with
  | none => rw [e2] at h; exact h.bad.elim
  | some q =>
    obtain ⟨v, s2⟩ := q
    rw [e2] at h
    obtain ⟨G2, R2, st2, _, p, _, _⟩ := keep_ok R1 st1 rv e2
    have h := EndS.back h st2 .refl
    refine tE_then R2 h fun ra s3 G3 H3 y h R3 st3 rv3 => ?_
    have h := EndS.back h st3 .refl
    refine tE_then R3 h fun ri s4 G4 H4 z h R4 st4 rv4 => ?_
    cases c1 : cont s4 ra with
    | none => rw [c1] at h; exact h.bad.elim
    | some o =>
      cases c2 : cont s4 ri with
      | none => rw [c1, c2] at h; exact h.bad.elim
      | some k =>
        rw [c1, c2] at h
        simp only at h
        cases c3 : setSem o k v with
        | none => rw [c3] at h; exact h.bad.elim
        | some o' =>
          rw [c3] at h
          simp only at h
          cases c4 : putBack ra o' s4 with
          | none => rw [c4] at h; exact h.bad.elim
          | some s5 =>
            rw [c4] at h
            obtain ⟨ad, ey, ob, stp, put⟩ := mut_obj R4 (rv3.mono st4) c1 c4
            have ck := cont_ok R4 rv4 c2
            have pv : PVR K mg G4 H4 v x := PVR.step (PVR.step p st3.mono) st4.mono
            unfold setSem at c3
            split at c3
            · rename_i xs n
              split at c3
              · rename_i j hj
                cases c3
                obtain ⟨Vs, hV, pl⟩ := ob
                have ez := ck.int
                subst ez
                subst ey
                refine ⟨ad, Vs, n, j, rfl, rfl, hV, by rw [← pl.length]; exact hj, ?_⟩
                have stq := stp (.lst (Vs.set j x))
                have R5 := put (.lst (Vs.set j x)) ⟨Vs.set j x, upd_same, (pl.set pv j).step stq.mono⟩
                exact h.done G4 σ _ R5 (st4.trans stq) .refl
              · cases c3
            · cases c3
end
/-! ### all statements -/
theorem PS.imp {X : L2.Cx} {st : Stmt} {t t' : L2.TS} (h : PS X st t) (i : ∀ D σ H, t' D σ H → t D σ H) : PS X st t' := ⟨fun pins s σ H D I q => h.run pins s σ H D I (i D σ H q)⟩
theorem PSs.imp {X : L2.Cx} {st : List Stmt} {t t' : L2.TS} (h : PSs X st t) (i : ∀ D σ H, t' D σ H → t D σ H) : PSs X st t' := ⟨fun pins s σ H D I q => h.run pins s σ H D I (i D σ H q)⟩
/-- what a def's body must bear besides -/
structure XS (X : L2.Cx) (g : Cg) (cf : CF) (Ex : L2.WX) : Prop where
  o : XO X g cf Ex
  fn : ∀ x, X.fn x = true
  kind : X.env.scope.kind = .function
  own : PassesOwn (model X.prog X.w) X.A X.env X.xe
theorem XS.nk {X : L2.Cx} {g : Cg} {cf : CF} {Ex : L2.WX} (o : XS X g cf Ex) : NkOk X (ownNm X.env.scope) := fun x h => by
  unfold ownNm at h
  split at h
  · rename_i e; exact ⟨.inl e, .inl (o.fn x)⟩
  · rename_i e; exact ⟨.inr e, .inl (o.fn x)⟩
  · cases h
theorem comp_inv {g : Cg} {N : List Str} {k : Nat} {sc : Scope} {elt : Expr} {gs : List Comprehension} {scope : Scope} {pos : Pos} {e' : E} (h : cE g N (k + 1) sc (.ListComp elt gs scope pos) = some e') :
    ∃ t it ifs own it' t' cs e1, gs = [⟨t, it, ifs, 0⟩] ∧ ownOf N scope = some own ∧ L2.blkC N sc scope own = true ∧ cI g N k sc t it = some it' ∧ cT (fun i => decide (i ∈ own.map (·.2))) (ownNm scope) N k t = some t' ∧
      mapO (cE g N k (L2.relS scope sc)) ifs = some cs ∧ cE g N k (L2.relS scope sc) elt = some e1 ∧ cs.length ≤ 1 ∧ e' = .lc e1 t' it' cs (own.map (·.2)) := by
  rw [cE.eq_def] at h
  simp only at h
  split at h
  all_goals first | (exfalso; cases ‹Expr.ListComp _ _ _ _ = _›; done) | skip
  · rename_i elt1 t it ifs scope1 pos1 heq
    cases heq
    split at h
    · rename_i own hown
      split at h
      · rename_i hb
        split at h
        · rename_i it' t' cs e1 h1 h2 h3 h4
          split at h
          · rename_i hl
            cases h
            exact ⟨t, it, ifs, own, it', t', cs, e1, rfl, hown, hb, h1, h2, h3, h4, hl, rfl⟩
          · cases h
        · cases h
      · cases h
    · cases h
  · cases h
/-- name = [..], both ways -/
theorem ps_nm {X : L2.Cx} {g : Cg} {cf : CF} {Ex : L2.WX} (o : XS X g cf Ex) {k i np : Nat} {x : Str} {p pos : Pos} {e : Expr} {e' : E} {ok : Nat → Bool} (hi : ixOf x X.N = some i) (hk : ok i = true) (hx : ownNm X.env.scope x = true) (he : cE g X.N k X.env.scope e = some e') :
    PS X (.Assign [.Name x p] e pos) (tSt X.K X.mg Ex ok cf np (.asg (.nm i) e')) := by
  obtain ⟨lo, _⟩ := o.nk x hx
  have pe := ((exprs_ok k).1 o.o he).1
  have plain : lcSw X.env.scope x p e = false → PS X (.Assign [.Name x p] e pos) (tSt X.K X.mg Ex ok cf np (.asg (.nm i) e')) := fun hs =>
    PS.imp (L2.ps_set o.o.nd (ixOf_get hi) lo pe (by rw [swNm o.kind]; exact congrArg pure hs) (.inl (o.fn x))) fun D σ H h => tS_asgNm hk h
  cases hs : lcSw X.env.scope x p e with
  | false => exact plain hs
  | true =>
    have hloc : X.env.scope.names.lookup x = some .local ∧ isCompE e = true := by
      unfold lcSw at hs
      split at hs <;> first | cases hs | skip
      all_goals (rw [Bool.and_eq_true, Bool.and_eq_true] at hs; exact ⟨by simpa using hs.1.1, rfl⟩)
    cases k with
    | zero => cases he
    | succ k =>
      cases e with
      | ListComp elt gs scope pos2 =>
        obtain ⟨t, it, ifs, own, it', t', cs, e1, rfl, hown, hb, h1, h2, h3, h4, hl, rfl⟩ := comp_inv he
        obtain ⟨ihE, ihI⟩ := exprs_ok k
        have hblk : ∀ (s : Shared) (H : Hp) (C : Addr) (cl : List (Str × Addr)) (fp : List Addr), PG (X.blk s H scope (compEnvC scope cl C X.env) fp) t (tG X.K X.mg t') ∧ PEs (X.blk s H scope (compEnvC scope cl C X.env) fp) cf noEx ifs cs ∧ PE (X.blk s H scope (compEnvC scope cl C X.env) fp) elt (tE X.K X.mg cf noEx e1) := fun s H C cl fp => by
          have ob := o.o.blk s H scope (compEnvC scope cl C X.env) fp
          have ihB : ∀ {e : Expr} {e' : E}, cE g X.N k (L2.relS scope X.env.scope) e = some e' → PB (X.blk s H scope (compEnvC scope cl C X.env) fp) cf noEx e e' := fun h => ihE ob h
          exact ⟨pg_T ob behind_blk k h2, pb_list ihB h3, (ihB h4).1⟩
        refine PS.imp (L2.ps_setLc (tt := tCs X.K X.mg cf cs) (te := tE X.K X.mg cf noEx e1) (g := tG X.K X.mg t') o.o.calm o.o.nd (ixOf_get hi) hloc.1 (by rw [swNm o.kind]; exact congrArg pure hs) (ihI o.o h1) (L2.blkOk_by hb) (fun s H C cl fp => (hblk s H C cl fp).1) (fun s H C cl fp => pts_of hl (hblk s H C cl fp).2.1) (fun s H C cl fp => (hblk s H C cl fp).2.2) (cI_fold h1 _)) fun D σ H h => ?_
        exact tE_lc h2 (tS_asgNm hk h)
      | SetComp _ _ _ _ => simp [cE] at he
      | DictComp _ _ _ _ _ => simp [cE] at he
      | _ => cases hloc.2
/-- THE STATEMENTS -/
theorem stmts_ok : ∀ (k : Nat), (∀ {X : L2.Cx} {g : Cg} {cf : CF} {Ex : L2.WX} (o : XS X g cf Ex) {ok : Nat → Bool} {np : Nat} {st : Stmt} {st' : S}, cS g X.N ok k X.env.scope st = some st' → PS X st (tSt X.K X.mg Ex ok cf np st')) ∧
    (∀ {X : L2.Cx} {g : Cg} {cf : CF} {Ex : L2.WX} (o : XS X g cf Ex) {ok : Nat → Bool} {np : Nat} {st : List Stmt} {st' : List S}, cSs g X.N ok k X.env.scope st = some st' → PSs X st (tSts X.K X.mg Ex ok cf np st'))
  | 0 => ⟨fun _ _ _ _ _ h => (nomatch h), fun _ _ _ _ _ h => (nomatch h)⟩
  | k + 1 => by
    obtain ⟨ih, ihs⟩ := stmts_ok k
    refine ⟨fun {X g cf Ex} o {ok np st st'} h => ?_, fun {X g cf Ex} o {ok np st st'} h => ?_⟩
    · have ihE : ∀ {e : Expr} {e' : E}, cE g X.N k X.env.scope e = some e' → PB X cf Ex e e' := fun h => (exprs_ok k).1 o.o h
      have ihI : ∀ {t e : Expr} {i : I}, cI g X.N k X.env.scope t e = some i → PI X t e (tIX X cf Ex i) := fun h => (exprs_ok k).2 o.o h
      rw [cS.eq_def] at h
      simp only at h
      split at h
      · cases h; exact PS.imp L2.ps_pass fun D σ H h => tS_pass h
      · cases h; exact PS.imp L2.ps_break fun D σ H h => tS_brk h
      · cases h; exact PS.imp L2.ps_continue fun D σ H h => tS_cont h
      · split at h
        · cases h
        · rename_i hc
          obtain ⟨e', he, rfl⟩ := Option.map_eq_some_iff.mp h
          exact PS.imp (L2.ps_expr (ihE he).1 (swNo (by simpa using hc))) fun D σ H h => tS_expr h
      · cases h; exact PS.imp L2.ps_retN fun D σ H h => tS_retN h
      · obtain ⟨e', he, rfl⟩ := Option.map_eq_some_iff.mp h
        exact PS.imp (L2.ps_ret (ihE he).1) fun D σ H h => tS_ret h
      · split at h
        · rename_i h1 h2 h3
          cases h
          exact PS.imp (L2.ps_if (ihE h1).2 (ihs o h2) (ihs o h3)) fun D σ H h => tS_if h
        · cases h
      · split at h
        · rename_i h1 h2
          cases h
          exact PS.imp (L2.ps_while o.own (ihE h1).2 (ihs o h2)) fun D σ H h => tS_while h
        · cases h
      · split at h
        · rename_i h1 h2 h3
          cases h
          exact PS.imp (L2.ps_for o.own o.o.calm (ihI h1) (pg_T o.o o.nk k h2) (ihs o h3) (cI_fold h1 _)) fun D σ H h => tS_for ((cT_ok k).1 h2) h
        · cases h
      · -- op=
        rename_i x xp op e pos
        split at h
        · rename_i i p e' h1 h2 h3
          split at h
          · rename_i hc
            rw [Bool.and_eq_true] at hc
            cases h
            have hp : L2.PIp X op (L2.ipI (augF p)) := by
              unfold augP at h2
              split at h2
              · cases h2; exact L2.ip_add
              · cases h2; exact L2.ip_sub
              · cases h2
            exact PS.imp (L2.ps_aug o.o.nd (ixOf_get h1) (o.nk _ hc.2).1 (ihE h3).1 hp (.inl (o.fn _))) fun D σ H h => tS_aug hc.1 h
          · cases h
        · cases h
      · -- name = ..
        split at h
        · rename_i i e' h1 h2
          split at h
          · rename_i hc
            rw [Bool.and_eq_true] at hc
            cases h
            exact ps_nm o h1 hc.1 hc.2 h2
          · cases h
        · cases h
      · -- o[i] = ..
        split at h
        · rename_i h1 h2 h3
          cases h
          exact PS.imp (L2.ps_asg (ihE h3).1 (L2.pg_sub (ihE h1).1 (ihE h2).1 L2.set_list (cE_assign h2 _ _ _)) swSub swsSub) fun D σ H h => tS_setix h
        · cases h
      · -- a, b = ..
        rename_i ts tk tp e pos
        have gen : isTupE e = false ∨ (∃ vs k2 p2, e = .Tuple vs k2 p2 ∧ swS X.env.scope ts vs = some none) → ∀ {t' e'}, cT ok (ownNm X.env.scope) X.N k (.Tuple ts tk tp) = some t' → cE g X.N k X.env.scope e = some e' → PS X (.Assign [.Tuple ts tk tp] e pos) (tSt X.K X.mg Ex ok cf np (.asg t' e')) := fun hs t' e' h1 h2 => by
          have hw : swappedStores [.Tuple ts tk tp] e X.env = pure none := by
            rcases hs with hs | ⟨vs, k2, p2, rfl, hs⟩
            · exact swsNo hs
            · exact swS_ok o.kind hs
          refine PS.imp (L2.ps_asg (ihE h2).1 (pg_T o.o o.nk k h1) swTup hw) fun D σ H h => tS_asgT ((cT_ok k).1 h1) (fun i z => ?_) h
          subst z
          cases k with
          | zero => cases h1
          | succ k => 
            simp only [cT] at h1
            cases e3 : cTs ok (ownNm X.env.scope) X.N k ts <;> (rw [e3] at h1; cases h1)
        split at h
        · rename_i q hq
          split at h
          · cases h
          · rename_i hT
            obtain ⟨e', he, rfl⟩ := Option.map_eq_some_iff.mp h
            obtain ⟨pg, l1, l2, l3, l4⟩ := starT_ok o.o.nd o.nk hq
            exact PS.imp (L2.ps_asg (ihE he).1 (pg_star o.o.calm pg l2 l3) swTup (swsNo (by simpa using hT))) fun D σ H h => tS_asgR l4 h
        rename_i hst0
        clear hst0
        split at h
        · rename_i hT
          split at h
          · rename_i h1 h2
            cases h
            exact gen (.inl hT) h1 h2
          · cases h
        · split at h
          · rename_i vs k2 p2
            split at h
            · cases h
            · rename_i hs
              split at h
              · rename_i h1 h2
                cases h
                exact gen (.inr ⟨_, _, _, rfl, hs⟩) h1 h2
              · cases h
            · rename_i names hs
              split at h
              · rename_i x px y py a b
                split at h
                · rename_i i j a' b' h1 h2 h3 h4
                  split at h
                  · rename_i hc
                    simp only [Bool.and_eq_true, decide_eq_true_eq, beq_iff_eq] at hc
                    obtain ⟨⟨⟨⟨⟨c1, c2⟩, c3⟩, c4⟩, c5⟩, c6⟩ := hc
                    subst c4
                    cases h
                    have pa : PA X [a, b] (tAX X cf Ex [a', b']) := PEs.pa (g := g) (N := X.N) (k := k) (sc := X.env.scope) (by simp only [mapO, h3, h4]) (.cons (ihE h3).1 (ihE h3).2 (.cons (ihE h4).1 (ihE h4).2 .nil))
                    exact PS.imp (L2.ps_par o.o.calm o.o.nd (ixOf_get h1) (ixOf_get h2) c3 c5 c6 pa (swS_ok o.kind hs) swTup) fun D σ H h => tS_par2 c1 c2 h
                  · cases h
                · cases h
              · rename_i x px y py z pz a b c
                split at h
                · rename_i i j l a' b' c' h1 h2 h3 h4 h5 h6
                  split at h
                  · rename_i hc
                    simp only [Bool.and_eq_true, decide_eq_true_eq, beq_iff_eq] at hc
                    obtain ⟨⟨⟨⟨⟨⟨⟨⟨⟨c1, c2⟩, c3⟩, c4⟩, c5⟩, c6⟩, c7⟩, c8⟩, c9⟩, c10⟩ := hc
                    subst c7
                    cases h
                    have pa : PA X [a, b, c] (tAX X cf Ex [a', b', c']) := PEs.pa (g := g) (N := X.N) (k := k) (sc := X.env.scope) (by simp only [mapO, h4, h5, h6]) (.cons (ihE h4).1 (ihE h4).2 (.cons (ihE h5).1 (ihE h5).2 (.cons (ihE h6).1 (ihE h6).2 .nil)))
                    exact PS.imp (L2.ps_par3 o.o.calm o.o.nd (ixOf_get h1) (ixOf_get h2) (ixOf_get h3) c4 c5 c6 c8 c9 c10 pa (swS_ok o.kind hs) swTup) fun D σ H h => tS_par3 c1 c2 c3 h
                  · cases h
                · cases h
              · cases h
          · cases h
      · cases h
    · cases st with
      | nil =>
        simp only [cSs] at h
        cases h
        exact PSs.imp L2.pss_nil fun D σ H h => tS_nil h
      | cons st r =>
        simp only [cSs] at h
        split at h
        · rename_i h1 h2
          cases h
          exact PSs.imp (L2.pss_cons (ih o h1) (ihs o h2)) fun D σ H h => tS_seq h
        · rename_i h2
          cases h
          exact PSs.imp (L2.pss_cons (PS.imp L2.ps_never fun D σ H h => tS_dead h) (ihs o h2)) fun D σ H h => tS_seq h
        · cases h
end TP

set_option Elab.async false
set_option linter.all false
set_option maxRecDepth 100000
set_option maxHeartbeats 4000000
/-! Sal10: defs. -/
namespace TP
open PySem PySem.Spec PyProof.Rows
open L2 (V Hp HO Key upd upd_same upd_ne SqL SqT Rd Vals Inv PE PT PS PSs Ends FnOk FunD FnScope Binds)

/-! ### how arguments are bound -/
theorem lookup_zip : ∀ {ps : List Str} {us : List Value} {x : Str}, us.length = ps.length → x ∈ ps → ((ps.zip us).lookup x).isSome = true
  | [], us, x, _, h => by simp at h
  | p :: ps, [], x, h, _ => by simp at h
  | p :: ps, u :: us, x, h, hx => by
    simp only [List.zip_cons_cons, List.lookup]
    cases e : x == p with
    | true => rfl
    | false =>
      refine lookup_zip (by simpa using h) ?_
      rcases List.mem_cons.mp hx with z | z
      · subst z; simp at e
      · exact z
theorem fm_congr {α β : Type} {f g : α → Option β} : ∀ {l : List α}, (∀ x ∈ l, f x = g x) → l.filterMap f = l.filterMap g
  | [], _ => rfl
  | x :: l, h => by
    rw [List.filterMap_cons, List.filterMap_cons, h x (List.mem_cons_self ..), fm_congr fun y hy => h y (List.mem_cons_of_mem _ hy)]
theorem zip_self : ∀ {ps : List Str} {us : List Value}, us.length = ps.length → ps.Nodup → (ps.filterMap fun n => ((ps.zip us).lookup n).map fun v => (n, v)) = ps.zip us
  | [], us, _, _ => by simp
  | p :: ps, [], h, _ => by simp at h
  | p :: ps, u :: us, h, nd => by
    obtain ⟨h1, h2⟩ := List.nodup_cons.mp nd
    have ih := zip_self (ps := ps) (us := us) (by simpa using h) h2
    have e : (ps.filterMap fun n => (((p :: ps).zip (u :: us)).lookup n).map fun v => (n, v)) = ps.filterMap fun n => ((ps.zip us).lookup n).map fun v => (n, v) := by
      refine fm_congr fun n hn => ?_
      have ne : (n == p) = false := by
        rw [beq_eq_false_iff_ne]
        intro z
        subst z
        exact h1 hn
      simp only [List.zip_cons_cons, List.lookup, ne]
    rw [List.filterMap_cons]
    simp only [List.zip_cons_cons, List.lookup, beq_self_eq_true, Option.map_some] at e ⊢
    rw [e, ih]
theorem bind_plain {as : List Arg} {x qual : Str} {body : List Stmt} {scope : Scope} {kV doc pm : Value} {an : Option Addr} {cdv ct : Value} {us : List Value} (hl : us.length = (as.map (·.arg)).length) (nd : (as.map (·.arg)).Nodup) :
    bindArgs (PySem.W.fnOf x qual ⟨[], as, none, [], [], none, []⟩ body scope .none kV doc pm an cdv ct) ⟨us, []⟩ = pure ((as.map (·.arg)).zip us) := by
  have hl2 : us.length = as.length := by simpa using hl
  have hm : ((as.map (·.arg)).filter fun n => (((as.map (·.arg)).zip us).lookup n).isNone) = [] := by
    rw [List.filter_eq_nil_iff]
    intro n hn
    have := lookup_zip hl hn
    simp only [Option.isNone_iff_eq_none]
    intro z
    rw [z] at this
    cases this
  have hz := zip_self hl nd
  rw [List.filterMap_map] at hz
  have ht : (as.map (·.arg)).take as.length = as.map (·.arg) := List.take_of_length_le (by simp)
  unfold bindArgs
  have e0 : seqItems? Value.none = pure none := rfl
  simp only [PySem.W.fnOf, List.map_nil, List.nil_append]
  simp [e0, hl2, hm, ht]
  exact congrArg pure hz
def plainPs (p : Arguments) (ps : List Str) : Bool := match p with
  | ⟨[], as, none, [], [], none, []⟩ => decide (as.map (·.arg) = ps)
  | _ => false
theorem binds_plain {K : PySem.W.Frag} {x qual : Str} {params : Arguments} {body : List Stmt} {scope : Scope} {kws : List (Str × V)} {f : Addr} {fd : FuncData} {ps : List Str} (F : FunD K x qual params body scope [] kws f fd) (h : plainPs params ps = true) (nd : ps.Nodup) :
    Binds K fd ps [] ∧ ∀ (s : Shared) (us : List Value), us.length = ps.length → BindsTo s fd ⟨us, []⟩ (ps.zip us) := by
  unfold plainPs at h
  split at h
  · rw [decide_eq_true_eq] at h
    subst h
    exact ⟨F.bindsN fun _ _ _ _ _ _ us hl => bind_plain hl nd, F.bindsA fun _ _ _ _ _ _ us hl => bind_plain hl nd⟩
  · cases h

/-! ### the params that are stored -/
theorem frz1_len (as : List Sl) (i : Nat) : (frz1 as i).length = as.length := by
  unfold frz1
  split <;> simp
theorem frzA_len : ∀ (is : List Nat) (as : List Sl), (frzA is as).length = as.length
  | [], _ => rfl
  | i :: is, as => (frzA_len is _).trans (frz1_len as i)
theorem frz1_not {as : List Sl} {i j : Nat} {o : PV} (h : (frz1 as i)[j]? = some (.own o)) : as[j]? = some (.own o) ∧ j ≠ i := by
  unfold frz1 at h
  split at h
  · rename_i o1 e
    by_cases hj : j = i
    · subst hj
      rw [List.getElem?_set_self (List.getElem?_eq_some_iff.mp e).1] at h
      cases h
    · rw [List.getElem?_set_ne (Ne.symm hj)] at h
      exact ⟨h, hj⟩
  · rename_i hn
    exact ⟨h, fun z => by subst z; exact hn o h⟩
theorem frzA_not : ∀ {is : List Nat} {as : List Sl} {j : Nat} {o : PV}, (frzA is as)[j]? = some (.own o) → j ∉ is
  | [], as, j, o, _ => by simp
  | i :: is, as, j, o, h => by
    intro hj
    rcases List.mem_cons.mp hj with z | z
    · subst z
      have own : ∀ {is : List Nat} {as : List Sl} {j : Nat} {o : PV}, (frzA is as)[j]? = some (.own o) → as[j]? = some (.own o) := by
        intro is
        induction is with
        | nil => intro as j o h; exact h
        | cons i is ih => intro as j o h; exact (frz1_not (ih h)).1
      exact (frz1_not (own h)).2 rfl
    · exact frzA_not (is := is) (as := frz1 as i) h z
theorem frz_rel {K : PySem.W.Frag} {mg : Str → Option Value} {H : Hp} {σ : L2.St} {sto : List SO} : ∀ {is : List Nat} {as : List Sl} {G : Gh}, Rel K mg G ⟨as, sto⟩ σ H → ∃ G', Rel K mg G' ⟨frzA is as, sto⟩ σ H ∧ Step G H G' H
  | [], as, G, R => ⟨G, R, .refl⟩
  | i :: is, as, G, R => by
    have one : ∃ G', Rel K mg G' ⟨frz1 as i, sto⟩ σ H ∧ Step G H G' H := by
      unfold frz1
      split
      · rename_i o e
        obtain ⟨a, e1, g, ob⟩ := R.own (i := i) e
        have h2 : G a ≠ .fz := fz_of g (fun z => nomatch z)
        have h3 : ∀ l, G a ≠ .loc l := loc_of g (fun _ z => nomatch z)
        exact ⟨_, R.frzSlot (i := i) e e1 g ob, Step.refl.tag (by rw [g]; exact fun z => nomatch z) h2 h3⟩
      · exact ⟨G, R, .refl⟩
    obtain ⟨G1, R1, st1⟩ := one
    obtain ⟨G2, R2, st2⟩ := frz_rel (is := is) R1
    exact ⟨G2, R2, st1.trans st2⟩
theorem finA_get {asg : List Nat} {env : List Sl} : ∀ {as : List Sl} {k j : Nat}, (finA asg k as env)[j]? = (as[j]?).map fun a => if k + j ∈ asg then a else env.getD (k + j) .un
  | [], k, j => by simp [finA]
  | a :: as, k, 0 => by simp [finA]
  | a :: as, k, j + 1 => by
    simp only [finA, List.getElem?_cons_succ]
    rw [finA_get, show k + 1 + j = k + (j + 1) from by omega]
theorem finA_len {asg : List Nat} {env : List Sl} : ∀ {as : List Sl} {k : Nat}, (finA asg k as env).length = as.length
  | [], k => rfl
  | a :: as, k => by simp only [finA, List.length_cons]; rw [finA_len]
def okOf (np : Nat) (asg : List Nat) : Nat → Bool := fun j => decide (np ≤ j) || decide (j ∈ asg)
/-- what the params hold behind the body -/
theorem fin_rel {K : PySem.W.Frag} {mg : Str → Option Value} {G0 G : Gh} {H0 H : Hp} {as : List Sl} {sto : List SO} {asg : List Nat} {vs : List V} {N : List Str} {s' : SS} {σ' : L2.St} (hl : as.length = vs.length) (h0 : ∀ j ∈ asg, ∀ o, as[j]? ≠ some (.own o))
    (R0 : Rel K mg G0 ⟨as ++ List.replicate (N.length - vs.length) .un, sto⟩ (L2.start N vs) H0) (st : Step G0 H0 G H) (R : Rel K mg G s' σ' H) (k : keepS (okOf vs.length asg) (L2.start N vs) σ') : Rel K mg G ⟨finA asg 0 as s'.env, s'.sto⟩ (vs.map some) H := by
  refine ⟨by simp [finA_len, hl], fun j sl ej => ?_, R.sto, R.uniq, R.trk, R.lim⟩
  have ej : (finA asg 0 as s'.env)[j]? = some sl := ej
  rw [finA_get, Nat.zero_add] at ej
  obtain ⟨a, ea, e2⟩ := Option.map_eq_some_iff.mp ej
  have hj : j < as.length := (List.getElem?_eq_some_iff.mp ea).1
  have ev : ∃ v, vs[j]? = some v := ⟨vs[j]'(hl ▸ hj), by simp [hl ▸ hj]⟩
  obtain ⟨v, ev⟩ := ev
  have e3 : ((vs.map some)[j]?).join = some v := by rw [List.getElem?_map, ev]; rfl
  have e4 : (L2.start N vs)[j]? = some (some v) := by
    unfold L2.start
    rw [List.getElem?_append_left (by simpa using hl ▸ hj), List.getElem?_map, ev]
    rfl
  rw [e3]
  by_cases hm : j ∈ asg
  · rw [if_pos hm] at e2
    subst e2
    have sr := R0.slots j a (by show (as ++ _)[j]? = _; rw [List.getElem?_append_left hj]; exact ea)
    rw [e4] at sr
    cases a with
    | un => trivial
    | val w =>
      obtain ⟨y, e5, p⟩ := sr
      exact ⟨y, e5, p.step st.mono⟩
    | own o => exact absurd ea (h0 j hm o)
  · rw [if_neg hm] at e2
    have hk : okOf vs.length asg j = false := by
      unfold okOf
      simp [hm, hl ▸ hj]
    have e5 := k.2 j hk
    rw [e4] at e5
    cases e6 : s'.env[j]? with
    | none =>
      have : s'.env.getD j .un = .un := by rw [List.getD_eq_getElem?_getD, e6]; rfl
      rw [this] at e2
      subst e2
      trivial
    | some sl2 =>
      have : s'.env.getD j .un = sl2 := by rw [List.getD_eq_getElem?_getD, e6]; rfl
      rw [this] at e2
      subst e2
      have sr := R.slots j sl2 e6
      rw [e5] at sr
      exact sr
/-- a body keeps the def's promise -/
theorem body_ok {K : PySem.W.Frag} {mg : Str → Option Value} {cf : CF} {d : Fd} {N : List Str} {vs : List V} {H : Hp} {Q : L2.VK} {E : L2.XK} {G : Gh} {as : List Sl} {sto : List SO} (hN : N.length = d.ns) (R : Rel K mg G ⟨as, sto⟩ (vs.map some) H)
    (h : (∃ r fin sto', runFd cf d as sto = .ok r fin sto' ∧ ∀ G' H' x, Rel K mg G' ⟨fin, sto'⟩ (vs.map some) H' → Step G H G' H' → RVR K mg G G' H' [] r x → Q x H') ∨
      (∃ e fin sto', runFd cf d as sto = .exc e fin sto' ∧ ∀ G' H' C a, Rel K mg G' ⟨fin, sto'⟩ (vs.map some) H' → Step G H G' H' → ExnR K mg G' H' e C a → E C a H')) :
    tSts K mg (fun c a _ H => E c a H) (okOf d.np d.asg) cf d.np d.body { nx := fun _ H' => Q .non H', rt := Q } (L2.start N vs) H := by
  have hlv : as.length = vs.length := by have := R.len; simpa using this
  unfold runFd at h
  by_cases hc : as.length = d.np ∧ d.np ≤ d.ns
  · rw [if_pos hc] at h
    obtain ⟨hn, hle⟩ := hc
    obtain ⟨G1, R1, st1⟩ := frz_rel (is := d.asg) R
    have hlf : (frzA d.asg as).length = vs.length := (frzA_len _ _).trans hlv
    have hnp : d.np = vs.length := hn.symm.trans hlv
    have Rs : Rel K mg G1 ⟨frzA d.asg as ++ List.replicate (N.length - vs.length) .un, sto⟩ (L2.start N vs) H := by
      refine R1.unset (by unfold L2.start; simp [hlf]) fun j sl ej => ?_
      by_cases hj : j < (frzA d.asg as).length
      · rw [List.getElem?_append_left hj] at ej
        refine .inr ⟨ej, ?_⟩
        unfold L2.start
        rw [List.getElem?_append_left (by simpa using hlf ▸ hj)]
      · rw [List.getElem?_append_right (by omega), List.getElem?_replicate] at ej
        split at ej
        · cases ej; exact .inl rfl
        · cases ej
    have h0 : ∀ j ∈ d.asg, ∀ o, (frzA d.asg as)[j]? ≠ some (.own o) := fun j hj o e => frzA_not e hj
    have e0 : d.ns - d.np = N.length - vs.length := by rw [hN, hnp]
    rw [e0] at h
    refine ⟨G1, _, Rs, ?_⟩
    have fin : ∀ {G' : Gh} {σ' : L2.St} {H' : Hp} {s' : SS}, Rel K mg G' s' σ' H' → Step G1 H G' H' → keepS (okOf d.np d.asg) (L2.start N vs) σ' → Rel K mg G' ⟨finA d.asg 0 (frzA d.asg as) s'.env, s'.sto⟩ (vs.map some) H' := fun R' st' k' =>
      fin_rel hlf h0 Rs st' R' (hnp ▸ k')
    cases ex : execSs cf d.np d.body ⟨frzA d.asg as ++ List.replicate (N.length - vs.length) .un, sto⟩ with
    | bad => simp only [ex] at h; rcases h with ⟨_, _, _, z, _⟩ | ⟨_, _, _, z, _⟩ <;> cases z
    | exc x s' =>
      simp only [ex] at h
      rcases h with ⟨_, _, _, z, _⟩ | ⟨_, _, _, z, h⟩ <;> cases z
      exact .inr ⟨x, s', rfl, fun G' σ' H' C a R' st' k' q => h G' H' C a (fin R' st' k') (st1.trans st') q⟩
    | ok fl s' =>
      simp only [ex] at h
      refine .inl ⟨fl, s', rfl, fun G' σ' H' R' st' k' => ?_⟩
      cases fl with
      | nx =>
        rcases h with ⟨_, _, _, z, h⟩ | ⟨_, _, _, z, _⟩ <;> cases z
        exact h G' H' .non (fin R' st' k') (st1.trans st') .non
      | rt r =>
        rcases h with ⟨_, _, _, z, h⟩ | ⟨_, _, _, z, _⟩ <;> cases z
        exact fun x rv => h G' H' x (fin R' st' k') (st1.trans st') (rv.back st1)
      | br => rcases h with ⟨_, _, _, z, _⟩ | ⟨_, _, _, z, _⟩ <;> cases z
      | ct => rcases h with ⟨_, _, _, z, _⟩ | ⟨_, _, _, z, _⟩ <;> cases z
  · rw [if_neg hc] at h
    rcases h with ⟨_, _, _, z, _⟩ | ⟨_, _, _, z, _⟩ <;> cases z
/-! ### calls by keywords -/
def pmV {α : Type} (d : α) (xs : List α) : List (Sum Nat PV) → List α
  | [] => []
  | .inl i :: r => xs.getD i d :: pmV d xs r
  | .inr _ :: r => d :: pmV d xs r
def pmB (m : Nat) : List (Sum Nat PV) → Bool
  | [] => true
  | .inl i :: r => decide (i < m) && pmB m r
  | .inr _ :: _ => false
def KpOk (params : Arguments) (ps : List Str) (p : KP) : Prop := pmB (p.n + p.ks.length) p.pm = true ∧ ∀ (x qual : Str) (body : List Stmt) (scope : Scope) (kV doc pm : Value) (an : Option Addr) (cdv ct : Value) (us ws : List Value), us.length = p.n → ws.length = p.ks.length →
  bindArgs (PySem.W.fnOf x qual params body scope .none kV doc pm an cdv ct) ⟨us, p.ks.zip ws⟩ = pure (ps.zip (pmV .none (us ++ ws) p.pm))
theorem pmV_vals {vs : List V} {us : List Value} (h : Vals vs us) : ∀ pm : List (Sum Nat PV), Vals (pmV .non vs pm) (pmV .none us pm)
  | [] => .nil
  | .inl i :: r => by
    refine .cons ?_ (pmV_vals h r)
    rw [List.getD_eq_getElem?_getD, List.getD_eq_getElem?_getD]
    cases e : vs[i]? with
    | none => rw [h.none_of e]; rfl
    | some x =>
      obtain ⟨u, e2, r2⟩ := h.get e
      rw [e2]
      exact r2
  | .inr _ :: r => .cons rfl (pmV_vals h r)
theorem pmV_rel {K : PySem.W.Frag} {mg : Str → Option Value} {xs : List V} : ∀ {pm : List (Sum Nat PV)}, pmB xs.length pm = true → PmRel K mg pm xs (pmV .non xs pm)
  | [], _ => ⟨rfl, fun j c h => by simp at h⟩
  | .inl i :: r, h => by
    simp only [pmB, Bool.and_eq_true, decide_eq_true_eq] at h
    obtain ⟨l, q⟩ := pmV_rel (K := K) (mg := mg) h.2
    refine ⟨by simp [pmV, l], fun j c hc => ?_⟩
    cases j with
    | zero =>
      simp at hc
      subst hc
      simp only [pmV, List.getElem?_cons_zero, List.getD_eq_getElem?_getD]
      rw [List.getElem?_eq_getElem h.1]
      rfl
    | succ j =>
      have := q j c (by simpa using hc)
      cases c <;> simpa [pmV] using this
  | .inr _ :: _, h => by cases h
theorem kwB_of {K : PySem.W.Frag} {mg : Str → Option Value} {x qual : Str} {params : Arguments} {body : List Stmt} {scope : Scope} {kws : List (Str × V)} {f : Addr} {fd : FuncData} {ps : List Str} {p : KP} (F : FunD K x qual params body scope [] kws f fd) (h : KpOk params ps p) : KwB K mg fd ps p := by
  obtain ⟨hb, h⟩ := h
  obtain ⟨oc, od, dV, kV, doc, pm, an, cdv, ct, osl, rfl, lk, hcd, hD, hK⟩ := F.ex
  rcases hD with ⟨_, rfl⟩ | ⟨e, _⟩
  · exact ⟨fun us ws => pmV .none (us ++ ws) p.pm, fun vs zs => pmV .non (vs ++ zs) p.pm, ⟨fun s us ws X l1 l2 => .of_eq (h x qual body scope kV doc pm an cdv ct us ws l1 l2), fun r1 r2 => pmV_vals (r1.append r2) p.pm⟩,
      fun vs zs l1 l2 => pmV_rel (by rw [List.length_append, l1, l2]; exact hb)⟩
  · exact absurd rfl e
/-- the whole text -/
structure Prog (w : World) (K : PySem.W.Frag) (mg : Str → Option Value) (g : Cg) (tab : Tab) : Prop where
  bn : ∀ b ∈ bnames, mg b = none
  con : ∀ x v, g.con.lookup x = some v → ∃ u V, mg x = some u ∧ L2.RelV V u ∧ ∀ G H, PVR K mg G H v V
  fns : ∀ f ∈ g.fns, ∃ (d : Fd) (qual : Str) (params : Arguments) (body : List Stmt) (scope : Scope) (kws : List (Str × V)) (a : Addr) (fd : FuncData) (N ps : List Str) (k : Nat), tab.lookup f = some d ∧ FunD K f qual params body scope [] kws a fd ∧ mg f = some (.ref a) ∧
    plainPs params ps = true ∧ FnScope N ps scope ∧ N.length = d.ns ∧ ps.length = d.np ∧ cSs g N (okOf d.np d.asg) k scope body = some d.body ∧ ∀ p ∈ g.kps, p.f = f → KpOk params ps p
  dcs : ∀ x tb, g.dcs.lookup x = some tb → DcOk K w mg (x, tb)
theorem FnScope.psNd {N ps : List Str} {sc : Scope} (S : FnScope N ps sc) : ps.Nodup := by rw [← S.pre]; exact S.nd.sublist (List.take_sublist _ _)
theorem prog_ok {P : Program} {w : World} {K : PySem.W.Frag} {mg : Str → Option Value} {g : Cg} {tab : Tab} (p : Prog w K mg g tab) : ∀ (n : Nat), ∀ f ∈ g.fns, ∃ (a : Addr) (fd : FuncData) (ps : List Str), (∀ base : Heap, FnOk P w K mg base (L2.CX P w) n a fd ps (spF K mg (callF tab n) f)) ∧
    mg f = some (.ref a) ∧ PySem.W.keepIn K (.ref a) = true ∧ Binds K fd ps [] ∧ (∀ (s : Shared) (us : List Value), us.length = ps.length → BindsTo s fd ⟨us, []⟩ (ps.zip us)) ∧ ∀ p ∈ g.kps, p.f = f → KwB K mg fd ps p
  | 0, f, hf => by
    obtain ⟨d, qual, params, body, scope, kws, a, fd, N, ps, k, h1, F, hm, hp, S, hN, hps, hc, hkp⟩ := p.fns f hf
    have no : ∀ vs H Q E, spF K mg (callF tab 0) f vs H Q E → False := fun vs H Q E h => by
      obtain ⟨G, as, sto, R, h⟩ := h
      rcases h with ⟨_, _, _, z, _⟩ | ⟨_, _, _, z, _⟩ <;> cases z
    obtain ⟨b1, b2⟩ := binds_plain F hp (FnScope.psNd S)
    exact ⟨a, fd, ps, fun base => ⟨fun vs H Q E h => (no vs H Q E h).elim, fun A outer s H args us vs Q E _ _ _ _ h => (no vs H Q E h).elim⟩, hm, F.kp, b1, b2, fun q hq e => kwB_of F (hkp q hq e)⟩
  | n + 1, f, hf => by
    obtain ⟨d, qual, params, body, scope, kws, a, fd, N, ps, k, h1, F, hm, hp, S, hN, hps, hc, hkp⟩ := p.fns f hf
    obtain ⟨b1, b2⟩ := binds_plain F hp (FnScope.psNd S)
    have un : ∀ as sto, callF tab (n + 1) f as sto = runFd (callF tab n) d as sto := fun as sto => by
      show (match tab.lookup f with | some d => runFd (callF tab n) d as sto | none => .bad) = _
      rw [h1]
    refine ⟨a, fd, ps, fun base => F.ok S (fun vs H Q E h => ?_) (fun cdv A outer s H vs Q E hr h => ?_), hm, F.kp, b1, b2, fun q hq e => kwB_of F (hkp q hq e)⟩
    · obtain ⟨G, as, sto, R, h⟩ := h
      have hlv : as.length = vs.length := by have := R.len; simpa using this
      have hd : as.length = d.np := by
        rw [un] at h
        unfold runFd at h
        by_cases hc : as.length = d.np ∧ d.np ≤ d.ns
        · exact hc.1
        · rw [if_neg hc] at h
          rcases h with ⟨_, _, _, z, _⟩ | ⟨_, _, _, z, _⟩ <;> cases z
      rw [hps, ← hd, hlv]
    · obtain ⟨G, as, sto, R, h⟩ := h
      rw [un] at h
      have bo := body_ok hN R h
      refine ⟨_, (stmts_ok k).2 (X := L2.cxOf (L2.CX P w) P w K mg base N qual scope a cdv A outer s H E) (g := g) (cf := callF tab n) (Ex := fun c a _ H => E c a H) ⟨⟨rfl, S.nd, hr.mono (Nat.zero_le _), p.bn, p.con, fun f' hf' => ?_, p.dcs, fun σ => ?_⟩, fun _ => rfl, S.kind, ?_⟩ (ok := okOf d.np d.asg) (np := d.np) hc, bo⟩
      · obtain ⟨a', fd', ps', F', hm', hk', hb', _, hkw⟩ := prog_ok (P := P) (w := w) p n f' hf'
        exact ⟨n, a', fd', ps', F' base, hr, hm', hk', hb', hkw⟩
      · exact L2.passAt (L2.takes_of rfl rfl rfl rfl) σ
      · exact L2.passes_of rfl
end TP

set_option Elab.async false
set_option linter.all false
set_option maxRecDepth 100000
set_option maxHeartbeats 4000000
/-! Sal11: the head's facts, the law's end. -/
namespace TP
open PySem PySem.Spec PyProof.Rows
open L2 (V Hp HO Key upd upd_same upd_ne SqL SqT Rd Vals Inv FnOk FunD FnScope Binds)

/-! ### constants of the module -/
mutual
/-- what stands in the module's heap is this value -/
def conB (K : PySem.W.Frag) : PV → Value → Bool
  | .non, .none => true
  | .bl b, .bool c => b == c
  | .int i, .int j _ => decide (i = j)
  | .str x, .str y _ => decide (y = ⟨x.toArray⟩)
  | .tup xs, .ref a => (match K.lookup a with
    | some ⟨.type c, _, .seq its _, _⟩ => decide (c = "tuple") && (decide (its.size ≤ sizeLine) && conBs K xs its.toList)
    | _ => false)
  | .rol xs, .ref a => (match K.lookup a with
    | some ⟨.type c, none, .seq its _, _⟩ => decide (c = "list") && (decide (its.size ≤ sizeLine) && conBs K xs its.toList)
    | _ => false)
  | .glo x, .ref a => decide (PySem.W.nsIn K mainGlobals x = some (some (.ref a)))
  | .ty n, .type m => decide (n = m)
  | _, _ => false
def conBs (K : PySem.W.Frag) : List PV → List Value → Bool
  | [], [] => true
  | x :: xs, u :: us => conB K x u && conBs K xs us
  | _, _ => false
end
section
variable {K : PySem.W.Frag} {h : Heap} {mg : Str → Option Value}
mutual
theorem conB_ok (X : K.In h) (Gn : h.Ns mainGlobals mg) : ∀ {v : PV} {u : Value}, conB K v u = true → ∃ x, L2.RelV x u ∧ ∀ G H, PVR K mg G H v x
  | .non, u, e => by
    cases u with
    | none => exact ⟨.non, rfl, fun _ _ => .non⟩
    | _ => cases e
  | .bl b, u, e => by
    cases u with
    | bool c =>
      have e2 : (b == c) = true := e
      have e3 : b = c := eq_of_beq e2
      subst e3
      exact ⟨.bl b, rfl, fun _ _ => .bl b⟩
    | _ => cases e
  | .int i, u, e => by
    cases u with
    | int j t =>
      have e2 : i = j := of_decide_eq_true e
      subst e2
      exact ⟨.int i, ⟨t, rfl⟩, fun _ _ => .int i⟩
    | _ => cases e
  | .str x, u, e => by
    cases u with
    | str y t =>
      have e2 : y = ⟨x.toArray⟩ := of_decide_eq_true e
      subst e2
      exact ⟨.str _, ⟨t, rfl⟩, fun _ _ => .str x⟩
    | _ => cases e
  | .tup xs, u, e => by
    cases u with
    | ref a =>
      have e2 : (match K.lookup a with
        | some ⟨.type c, _, .seq its _, _⟩ => decide (c = "tuple") && (decide (its.size ≤ sizeLine) && conBs K xs its.toList)
        | _ => false) = true := by unfold conB at e; exact e
      split at e2
      · rename_i c od its n osl q
        simp only [Bool.and_eq_true, decide_eq_true_eq] at e2
        obtain ⟨e3, e4, e5⟩ := e2
        obtain ⟨Vs, hv, hp⟩ := conBs_ok X Gn e5
        exact ⟨.ref a, rfl, fun G H => .tup (.inr ⟨_, its, n, q, congrArg Value.type e3, rfl, e4, hv⟩) (hp G H)⟩
      · cases e2
    | _ => cases e
  | .rol xs, u, e => by
    cases u with
    | ref a =>
      have e2 : (match K.lookup a with
        | some ⟨.type c, none, .seq its _, _⟩ => decide (c = "list") && (decide (its.size ≤ sizeLine) && conBs K xs its.toList)
        | _ => false) = true := by unfold conB at e; exact e
      split at e2
      · rename_i c its n osl q
        simp only [Bool.and_eq_true, decide_eq_true_eq] at e2
        obtain ⟨e3, e4, e5⟩ := e2
        obtain ⟨Vs, hv, hp⟩ := conBs_ok X Gn e5
        exact ⟨.ref a, rfl, fun G H => .rol (.inr ⟨_, its, n, q, congrArg Value.type e3, rfl, rfl, e4, hv⟩) (hp G H)⟩
      · cases e2
    | _ => cases e
  | .glo x, u, e => by
    cases u with
    | ref a =>
      have e2 : PySem.W.nsIn K mainGlobals x = some (some (.ref a)) := of_decide_eq_true e
      exact ⟨.ref a, rfl, fun _ _ => .glo (PySem.W.mg_of X Gn e2)⟩
    | _ => cases e
  | .ty n, u, e => by
    cases u with
    | type m =>
      have e2 : n = m := of_decide_eq_true e
      subst e2
      exact ⟨.ty n, rfl, fun _ _ => .ty n⟩
    | _ => cases e
  | .lst _, u, e => by cases u <;> cases e
  | .dct _ _, u, e => by cases u <;> cases e
  | .ref _, u, e => by cases u <;> cases e
theorem conBs_ok (X : K.In h) (Gn : h.Ns mainGlobals mg) : ∀ {vs : List PV} {us : List Value}, conBs K vs us = true → ∃ xs, Vals xs us ∧ ∀ G H, PVRs K mg G H vs xs
  | [], [], _ => ⟨[], .nil, fun _ _ => .nil⟩
  | [], _ :: _, e => by cases e
  | _ :: _, [], e => by cases e
  | v :: vs, u :: us, e => by
    have e2 : (conB K v u && conBs K vs us) = true := by unfold conBs at e; exact e
    rw [Bool.and_eq_true] at e2
    obtain ⟨x, r, p⟩ := conB_ok X Gn e2.1
    obtain ⟨xs, rs, ps⟩ := conBs_ok X Gn e2.2
    exact ⟨x :: xs, .cons r rs, fun G H => .cons (p G H) (ps G H)⟩
end
end
def conN (K : PySem.W.Frag) (q : Str × PV) : Bool := match PySem.W.nsIn K mainGlobals q.1 with
  | some (some u) => conB K q.2 u
  | _ => false
/-! ### the Hook -/
abbrev Dcs := List (Str × List (List Nat × PV))
def dcA (K : PySem.W.Frag) (x : Str) : Addr := match PySem.W.nsIn K mainGlobals x with
  | some (some (.ref a)) => a
  | _ => 0
def dcB (K : PySem.W.Frag) (q : Str × List (List Nat × PV)) : Bool := decide (PySem.W.nsIn K mainGlobals q.1 = some (some (.ref (dcA K q.1)))) && q.2.all fun r => match PySem.W.nsIn K (dcA K q.1) ⟨r.1.toArray⟩ with
  | some (some u) => conB K r.2 u
  | _ => false
abbrev AlC : Type := He.AlD × Bool × List (Option (List (Option (Str × Int))))
def obsC (fa : List He.Fa) (fn : List He.DefD) (con : List (Str × PV)) (dcs : Dcs) (K : PySem.W.Frag) : AlC := (He.obsD fa fn K, (con.all fun q => conN K q) && dcs.all (fun q => dcB K q), dcs.map fun q => He.dicW K (dcA K q.1))
def valC (fn : List He.DefD) (dcs : Dcs) (w : World) : AlC := (He.valD fn, true, dcs.map fun q => some (He.keysIn w.params (q.2.map fun r => (⟨r.1.toArray⟩ : Str))))
def SaysC (fa : List He.Fa) (fn : List He.DefD) (con : List (Str × PV)) (dcs : Dcs) (w : World) (K : PySem.W.Frag) : Prop := obsC fa fn con dcs K = valC fn dcs w
def obsCG (n : Nat) (fa : List He.Fa) (fn : List He.DefD) (con : List (Str × PV)) (dcs : Dcs) (g : Addr → Option Obj) : AlC := obsC fa fn con dcs (He.frG g (He.asD g n))
def hookC (n : Nat) (fa : List He.Fa) (fn : List He.DefD) (con : List (Str × PV)) (dcs : Dcs) : PySem.W.Hook where
  α := AlC
  obs := fun s => obsCG n fa fn con dcs s.heap.get?
  val := fun w => valC fn dcs w
  says := fun w h => ∃ K : PySem.W.Frag, K.In h ∧ SaysC fa fn con dcs w K
  of := fun _ _ e => ⟨_, He.frG_in, e⟩
  keeps := fun _ _ _ ⟨K, hK, c⟩ k => ⟨K, PySem.W.Frag.In.keeps hK k, c⟩
theorem obsCG_eq {n : Nat} {fa : List He.Fa} {fn : List He.DefD} {con : List (Str × PV)} {dcs : Dcs} {g : Addr → Option Obj} {s : Shared} (h : ∀ a, g a = s.heap.get? a) : obsCG n fa fn con dcs g = (hookC n fa fn con dcs).obs s := by
  have e : g = s.heap.get? := funext h
  rw [e] <;> rfl
section
variable {fa : List He.Fa} {fn : List He.DefD} {con : List (Str × PV)} {dcs : Dcs} {w : World} {K : PySem.W.Frag}
theorem SaysC.d (c : SaysC fa fn con dcs w K) : He.SaysD fa fn K := congrArg (fun z : AlC => z.1) c
theorem SaysC.two (c : SaysC fa fn con dcs w K) : (con.all fun q => conN K q) = true ∧ (dcs.all fun q => dcB K q) = true := by
  have : ((con.all fun q => conN K q) && dcs.all (fun q => dcB K q)) = true := congrArg (fun z : AlC => z.2.1) c
  rw [Bool.and_eq_true] at this
  exact this
theorem SaysC.cn (c : SaysC fa fn con dcs w K) {x : Str} {v : PV} (h : (x, v) ∈ con) : conN K (x, v) = true :=
  List.all_eq_true.mp c.two.1 _ h
theorem SaysC.dc (c : SaysC fa fn con dcs w K) {q : Str × List (List Nat × PV)} (h : q ∈ dcs) : dcB K q = true ∧ ∃ es n, L2.KDict K w (dcA K q.1) es n := by
  refine ⟨List.all_eq_true.mp c.two.2 _ h, ?_⟩
  have e : (dcs.map fun q => He.dicW K (dcA K q.1)) = dcs.map fun q => some (He.keysIn w.params (q.2.map fun r => (⟨r.1.toArray⟩ : Str))) := congrArg (fun z : AlC => z.2.2) c
  exact He.dicW_ok (List.map_inj_left.mp e q h)
end
theorem con_ok {K : PySem.W.Frag} {h : Heap} {mg : Str → Option Value} (X : K.In h) (Gn : h.Ns mainGlobals mg) {x : Str} {v : PV} (c : conN K (x, v) = true) : ∃ u V, mg x = some u ∧ L2.RelV V u ∧ ∀ G H, PVR K mg G H v V := by
  have c : (match PySem.W.nsIn K mainGlobals x with
    | some (some u) => conB K v u
    | _ => false) = true := c
  split at c
  · rename_i u e
    obtain ⟨V, r, p⟩ := conB_ok X Gn c
    exact ⟨u, V, PySem.W.mg_of X Gn e, r, p⟩
  · cases c
theorem lookup_memL {α : Type} {x : List Nat} {v : α} : ∀ {l : List (List Nat × α)}, l.lookup x = some v → (x, v) ∈ l
  | [], h => by cases h
  | (y, w) :: r, h => by
    simp only [List.lookup] at h
    cases e : x == y with
    | true =>
      rw [e] at h
      cases h
      rw [eq_of_beq e]
      exact List.mem_cons_self ..
    | false =>
      rw [e] at h
      exact List.mem_cons_of_mem _ (lookup_memL h)
theorem lookup_mem {α : Type} {x : Str} {v : α} : ∀ {l : List (Str × α)}, l.lookup x = some v → (x, v) ∈ l
  | [], h => by cases h
  | (y, w) :: r, h => by
    simp only [List.lookup] at h
    cases e : x == y with
    | true =>
      rw [e] at h
      cases h
      rw [eq_of_beq e]
      exact List.mem_cons_self ..
    | false =>
      rw [e] at h
      exact List.mem_cons_of_mem _ (lookup_mem h)

theorem dc_ok {w : World} {K : PySem.W.Frag} {h : Heap} {mg : Str → Option Value} (X : K.In h) (Gn : h.Ns mainGlobals mg) {q : Str × List (List Nat × PV)} (c : dcB K q = true) (d : ∃ es n, L2.KDict K w (dcA K q.1) es n) : DcOk K w mg q := by
  unfold dcB at c
  rw [Bool.and_eq_true, decide_eq_true_eq] at c
  obtain ⟨es, n, kd⟩ := d
  refine ⟨dcA K q.1, es, n, PySem.W.mg_of X Gn c.1, kd, fun z v hl => ?_⟩
  have hm := lookup_memL hl
  have c2 := List.all_eq_true.mp c.2 _ hm
  simp only at c2
  split at c2
  · rename_i u e
    obtain ⟨V, r, p⟩ := conB_ok X Gn c2
    exact ⟨u, V, e, r, p⟩
  · cases c2

/-! ### a text as data -/
/-- one def of the text: where its statement stands, its names, its tree -/
structure Df where
  name : Str
  st : Stmt
  N : List Str
  fd : Fd
def Df.args (d : Df) : Arguments := match d.st with
  | .FunctionDef _ a _ _ _ _ _ _ _ _ => a
  | _ => ⟨[], [], none, [], [], none, []⟩
def Df.body (d : Df) : List Stmt := match d.st with
  | .FunctionDef _ _ b _ _ _ _ _ _ _ => b
  | _ => []
def Df.scope (d : Df) : Scope := match d.st with
  | .FunctionDef _ _ _ _ _ _ s _ _ _ => s
  | _ => ⟨.function, [], false, false, []⟩
def Df.defD (d : Df) : He.DefD := ⟨(d.name, none), d.name, d.name, d.args, d.body, d.scope, [], []⟩
/-- what stands beside the defs: constants, calls by keywords, held defs, dicts -/
structure Md where
  con : List (Str × PV) := []
  kps : List KP := []
  hds : List Str := []
  dcs : Dcs := []
def cgOf (ds : List Df) (m : Md) : Cg := ⟨ds.map (·.name), m.con, m.kps, m.hds, m.dcs⟩
def tabOf (ds : List Df) : Tab := ds.map fun d => (d.name, d.fd)
/-- what is to be looked at of one def -/
def Df.ok (g : Cg) (d : Df) : Bool :=
  plainPs d.args (d.N.take d.fd.np) && (decide (d.scope.kind = .function) && (!d.scope.isCoroutine && (!d.scope.isGenerator && (decide d.N.Nodup && ((d.N.take d.fd.np).all (fun x => d.scope.names.lookup x == some .local || d.scope.names.lookup x == some .cell) &&
    (d.scope.names.all (fun y => decide (y.2 ≠ .free)) && (decide (d.N.length = d.fd.ns) && decide (d.fd.np ≤ d.N.length))))))))
def facts (ds : List Df) : List He.Fa := (ds.map fun d => He.Fa.glo d.name) ++ bnames.map He.Fa.free
theorem getP {ds : List Df} {m : Md} {w : World} {K : PySem.W.Frag} {h : Heap} {mg : Str → Option Value} {k : Nat} (X : K.In h) (Gn : h.Ns mainGlobals mg) (c : SaysC (facts ds) (ds.map Df.defD) m.con m.dcs w K)
    (hk : (ds.all fun d => d.ok (cgOf ds m)) = true) (nd : (ds.map (·.name)).Nodup) (hc : ∀ d ∈ ds, cSs (cgOf ds m) d.N (okOf d.fd.np d.fd.asg) k d.scope d.body = some d.fd.body)
    (hkp : ∀ p ∈ m.kps, ∀ d ∈ ds, p.f = d.name → KpOk d.args (d.N.take d.fd.np) p) : Prog w K mg (cgOf ds m) (tabOf ds) := by
  refine ⟨fun b hb => ?_, fun x v e => con_ok X Gn (c.cn (lookup_mem e)), fun f hf => ?_, fun x tb e => ?_⟩
  · have hm : He.Fa.free b ∈ facts ds := List.mem_append_right _ (List.mem_map.mpr ⟨b, hb, rfl⟩)
    obtain ⟨i, hi, ei⟩ := List.mem_iff_getElem.mp hm
    exact He.free_ok X Gn (c.d.fact i (by rw [List.getElem?_eq_getElem hi, ei]))
  · obtain ⟨d, hd, rfl⟩ := List.mem_map.mp (show f ∈ ds.map (·.name) from hf)
    have hm : He.Fa.glo d.name ∈ facts ds := List.mem_append_left _ (List.mem_map.mpr ⟨d, hd, rfl⟩)
    obtain ⟨i, hi, ei⟩ := List.mem_iff_getElem.mp hm
    have hg := He.glo_ok X Gn (c.d.fact i (by rw [List.getElem?_eq_getElem hi, ei]))
    obtain ⟨j, hj, ej⟩ := List.mem_iff_getElem.mp hd
    obtain ⟨fd, F⟩ := c.d.def_ j (d := d.defD) (by rw [List.getElem?_map, List.getElem?_eq_getElem hj, ej]; rfl)
    have ok := List.all_eq_true.mp hk d hd
    unfold Df.ok at ok
    simp only [Bool.and_eq_true, decide_eq_true_eq, Bool.not_eq_true', List.all_eq_true, Bool.or_eq_true, beq_iff_eq] at ok
    obtain ⟨o1, o2, o3, o4, o5, o6, o7, o8, o9⟩ := ok
    have hl : (tabOf ds).lookup d.name = some d.fd := by
      have go : ∀ {l : List Df}, (l.map (·.name)).Nodup → d ∈ l → (l.map fun d => (d.name, d.fd)).lookup d.name = some d.fd := by
        intro l
        induction l with
        | nil => intro _ h; cases h
        | cons e r ih =>
          intro nd h
          obtain ⟨n1, n2⟩ := List.nodup_cons.mp nd
          simp only [List.map_cons, List.lookup]
          rcases List.mem_cons.mp h with z | z
          · subst z; simp
          · have ne : (d.name == e.name) = false := by
              rw [beq_eq_false_iff_ne]
              intro q
              exact n1 (List.mem_map.mpr ⟨d, z, q⟩)
            rw [ne]
            exact ih n2 z
      exact go nd hd
    have hlen : (d.N.take d.fd.np).length = d.fd.np := by rw [List.length_take]; omega
    exact ⟨d.fd, d.name, d.args, d.body, d.scope, [], _, fd, d.N, d.N.take d.fd.np, k, hl, F, hg, o1, ⟨o2, o3, o4, o5, by rw [hlen], fun x hx => o6 x hx, fun y hy => o7 y hy⟩, o8, hlen, hc d hd, fun p hp e => hkp p hp d hd e⟩
  · obtain ⟨d1, d2⟩ := c.dc (lookup_mem e)
    exact dc_ok X Gn d1 d2
abbrev Only' (H : Hp) : Prop := L2.Only H
theorem ints_pv {K : PySem.W.Frag} {mg : Str → Option Value} {G : Gh} {H : Hp} : ∀ ns : List Int, PVRs K mg G H (ns.map PV.int) (ns.map V.int)
  | [] => .nil
  | n :: ns => .cons (.int n) (ints_pv ns)
theorem cx_no {P : Program} {w : World} {H : Hp} {s : Shared} {e : Value} {s' : Shared} (h : L2.CX P w [] H s (fun _ _ _ => False) e s') : False := by
  obtain ⟨_, _, _, _, _, _, _, _, _, _, _, _, z⟩ := h
  exact z
/-- THE END: the law's def tells True of each script -/
theorem end_ok {l : PySem.W.OpenLaw} {q : Program} {loose : List Str} {XP : (Str → Option Value) → Heap → Prop} {d : DefRec} {ds : List Df} {m : Md} {k n : Nat} {dL : Df} (hm : l.most = some 63) (hdf : d.params.defaults = []) (hdn : d.name = dL.name) (hL : dL ∈ ds)
    (hr : L2.Room n callerA) (hk : (ds.all fun d => d.ok (cgOf ds m)) = true) (nd : (ds.map (·.name)).Nodup) (hc : ∀ d ∈ ds, cSs (cgOf ds m) d.N (okOf d.fd.np d.fd.asg) k d.scope d.body = some d.fd.body)
    (hkp : ∀ p ∈ m.kps, ∀ d ∈ ds, p.f = d.name → KpOk d.args (d.N.take d.fd.np) p)
    (hw : ∀ ns : List Int, ns.length ≤ 63 → ∃ fin sto, callF (tabOf ds) n dL.name [.val (.rol (ns.map PV.int))] [] = .ok (.sh (.bl true)) fin sto) :
    PySem.W.WalkO q loose XP (fun w h => (hookC 4 (facts ds) (ds.map Df.defD) m.con m.dcs).says w h) l.row.toRowW d [] (fun f vs => PySem.call f vs) := by
  refine Att.attach_call hm hdf fun w s₀ s₁ mg mb fa o pm cd doc a vs ns G Y ho hd hcd hmg hobj hints hlen hg => ?_
  obtain ⟨K, KX, c⟩ := Y
  have p := getP KX G.T.g c hk nd hc hkp
  have hf : dL.name ∈ (cgOf ds m).fns := List.mem_map.mpr ⟨dL, hL, rfl⟩
  obtain ⟨fa', fd, ps, F, hm', hkp', hb, hb2, _⟩ := prog_ok (P := l.prog) (w := w) p n dL.name hf
  rw [hdn] at hmg
  rw [hm'] at hmg
  cases hmg
  have promise : ∀ H : Hp, Only' H → SqL K H a (ns.map V.int) → spF K mg (callF (tabOf ds) n) dL.name [.ref a] H (fun v _ => v = .bl true) fun _ _ _ => False := fun H hO hS => by
    obtain ⟨fin, sto, e⟩ := hw ns hlen
    refine ⟨fun _ => .free, [.val (.rol (ns.map PV.int))], [], ?_, .inl ⟨_, fin, sto, e, fun G' H' x R st rv => ?_⟩⟩
    · refine ⟨rfl, fun j sl ej => ?_, fun l so ej => ?_, fun a b l h => ?_, fun a h => absurd rfl h, fun a l h => ?_⟩
      · cases j with
        | succ j => simp at ej
        | zero =>
          simp at ej
          subst ej
          refine ⟨.ref a, rfl, .rol ?_ (ints_pv ns)⟩
          rcases hS with hS | hS
          · rcases hS with hS | hS
            · rcases hO a with z | ⟨o, xs, z⟩ <;> (rw [z] at hS; cases hS)
            · exact .inl hS
          · exact .inr hS
      · simp at ej
      · cases h
      · cases h
    · cases rv
      rfl
  have one : ps.length = 1 := by
    have q := (F s₁.heap).len _ _ _ _ (promise (upd (fun _ => none) a (.frz default (.lst (ns.map V.int)))) (fun b => ?_) (.inl (.inr ⟨_, upd_same⟩)))
    · exact q.symm
    · by_cases hb : b = a
      · subst hb; exact .inr ⟨_, _, upd_same⟩
      · rw [upd_ne hb]; exact .inl rfl
  match ps, one with
  | [x], _ => exact L2.law_call (x := x) KX G.T.g G.T.b G.T.builtins G.T.nolimit hg hobj hints (Nat.le_trans hlen (by decide)) hr (fd := fd) (sp := spF K mg (callF (tabOf ds) n) dL.name) (CX := L2.CX l.prog w) (fun base hK hN => F base) (fun s u => hb2 s [u] rfl) (fun H hO hS => promise H hO hS) (fun H e s' h => cx_no h)
end TP

set_option Elab.async false
set_option linter.all false
set_option maxRecDepth 100000
set_option maxHeartbeats 4000000
/-! Kl1: what a run asks, as propositions that are rewritten from the head. -/
namespace TP
open PySem
universe u
/-- what a place of rewriting must not enter -/
abbrev Fx {α : Sort u} (a : α) : Type := Unit
def Wp {α : Type} (r : Res α) (Q : α → SS → Prop) (X : PV → SS → Prop) : Prop := match r with
  | .ok a s => Q a s
  | .exc x s => X x s
  | .bad => False
def WC (r : CR) (Q : RV → List Sl → List SO → Prop) (X : PV → List Sl → List SO → Prop) (h : Fx (Q, X) := ()) : Prop := match r with
  | .ok a f s => Q a f s
  | .exc x f s => X x f s
  | .bad => False
theorem Wp_bind {α β : Type} {r : Res α} {f : α → SS → Res β} {Q : β → SS → Prop} {X : PV → SS → Prop} : Wp (r.bind f) Q X = Wp r (fun a s => Wp (f a s) Q X) X := by
  cases r <;> rfl
theorem WC_ok {a : RV} {f : List Sl} {s : List SO} {Q : RV → List Sl → List SO → Prop} {X : PV → List Sl → List SO → Prop} : WC (.ok a f s) Q X = Q a f s := rfl
theorem WC_exc {a : PV} {f : List Sl} {s : List SO} {Q : RV → List Sl → List SO → Prop} {X : PV → List Sl → List SO → Prop} : WC (.exc a f s) Q X = X a f s := rfl
def wE (cf : CF) (e : E) (s : SS) (Q : RV → SS → Prop) (X : PV → SS → Prop) (h : Fx (cf, e, Q, X) := ()) : Prop := Wp (evalE cf e s) Q X
def wEs (cf : CF) (e : List E) (s : SS) (Q : List RV → SS → Prop) (X : PV → SS → Prop) (h : Fx (cf, e, Q, X) := ()) : Prop := Wp (evalEs cf e s) Q X
def wI (cf : CF) (e : I) (s : SS) (Q : List PV → SS → Prop) (X : PV → SS → Prop) (h : Fx (cf, e, Q, X) := ()) : Prop := Wp (evalI cf e s) Q X
def wS (cf : CF) (np : Nat) (b : List S) (s : SS) (Q : Fl → SS → Prop) (X : PV → SS → Prop) (h : Fx (cf, np, b, Q, X) := ()) : Prop := Wp (execSs cf np b s) Q X
/-! what stands between -/
/-- a content, then -/
def oK {α : Type} (o : Option α) (Q : α → Prop) (h : Fx Q := ()) : Prop := match o with
  | some a => Q a
  | none => False
theorem oK_some {α : Type} {a : α} {Q : α → Prop} : oK (some a) Q = Q a := rfl
theorem oK_ex {α : Type} {o : Option α} {a : α} {Q : α → Prop} (h : o = some a) : oK o Q = Q a := by rw [h]; rfl
def varK (i : Nat) (s : SS) (Q : RV → SS → Prop) (o : Option Sl) (h : Fx (i, s, Q) := ()) : Prop := match o with
  | some (.val v) => Q (.sh v) s
  | some (.own _) => Q (.hd i) s
  | _ => False
theorem varK_val {i : Nat} {s : SS} {Q : RV → SS → Prop} {v : PV} : varK i s Q (some (.val v)) = Q (.sh v) s := rfl
theorem varK_own {i : Nat} {s : SS} {Q : RV → SS → Prop} {v : PV} : varK i s Q (some (.own v)) = Q (.hd i) s := rfl
/-- an operation on contents -/
def P1 (p : P) (s : SS) (Q : RV → SS → Prop) (a : Option PV) (h : Fx (p, s, Q) := ()) : Prop := oK a fun x => oK (primSem p [x]) fun r => Q r s
def P2 (p : P) (s : SS) (Q : RV → SS → Prop) (a b : Option PV) (h : Fx (p, s, Q) := ()) : Prop := oK a fun x => oK b fun y => oK (primSem p [x, y]) fun r => Q r s
/-- a branch -/
def BR (o : Option Bool) (A B : Prop) (h : Fx (A, B) := ()) : Prop := match o with
  | some true => A
  | some false => B
  | none => False
theorem BR_t {A B : Prop} : BR (some true) A B = A := rfl
theorem BR_f {A B : Prop} : BR (some false) A B = B := rfl
theorem BR_d {p : Prop} [inst : Decidable p] {A B : Prop} : BR (some (decide p)) A B = ((p → A) ∧ (¬ p → B)) := by
  by_cases h : p <;> simp [BR, h]
theorem BR_b {b : Bool} {A B : Prop} : BR (some b) A B = ((b = true → A) ∧ (b = false → B)) := by
  cases b <;> simp [BR]
section
variable {cf : CF} {s : SS} {np : Nat} {env : List Sl} {sto : List SO} {Q : RV → SS → Prop} {X : PV → SS → Prop}
theorem wE_var {i : Nat} : wE cf (.var i) s Q X = varK i s Q (s.env[i]?) := by
  unfold wE
  simp only [evalE]
  cases s.env[i]? with
  | none => rfl
  | some x => cases x <;> rfl
theorem wE_con {v : PV} : wE cf (.con v) s Q X = Q (.sh v) s := by
  unfold wE; simp only [evalE]; rfl
theorem wE_dead : wE cf .dead s Q X = False := by
  unfold wE; simp only [evalE]; rfl
theorem wEs_nil {Q : List RV → SS → Prop} : wEs cf [] s Q X = Q [] s := by
  unfold wEs; simp only [evalEs]; rfl
theorem wEs_cons {e : E} {es : List E} {Q : List RV → SS → Prop} : wEs cf (e :: es) s Q X = wE cf e s (fun r s1 => wEs cf es s1 (fun rs s2 => Q (r :: rs) s2) X) X := by
  unfold wEs wE
  simp only [evalEs, Wp_bind]
  rfl
theorem wE_prim1 {p : P} {a : E} : wE cf (.prim p [a]) s Q X = wE cf a s (fun r s1 => P1 p s1 Q (cont s1 r)) X := by
  unfold wE
  simp only [evalE, evalEs, Wp_bind]
  congr 1
  funext r s1
  simp only [Wp, conts, P1]
  cases cont s1 r with
  | none => rfl
  | some c =>
    show _ = oK (primSem p [c]) fun r => Q r s1
    simp only
    cases primSem p [c] <;> rfl
theorem wE_prim2 {p : P} {a b : E} : wE cf (.prim p [a, b]) s Q X = wE cf a s (fun r s1 => wE cf b s1 (fun t s2 => P2 p s2 Q (cont s2 r) (cont s2 t)) X) X := by
  unfold wE
  simp only [evalE, evalEs, Wp_bind]
  congr 1
  funext r s1
  congr 1
  funext t s2
  simp only [Wp, conts, P2]
  cases cont s2 r with
  | none => rfl
  | some c =>
    cases cont s2 t with
    | none => rfl
    | some d =>
      show _ = oK (primSem p [c, d]) fun r => Q r s2
      simp only
      cases primSem p [c, d] <;> rfl

/-- a text's method -/
def SM (p : P) (s : SS) (Q : RV → SS → Prop) (z : PV) (b : Option PV) (h : Fx (p, s, Q, z) := ()) : Prop := oK b fun y => oK (primSem p [z, y]) fun r => Q r s
def strK (K : PV → Prop) (o : Option PV) (h : Fx K := ()) : Prop := match o with
  | some (.str z) => K (.str z)
  | _ => False
theorem strK_s {K : PV → Prop} {z : List Nat} : strK K (some (.str z)) = K (.str z) := rfl
theorem wE_sm {p : P} {t e : E} : wE cf (.sm p t e) s Q X = wE cf t s (fun r s1 => strK (fun z => wE cf e s1 (fun r2 s2 => SM p s2 Q z (cont s2 r2)) X) (cont s1 r)) X := by
  unfold wE
  simp only [evalE, Wp_bind]
  congr 1
  funext r s1
  cases h : cont s1 r with
  | none => rfl
  | some c =>
    cases c with
    | str z =>
      show Wp _ Q X = Wp _ _ X
      rw [Wp_bind]
      congr 1
      funext r2 s2
      unfold SM
      cases cont s2 r2 with
      | none => rfl
      | some d =>
        show _ = oK (primSem p [.str z, d]) fun r => Q r s2
        simp only
        cases primSem p [.str z, d] <;> rfl
    | _ => rfl
def dixK (tb : List (List Nat × PV)) (s : SS) (Q : RV → SS → Prop) (o : Option PV) (h : Fx (tb, s, Q) := ()) : Prop := match o with
  | some (.str z) => oK (tb.lookup z) fun v => Q (.sh v) s
  | _ => False
theorem dixK_s {tb : List (List Nat × PV)} {s : SS} {Q : RV → SS → Prop} {z : List Nat} : dixK tb s Q (some (.str z)) = oK (tb.lookup z) fun v => Q (.sh v) s := rfl
theorem wE_didx {x : Str} {tb : List (List Nat × PV)} {e : E} : wE cf (.didx x tb e) s Q X = wE cf e s (fun r s1 => dixK tb s1 Q (cont s1 r)) X := by
  unfold wE
  simp only [evalE, Wp_bind]
  congr 1
  funext r s1
  cases h : cont s1 r with
  | none => rfl
  | some c =>
    cases c with
    | str z =>
      show _ = oK (tb.lookup z) fun v => Q (.sh v) s1
      simp only
      cases tb.lookup z <;> rfl
    | _ => rfl
/-- a test's outcome -/
def TS (s : SS) (r : RV) (K : Option Bool → Prop) (h : Fx (s, r, K) := ()) : Prop := K (testR s r)
theorem TS_bl {b : Bool} {K : Option Bool → Prop} : TS s (.sh (.bl b)) K = K (some b) := rfl
theorem wE_not {a : E} : wE cf (.not a) s Q X = wE cf a s (fun r s1 => TS s1 r fun t => oK t fun b => Q (.sh (.bl (!b))) s1) X := by
  unfold wE
  simp only [evalE, Wp_bind]
  congr 1
  funext r s1
  unfold TS
  cases testR s1 r <;> rfl
theorem wE_and1 {a : E} : wE cf (.and [a]) s Q X = wE cf a s Q X := by
  unfold wE; simp only [evalE, evalAnd]
theorem wE_and {a b : E} {es : List E} : wE cf (.and (a :: b :: es)) s Q X = wE cf a s (fun r s1 => TS s1 r fun t => BR t (wE cf (.and (b :: es)) s1 Q X) (Q (.sh (.bl false)) s1)) X := by
  unfold wE
  simp only [evalE, evalAnd, Wp_bind]
  congr 1
  funext r s1
  unfold TS
  cases testR s1 r with
  | none => rfl
  | some t => cases t <;> rfl
theorem wE_or1 {a : E} : wE cf (.or [a]) s Q X = wE cf a s Q X := by
  unfold wE; simp only [evalE, evalOr]
theorem wE_or {a b : E} {es : List E} : wE cf (.or (a :: b :: es)) s Q X = wE cf a s (fun r s1 => TS s1 r fun t => BR t (Q (.sh (.bl true)) s1) (wE cf (.or (b :: es)) s1 Q X)) X := by
  unfold wE
  simp only [evalE, evalOr, Wp_bind]
  congr 1
  funext r s1
  unfold TS
  cases testR s1 r with
  | none => rfl
  | some t => cases t <;> rfl
theorem wE_ite {c a b : E} : wE cf (.ite c a b) s Q X = wE cf c s (fun r s1 => TS s1 r fun t => BR t (wE cf a s1 Q X) (wE cf b s1 Q X)) X := by
  unfold wE
  simp only [evalE, Wp_bind]
  congr 1
  funext r s1
  unfold TS
  cases testR s1 r with
  | none => rfl
  | some t => cases t <;> rfl
/-- a op b op c -/
def C2k (A B : Prop) (o : Option RV) (h : Fx (A, B) := ()) : Prop := match o with
  | some (.sh (.bl true)) => A
  | some (.sh (.bl false)) => B
  | _ => False
def C2 (p : P) (a b : Option PV) (A B : Prop) (h : Fx (p, A, B) := ()) : Prop := oK a fun x => oK b fun y => C2k A B (primSem p [x, y])
theorem wE_chain {p q : P} {a b c : E} : wE cf (.chain p q a b c) s Q X = wE cf a s (fun ra s1 => wE cf b s1 (fun rb s2 => C2 p (cont s2 ra) (cont s2 rb) (wE cf c s2 (fun rc s3 => P2 q s3 Q (cont s3 rb) (cont s3 rc)) X) (Q (.sh (.bl false)) s2)) X) X := by
  unfold wE
  simp only [evalE, Wp_bind]
  congr 1
  funext ra s1
  congr 1
  funext rb s2
  unfold C2
  simp only [conts]
  cases cont s2 ra with
  | none => rfl
  | some x =>
    cases cont s2 rb with
    | none => rfl
    | some y =>
      simp only [oK_some]
      cases h : primSem p [x, y] with
      | none => rfl
      | some r =>
        cases r with
        | sh v =>
          cases v with
          | bl t =>
            cases t with
            | false => rfl
            | true =>
              show Wp _ Q X = Wp _ _ X
              rw [Wp_bind]
              congr 1
              funext rc s3
              unfold P2
              cases cont s3 rb with
              | none => rfl
              | some y2 =>
                cases cont s3 rc with
                | none => rfl
                | some z =>
                  show _ = oK (primSem q [y2, z]) fun r => Q r s3
                  simp only
                  cases primSem q [y2, z] <;> rfl
          | _ => rfl
        | _ => rfl
/-- values that are kept -/
def KPs (s : SS) (rs : List RV) (K : List PV → SS → Prop) : Prop := match rs with
  | [] => K [] s
  | r :: rs => oK (keep s r) fun q => KPs q.2 rs fun vs s2 => K (q.1 :: vs) s2
theorem KPs_eq {rs : List RV} : ∀ {s : SS} {K : List PV → SS → Prop}, KPs s rs K = oK (keeps s rs) fun q => K q.1 q.2 := by
  induction rs with
  | nil => intro s K; rfl
  | cons r rs ih =>
    intro s K
    simp only [KPs, keeps]
    cases keep s r with
    | none => rfl
    | some q =>
      obtain ⟨v, s1⟩ := q
      simp only [oK_some]
      rw [ih]
      cases keeps s1 rs with
      | none => rfl
      | some q2 => rfl
theorem KPs_nil {K : List PV → SS → Prop} : KPs s [] K = K [] s := rfl
theorem KPs_cons {r : RV} {rs : List RV} {K : List PV → SS → Prop} : KPs s (r :: rs) K = oK (keep s r) fun q => KPs q.2 rs fun vs s2 => K (q.1 :: vs) s2 := rfl
theorem keep_sh {v : PV} : keep s (.sh v) = some (v, s) := rfl
theorem keep_fr {v : PV} : keep s (.fr v) = some (v, s) := rfl
def keepH (i : Nat) (s : SS) : Option Sl → Option (PV × SS)
  | some (.val v) => some (v, s)
  | some (.own o) => some (o, { s with env := s.env.set i (.val o) })
  | _ => none
theorem keep_hd {i : Nat} : keep ⟨env, sto⟩ (.hd i) = keepH i ⟨env, sto⟩ (env[i]?) := by
  simp only [keep]
  cases env[i]? with
  | none => rfl
  | some x => cases x <;> rfl
theorem keepH_val {i : Nat} {v : PV} : keepH i s (some (.val v)) = some (v, s) := rfl
theorem keepH_own {i : Nat} {v : PV} : keepH i ⟨env, sto⟩ (some (.own v)) = some (v, ⟨env.set i (.val v), sto⟩) := rfl
theorem wE_tup {es : List E} (h : es.length ≤ szL := by decide) : wE cf (.tup es) s Q X = wEs cf es s (fun rs s1 => KPs s1 rs fun vs s2 => Q (.sh (.tup vs)) s2) X := by
  unfold wE wEs
  simp only [evalE, Wp_bind]
  cases h1 : evalEs cf es s with
  | bad => rfl
  | exc _ _ => rfl
  | ok rs s1 =>
    simp only [Wp]
    have hl : rs.length ≤ szL := by rw [evalEs_ln h1]; exact h
    rw [if_pos hl, KPs_eq]
    cases keeps s1 rs with
    | none => rfl
    | some q => rfl
theorem wE_list {es : List E} (h : es.length ≤ szL := by decide) : wE cf (.list es) s Q X = wEs cf es s (fun rs s1 => KPs s1 rs fun vs s2 => Q (.fr (.lst vs)) s2) X := by
  unfold wE wEs
  simp only [evalE, Wp_bind]
  cases h1 : evalEs cf es s with
  | bad => rfl
  | exc _ _ => rfl
  | ok rs s1 =>
    simp only [Wp]
    have hl : rs.length ≤ szL := by rw [evalEs_ln h1]; exact h
    rw [if_pos hl, KPs_eq]
    cases keeps s1 rs with
    | none => rfl
    | some q => rfl
theorem wE_call {f : Str} {es : List E} : wE cf (.call f es) s Q X = wEs cf es s (fun rs s1 => oK (argsOf s1 [] rs) fun as => WC (cf f as s1.sto) (fun r fin sto => Q r ⟨backE s1.env rs as fin, sto⟩) (fun x fin sto => X x ⟨backE s1.env rs as fin, sto⟩)) X := by
  unfold wE wEs
  simp only [evalE, Wp_bind]
  congr 1
  funext rs s1
  simp only [callE]
  cases argsOf s1 [] rs with
  | none => rfl
  | some as =>
    simp only [oK_some]
    cases cf f as s1.sto <;> rfl
theorem wE_callK {f : Str} {es : List E} {pm : List (Sum Nat PV)} : wE cf (.callK f es pm) s Q X = wEs cf es s (fun rs s1 => oK (permR rs pm) fun qs => oK (argsOf s1 [] qs) fun as => WC (cf f as s1.sto) (fun r fin sto => Q r ⟨backE s1.env qs as fin, sto⟩) (fun x fin sto => X x ⟨backE s1.env qs as fin, sto⟩)) X := by
  unfold wE wEs
  simp only [evalE, Wp_bind]
  congr 1
  funext rs s1
  cases permR rs pm with
  | none => rfl
  | some qs =>
    simp only [oK_some, callE]
    cases argsOf s1 [] qs with
    | none => rfl
    | some as =>
      simp only [oK_some]
      cases cf f as s1.sto <;> rfl
def gloK (fs : List Str) (K : Str → Prop) (o : Option Sl) (h : Fx (fs, K) := ()) : Prop := match o with
  | some (.val (.glo f)) => if fs.contains f then K f else False
  | _ => False
theorem gloK_v {fs : List Str} {K : Str → Prop} {f : Str} (h : fs.contains f = true) : gloK fs K (some (.val (.glo f))) = K f := by
  simp only [gloK, h, if_true]
theorem wE_callL {i : Nat} {fs : List Str} {es : List E} : wE cf (.callL i fs es) s Q X = gloK fs (fun f => wEs cf es s (fun rs s1 => oK (argsOf s1 [] rs) fun as => WC (cf f as s1.sto) (fun r fin sto => Q r ⟨backE s1.env rs as fin, sto⟩) (fun x fin sto => X x ⟨backE s1.env rs as fin, sto⟩)) X) (s.env[i]?) := by
  unfold wE
  simp only [evalE]
  cases s.env[i]? with
  | none => rfl
  | some x =>
    cases x with
    | val v =>
      cases v with
      | glo f =>
        simp only [gloK]
        split
        · have := wE_call (cf := cf) (s := s) (Q := Q) (X := X) (f := f) (es := es)
          unfold wE at this
          simp only [evalE] at this
          exact this
        · rfl
      | _ => rfl
    | _ => rfl
/-- a deed -/
def MU (m : M) (r : RV) (s : SS) (Q : RV → SS → Prop) (vs : List PV) (h : Fx (m, r, s, Q, vs) := ()) : Prop := oK (cont s r) fun o => oK (mutSem m o vs) fun q => oK (putBack r q.1 s) fun s4 => Q (.sh q.2) s4
theorem wE_mut {m : M} {t : E} {es : List E} : wE cf (.mut m t es) s Q X = wE cf t s (fun r s1 => BR (some (mutTy m (cont s1 r))) (wEs cf es s1 (fun rs s2 => KPs s2 rs fun vs s3 => MU m r s3 Q vs) X) False) X := by
  unfold wE wEs
  simp only [evalE, Wp_bind]
  congr 1
  funext r s1
  cases mutTy m (cont s1 r) with
  | false => rfl
  | true =>
    simp only [Bool.true_eq_false, if_false, Wp_bind]
    show _ = Wp _ _ X
    congr 1
    funext rs s2
    rw [KPs_eq]
    cases keeps s2 rs with
    | none => rfl
    | some q =>
      obtain ⟨vs, s3⟩ := q
      simp only [oK_some, MU]
      cases cont s3 r with
      | none => rfl
      | some o =>
        simp only [oK_some]
        cases mutSem m o vs with
        | none => rfl
        | some q =>
          obtain ⟨o', v⟩ := q
          simp only [oK_some]
          cases putBack r o' s3 <;> rfl
theorem wE_slice {a lo hi : E} : wE cf (.slice a lo hi) s Q X = wE cf a s (fun ra s1 => wE cf lo s1 (fun rl s2 => oK (bndOf s2 (isAbs lo) rl) fun l => wE cf hi s2 (fun rh s3 => oK (bndOf s3 (isAbs hi) rh) fun h => oK (cont s3 ra) fun c => oK (slSem l h c) fun r => Q r s3) X) X) X := by
  unfold wE
  simp only [evalE, Wp_bind]
  congr 1
  funext ra s1
  congr 1
  funext rl s2
  cases bndOf s2 (isAbs lo) rl with
  | none => rfl
  | some l =>
    simp only [oK_some, Wp_bind]
    show Wp _ _ X = Wp _ _ X
    congr 1
    funext rh s3
    cases bndOf s3 (isAbs hi) rh with
    | none => rfl
    | some h =>
      simp only [oK_some]
      cases cont s3 ra with
      | none => rfl
      | some c =>
        simp only [oK_some]
        cases slSem l h c <;> rfl
/-- a comprehension's turns -/
def LC (cf : CF) (elt : E) (t : T) (cs : List E) (own : List Nat) (Q : RV → SS → Prop) (xs : List PV) (s : SS) (h : Fx (cf, elt, t, cs, own, Q, xs) := ()) : Prop :=
  ownSlots s.env own = false ∧ Wp (lcLoop own (lcTurn cf elt t cs) xs [] s) (fun ys s7 => Q (.fr (.lst ys)) { s7 with env := restS s.env s7.env own }) fun _ _ => False
theorem wE_lc {elt : E} {t : T} {it : I} {cs : List E} {own : List Nat} : wE cf (.lc elt t it cs own) s Q X = wI cf it s (fun xs s1 => LC cf elt t cs own Q xs s1) X := by
  unfold wE wI
  rw [evalE_lc, Wp_bind]
  congr 1
  funext xs s1
  unfold LC
  cases h : ownSlots s1.env own with
  | true => simp [Wp]
  | false =>
    simp only [Bool.false_eq_true, if_false, true_and, Wp_bind]
    cases lcLoop own (lcTurn cf elt t cs) xs [] s1 <;> rfl
/-! what loops go through -/
def itK (Q : List PV → SS → Prop) (s : SS) (o : Option (List PV)) (h : Fx (Q, s) := ()) : Prop := match o with
  | some xs => Q xs s
  | none => False
theorem itK_s {Q : List PV → SS → Prop} {xs : List PV} : itK Q s (some xs) = Q xs s := rfl
theorem wI_of {e : E} {Q : List PV → SS → Prop} : wI cf (.of e) s Q X = wE cf e s (fun r s1 => oK (keep s1 r) fun q => itK Q q.2 (itemsOf q.1)) X := by
  unfold wI wE
  simp only [evalI, Wp_bind]
  congr 1
  funext r s1
  cases keep s1 r with
  | none => rfl
  | some q =>
    obtain ⟨v, s2⟩ := q
    simp only [oK_some]
    cases itemsOf v <;> rfl
def rgK (Q : List PV → SS → Prop) (s : SS) (o : Option PV) (h : Fx (Q, s) := ()) : Prop := match o with
  | some (.int n) => (-(2 ^ 62) ≤ n ∧ n < 2 ^ 62) ∧ Q (rangeL 0 n.toNat) s
  | _ => False
theorem rgK_i {Q : List PV → SS → Prop} {n : Int} : rgK Q s (some (.int n)) = ((-(2 ^ 62) ≤ n ∧ n < 2 ^ 62) ∧ Q (rangeL 0 n.toNat) s) := rfl
theorem wI_range1 {e : E} {Q : List PV → SS → Prop} : wI cf (.range [e]) s Q X = wE cf e s (fun r s1 => rgK Q s1 (cont s1 r)) X := by
  unfold wI wE
  simp only [evalI, evalEs, Wp_bind]
  congr 1
  funext r s1
  simp only [Wp, conts]
  cases cont s1 r with
  | none => rfl
  | some c =>
    cases c with
    | int n =>
      simp only [rgK]
      by_cases h : -(2 ^ 62) ≤ n ∧ n < 2 ^ 62
      · rw [if_pos h]
        exact propext ⟨fun z => ⟨h, z⟩, fun z => z.2⟩
      · rw [if_neg h]
        exact propext ⟨fun z => z.elim, fun z => (h z.1).elim⟩
    | _ => rfl
def rg2K (Q : List PV → SS → Prop) (s : SS) (o o2 : Option PV) (h : Fx (Q, s) := ()) : Prop := match o, o2 with
  | some (.int a), some (.int b) => ((-(2 ^ 62) ≤ a ∧ a < 2 ^ 62) ∧ (-(2 ^ 62) ≤ b ∧ b < 2 ^ 62)) ∧ Q (rangeL a (b - a).toNat) s
  | _, _ => False
theorem rg2K_i {Q : List PV → SS → Prop} {a b : Int} : rg2K Q s (some (.int a)) (some (.int b)) = (((-(2 ^ 62) ≤ a ∧ a < 2 ^ 62) ∧ (-(2 ^ 62) ≤ b ∧ b < 2 ^ 62)) ∧ Q (rangeL a (b - a).toNat) s) := rfl
theorem wI_range2 {e f : E} {Q : List PV → SS → Prop} : wI cf (.range [e, f]) s Q X = wE cf e s (fun r s1 => wE cf f s1 (fun t s2 => rg2K Q s2 (cont s2 r) (cont s2 t)) X) X := by
  unfold wI wE
  simp only [evalI, evalEs, Wp_bind]
  congr 1
  funext r s1
  congr 1
  funext t s2
  simp only [Wp, conts]
  cases cont s2 r with
  | none => rfl
  | some c =>
    cases cont s2 t with
    | none => cases c <;> rfl
    | some d =>
      cases c with
      | int a =>
        cases d with
        | int b =>
          simp only [rg2K]
          by_cases h : (-(2 ^ 62) ≤ a ∧ a < 2 ^ 62) ∧ (-(2 ^ 62) ≤ b ∧ b < 2 ^ 62)
          · rw [if_pos h]
            exact propext ⟨fun z => ⟨h, z⟩, fun z => z.2⟩
          · rw [if_neg h]
            exact propext ⟨fun z => z.elim, fun z => (h z.1).elim⟩
        | _ => rfl
      | _ => cases d <;> rfl
def enumOf : PV → Option (List PV)
  | .lst xs => some (enumL 0 xs)
  | _ => none
theorem wI_enum {e : E} {Q : List PV → SS → Prop} : wI cf (.enum e) s Q X = wE cf e s (fun r s1 => oK (keep s1 r) fun q => itK Q q.2 (enumOf q.1)) X := by
  unfold wI wE
  simp only [evalI, Wp_bind]
  congr 1
  funext r s1
  cases keep s1 r with
  | none => rfl
  | some q =>
    obtain ⟨v, s2⟩ := q
    cases v <;> rfl
def revOf : PV → Option (List PV)
  | .lst xs => some xs.reverse
  | .tup xs => some xs.reverse
  | _ => none
theorem wI_rev {e : E} {Q : List PV → SS → Prop} : wI cf (.rev e) s Q X = wE cf e s (fun r s1 => oK (keep s1 r) fun q => itK Q q.2 (revOf q.1)) X := by
  unfold wI wE
  simp only [evalI, Wp_bind]
  congr 1
  funext r s1
  cases keep s1 r with
  | none => rfl
  | some q =>
    obtain ⟨v, s2⟩ := q
    cases v <;> rfl
def zipOf : List PV → Option (List PV)
  | [.lst xs, .lst ys] => some ((xs.zip ys).map fun p => .tup [p.1, p.2])
  | [.tup xs, .tup ys] => some ((xs.zip ys).map fun p => .tup [p.1, p.2])
  | _ => none
theorem wI_zip {e f : E} {Q : List PV → SS → Prop} : wI cf (.zip e f) s Q X = wE cf e s (fun r s1 => wE cf f s1 (fun t s2 => KPs s2 [r, t] fun vs s3 => itK Q s3 (zipOf vs)) X) X := by
  unfold wI wE
  simp only [evalI, Wp_bind]
  congr 1
  funext r s1
  congr 1
  funext t s2
  rw [KPs_eq]
  cases h : keeps s2 [r, t] with
  | none => rfl
  | some q =>
    obtain ⟨vs, s3⟩ := q
    simp only [oK_some]
    match vs with
    | [] => rfl
    | [a] => cases a <;> rfl
    | [a, b] => cases a <;> cases b <;> rfl
    | a :: b :: c :: d => cases a <;> cases b <;> rfl
/-! statements -/
/-- behind a statement: R, or the end -/
def nxt (R : SS → Prop) (Qf : Fl → SS → Prop) : Fl → SS → Prop
  | .nx, s => R s
  | f, s => Qf f s
/-- behind a turn: W goes on, R behind the loop -/
def lpQ (W R : SS → Prop) (Qf : Fl → SS → Prop) : Fl → SS → Prop
  | .nx, s => W s
  | .ct, s => W s
  | .br, s => R s
  | .rt r, s => Qf (.rt r) s
theorem nxt_nx {R : SS → Prop} {Qf : Fl → SS → Prop} : nxt R Qf .nx s = R s := rfl
theorem nxt_br {R : SS → Prop} {Qf : Fl → SS → Prop} : nxt R Qf .br s = Qf .br s := rfl
theorem nxt_ct {R : SS → Prop} {Qf : Fl → SS → Prop} : nxt R Qf .ct s = Qf .ct s := rfl
theorem nxt_rt {r : RV} {R : SS → Prop} {Qf : Fl → SS → Prop} : nxt R Qf (.rt r) s = Qf (.rt r) s := rfl
theorem lpQ_nx {W R : SS → Prop} {Qf : Fl → SS → Prop} : lpQ W R Qf .nx s = W s := rfl
theorem lpQ_ct {W R : SS → Prop} {Qf : Fl → SS → Prop} : lpQ W R Qf .ct s = W s := rfl
theorem lpQ_br {W R : SS → Prop} {Qf : Fl → SS → Prop} : lpQ W R Qf .br s = R s := rfl
theorem lpQ_rt {r : RV} {W R : SS → Prop} {Qf : Fl → SS → Prop} : lpQ W R Qf (.rt r) s = Qf (.rt r) s := rfl
/-- target = value -/
def AG (t : T) (r : RV) (s : SS) (K : SS → Prop) (h : Fx (t, r, K) := ()) : Prop := oK (asgT t r s) K
def BT (t : T) (v : PV) (s : SS) (K : SS → Prop) (h : Fx (t, v, K) := ()) : Prop := oK (bindT t v s) K
def BTs (t : List T) (v : List PV) (s : SS) (K : SS → Prop) (h : Fx (t, K) := ()) : Prop := oK (bindTs t v s) K
theorem BT_nm {i : Nat} {v : PV} {K : SS → Prop} : BT (.nm i) v ⟨env, sto⟩ K = oK (env[i]?) fun _ => K ⟨env.set i (.val v), sto⟩ := by
  unfold BT
  simp only [bindT]
  by_cases h : i < env.length
  · simp only [if_pos h, List.getElem?_eq_getElem h]
    rfl
  · rw [List.getElem?_eq_none (by omega)]
    simp only [if_neg h]
    rfl
theorem BT_tup {ts : List T} {xs : List PV} {K : SS → Prop} : BT (.tp ts) (.tup xs) s K = BTs ts xs s K := by
  unfold BT BTs; simp only [bindT]
theorem BT_lst {ts : List T} {xs : List PV} {K : SS → Prop} : BT (.tp ts) (.lst xs) s K = BTs ts xs s K := by
  unfold BT BTs; simp only [bindT]
theorem BTs_nil {K : SS → Prop} : BTs [] [] s K = K s := by
  unfold BTs; simp only [bindTs]; rfl
theorem BTs_cons {t : T} {ts : List T} {x : PV} {xs : List PV} {K : SS → Prop} : BTs (t :: ts) (x :: xs) s K = BT t x s fun s1 => BTs ts xs s1 K := by
  unfold BTs BT
  simp only [bindTs]
  cases bindT t x s <;> rfl
theorem AG_sh {t : T} {v : PV} {K : SS → Prop} : AG t (.sh v) s K = BT t v s K := by
  unfold AG BT
  cases t <;> simp only [asgT, keep]
theorem AG_fr {i : Nat} {v : PV} {K : SS → Prop} : AG (.nm i) (.fr v) ⟨env, sto⟩ K = oK (env[i]?) fun _ => K ⟨env.set i (.own v), sto⟩ := by
  unfold AG
  simp only [asgT]
  by_cases h : i < env.length
  · simp only [if_pos h, List.getElem?_eq_getElem h]
    rfl
  · rw [List.getElem?_eq_none (by omega)]
    simp only [if_neg h]
    rfl
theorem AG_frT {ts : List T} {v : PV} {K : SS → Prop} : AG (.tp ts) (.fr v) s K = BT (.tp ts) v s K := by
  unfold AG BT
  simp only [asgT, keep]
theorem AG_hd {t : T} {i : Nat} {K : SS → Prop} : AG t (.hd i) s K = oK (keep s (.hd i)) fun q => BT t q.1 q.2 K := by
  unfold AG BT
  cases t <;> (simp only [asgT]; cases keep s (.hd i) <;> rfl)
/-- what is returned -/
def RT (np : Nat) (r : RV) (s : SS) (K : RV → SS → Prop) (h : Fx (np, r, K) := ()) : Prop := oK (retR np r s) fun q => K q.1 q.2
theorem RT_sh {v : PV} {K : RV → SS → Prop} : RT np (.sh v) s K = K (.sh v) s := rfl
theorem RT_fr {v : PV} {K : RV → SS → Prop} : RT np (.fr v) s K = K (.fr v) s := rfl
def rtH (np i : Nat) (s : SS) (K : RV → SS → Prop) (o : Option Sl) (h : Fx (np, i, s, K) := ()) : Prop := match o with
  | some (.val v) => K (.sh v) s
  | some (.own o) => if i < np then K (.sh o) { s with env := s.env.set i (.val o) } else K (.fr o) { s with env := s.env.set i .un }
  | _ => False
theorem RT_hd {i : Nat} {K : RV → SS → Prop} : RT np (.hd i) ⟨env, sto⟩ K = rtH np i ⟨env, sto⟩ K (env[i]?) := by
  unfold RT
  simp only [retR]
  cases env[i]? with
  | none => rfl
  | some x =>
    cases x with
    | own o =>
      simp only [rtH]
      split <;> rfl
    | _ => rfl
theorem rtH_val {i : Nat} {v : PV} {K : RV → SS → Prop} : rtH np i s K (some (.val v)) = K (.sh v) s := rfl
theorem rtH_own {i : Nat} {v : PV} {K : RV → SS → Prop} (h : ¬ i < np) : rtH np i ⟨env, sto⟩ K (some (.own v)) = K (.fr v) ⟨env.set i .un, sto⟩ := if_neg h
theorem rtH_par {i : Nat} {v : PV} {K : RV → SS → Prop} (h : i < np) : rtH np i ⟨env, sto⟩ K (some (.own v)) = K (.sh v) ⟨env.set i (.val v), sto⟩ := if_pos h
variable {Qf : Fl → SS → Prop}
theorem wS_nil : wS cf np [] s Qf X = Qf .nx s := by
  unfold wS; simp only [execSs]; rfl
theorem wS_asg {t : T} {e : E} {r : List S} : wS cf np (.asg t e :: r) s Qf X = wE cf e s (fun x s1 => AG t x s1 fun s2 => wS cf np r s2 Qf X) X := by
  unfold wS wE
  simp only [execSs, execS, Wp_bind]
  congr 1
  funext x s1
  unfold AG
  cases asgT t x s1 <;> rfl
theorem wS_ret {e : E} {r : List S} : wS cf np (.ret e :: r) s Qf X = wE cf e s (fun x s1 => RT np x s1 fun y s2 => Qf (.rt y) s2) X := by
  unfold wS wE
  simp only [execSs, execS, Wp_bind]
  congr 1
  funext x s1
  unfold RT
  cases retR np x s1 with
  | none => rfl
  | some q => rfl
theorem wS_retN {r : List S} : wS cf np (.retN :: r) s Qf X = Qf (.rt (.sh .non)) s := by
  unfold wS; simp only [execSs, execS, Wp_bind]; rfl
theorem wS_pass {r : List S} : wS cf np (.pass :: r) s Qf X = wS cf np r s Qf X := by
  unfold wS; simp only [execSs, execS, Wp_bind]; rfl
theorem wS_brk {r : List S} : wS cf np (.brk :: r) s Qf X = Qf .br s := by
  unfold wS; simp only [execSs, execS, Wp_bind]; rfl
theorem wS_cont {r : List S} : wS cf np (.cont :: r) s Qf X = Qf .ct s := by
  unfold wS; simp only [execSs, execS, Wp_bind]; rfl
theorem wS_dead {r : List S} : wS cf np (.dead :: r) s Qf X = False := by
  unfold wS; simp only [execSs, execS, Wp_bind]; rfl
theorem wS_expr {e : E} {r : List S} : wS cf np (.expr e :: r) s Qf X = wE cf e s (fun _ s1 => wS cf np r s1 Qf X) X := by
  unfold wS wE
  simp only [execSs, execS, Wp_bind]
  rfl
theorem wS_app {a : List S} : ∀ {s : SS} {r : List S} {Qf : Fl → SS → Prop}, wS cf np (a ++ r) s Qf X = wS cf np a s (nxt (fun s1 => wS cf np r s1 Qf X) Qf) X := by
  induction a with
  | nil =>
    intro s r Qf
    rw [wS_nil]
    rfl
  | cons st a ih =>
    intro s r Qf
    have one : ∀ {b : List S} {Q : Fl → SS → Prop}, wS cf np (st :: b) s Q X = Wp (execS cf np st s) (fun f s1 => nxt (fun s2 => wS cf np b s2 Q X) Q f s1) X := by
      intro b Q
      unfold wS
      simp only [execSs, Wp_bind]
      congr 1
      funext f s1
      cases f <;> rfl
    rw [List.cons_append, one, one]
    congr 1
    funext f s1
    cases f with
    | nx => exact ih
    | br => rfl
    | ct => rfl
    | rt r => rfl
theorem wS_apc {st : S} {a r : List S} : wS cf np ((st :: a) ++ r) s Qf X = wS cf np (st :: (a ++ r)) s Qf X := by rw [List.cons_append]
theorem wS_apn {r : List S} : wS cf np ([] ++ r) s Qf X = wS cf np r s Qf X := by rw [List.nil_append]
theorem wS_ite {c : E} {a b r : List S} : wS cf np (.ite c a b :: r) s Qf X = wE cf c s (fun x s1 => TS s1 x fun t => BR t (wS cf np (a ++ r) s1 Qf X) (wS cf np (b ++ r) s1 Qf X)) X := by
  have e : ∀ s1 (d : List S), wS cf np (d ++ r) s1 Qf X = Wp (execSs cf np d s1) (fun f s2 => Wp (match f with | .nx => execSs cf np r s2 | f => .ok f s2) Qf X) X := fun s1 d => by
    rw [wS_app]
    unfold wS
    congr 1
    funext f s2
    cases f <;> rfl
  have key : (fun (x : RV) (s1 : SS) => TS s1 x fun t => BR t (wS cf np (a ++ r) s1 Qf X) (wS cf np (b ++ r) s1 Qf X)) = fun (x : RV) (s1 : SS) => TS s1 x fun t => BR t (Wp (execSs cf np a s1) (fun f s2 => Wp (match f with | .nx => execSs cf np r s2 | f => .ok f s2) Qf X) X) (Wp (execSs cf np b s1) (fun f s2 => Wp (match f with | .nx => execSs cf np r s2 | f => .ok f s2) Qf X) X) := by
    funext x s1
    rw [e, e]
  rw [key]
  unfold wS wE
  simp only [execSs, execS, Wp_bind]
  congr 1
  funext x s1
  unfold TS
  cases testR s1 x with
  | none => rfl
  | some t => cases t <;> rfl
/-- a[i] = v -/
def SX (s : SS) (ra : RV) (v : PV) (K : SS → Prop) (o k : Option PV) (h : Fx (s, ra, v, K) := ()) : Prop := oK o fun o => oK k fun k => oK (setSem o k v) fun o' => oK (putBack ra o' s) K
theorem wS_setix {a i e : E} {r : List S} : wS cf np (.setix a i e :: r) s Qf X = wE cf e s (fun x s1 => oK (keep s1 x) fun q => wE cf a q.2 (fun ra s3 => wE cf i s3 (fun ri s4 => SX s4 ra q.1 (fun s5 => wS cf np r s5 Qf X) (cont s4 ra) (cont s4 ri)) X) X) X := by
  unfold wS wE
  simp only [execSs, execS, Wp_bind]
  congr 1
  funext x s1
  cases keep s1 x with
  | none => rfl
  | some q =>
    obtain ⟨v, s2⟩ := q
    simp only [oK_some, Wp_bind]
    congr 1
    funext ra s3
    congr 1
    funext ri s4
    unfold SX
    cases cont s4 ra with
    | none => rfl
    | some o =>
      cases cont s4 ri with
      | none => rfl
      | some k =>
        simp only [oK_some]
        cases setSem o k v with
        | none => rfl
        | some o' =>
          simp only [oK_some]
          cases putBack ra o' s4 <;> rfl
def augK (i : Nat) (p : P) (K : PV → PV → Prop) : Option Sl → PV → Prop
  | some (.val v), w => oK (augSem p v w) (K v)
  | _, _ => False
theorem wS_aug {i : Nat} {p : P} {e : E} {v : PV} {r : List S} (h : env[i]? = some (.val v)) : wS cf np (.aug i p e :: r) ⟨env, sto⟩ Qf X = wE cf e ⟨env, sto⟩ (fun x s1 => oK (cont s1 x) fun w => oK (augSem p v w) fun z => wS cf np r { s1 with env := s1.env.set i (.val z) } Qf X) X := by
  unfold wS wE
  simp only [execSs, execS, h, Wp_bind]
  congr 1
  funext x s1
  cases cont s1 x with
  | none => rfl
  | some w =>
    simp only [oK_some]
    cases augSem p v w <;> rfl
/-- x op= e -/
def AU (cf : CF) (np i : Nat) (p : P) (e : E) (r : List S) (env : List Sl) (sto : List SO) (Qf : Fl → SS → Prop) (X : PV → SS → Prop) (o : Option Sl) (h : Fx (cf, np, i, p, e, r, env, sto, Qf, X) := ()) : Prop := match o with
  | some (.val v) => wE cf e ⟨env, sto⟩ (fun x s1 => oK (cont s1 x) fun w => oK (augSem p v w) fun z => wS cf np r { s1 with env := s1.env.set i (.val z) } Qf X) X
  | _ => wS cf np (.aug i p e :: r) ⟨env, sto⟩ Qf X
theorem wS_augU {i : Nat} {p : P} {e : E} {r : List S} : wS cf np (.aug i p e :: r) ⟨env, sto⟩ Qf X = AU cf np i p e r env sto Qf X (env[i]?) := by
  cases h : env[i]? with
  | none => rfl
  | some a =>
    cases a with
    | val v => exact wS_aug h
    | un => rfl
    | own o => rfl
theorem AU_v {i : Nat} {p : P} {e : E} {r : List S} {v : PV} : AU cf np i p e r env sto Qf X (some (.val v)) = wE cf e ⟨env, sto⟩ (fun x s1 => oK (cont s1 x) fun w => oK (augSem p v w) fun z => wS cf np r { s1 with env := s1.env.set i (.val z) } Qf X) X := rfl
theorem wS_par {is : List Nat} {es : List E} {r : List S} : wS cf np (.par is es :: r) s Qf X = wEs cf es s (fun rs s1 => oK (slsOf s1 rs) fun q => oK (putSls is q.1 q.2) fun s3 => wS cf np r s3 Qf X) X := by
  unfold wS wEs
  simp only [execSs, execS, Wp_bind]
  congr 1
  funext rs s1
  cases slsOf s1 rs with
  | none => rfl
  | some q =>
    obtain ⟨as, s2⟩ := q
    simp only [oK_some]
    cases putSls is as s2 <;> rfl
theorem wS_asgR {is : List Nat} {j : Nat} {e : E} {r : List S} : wS cf np (.asgR is j e :: r) s Qf X = wE cf e s (fun x s1 => oK (keep s1 x) fun q => oK (asgRS is j q.1 q.2) fun s3 => wS cf np r s3 Qf X) X := by
  unfold wS wE
  simp only [execSs, execS, Wp_bind]
  congr 1
  funext x s1
  cases keep s1 x with
  | none => rfl
  | some q =>
    obtain ⟨v, s2⟩ := q
    simp only [oK_some]
    cases asgRS is j v s2 <;> rfl
/-- the turns of a for -/
def FR0 (cf : CF) (np : Nat) (t : T) (b : List S) (R : SS → Prop) (Qf : Fl → SS → Prop) (X : PV → SS → Prop) : List PV → SS → Prop
  | [], s => R s
  | x :: xs, s => BT t x s fun s1 => wS cf np b s1 (lpQ (fun s2 => FR0 cf np t b R Qf X xs s2) R Qf) X
def FR (cf : CF) (np : Nat) (t : T) (b : List S) (R : SS → Prop) (Qf : Fl → SS → Prop) (X : PV → SS → Prop) (xs : List PV) (s : SS) (h : Fx (cf, np, t, b, R, Qf, X, xs) := ()) : Prop := FR0 cf np t b R Qf X xs s
theorem FR_nil {t : T} {b : List S} {R : SS → Prop} : FR cf np t b R Qf X [] s = R s := rfl
theorem FR_cons {t : T} {b : List S} {R : SS → Prop} {x : PV} {xs : List PV} : FR cf np t b R Qf X (x :: xs) s = BT t x s fun s1 => wS cf np b s1 (lpQ (fun s2 => FR cf np t b R Qf X xs s2) R Qf) X := rfl
theorem FR_eq {t : T} {b : List S} {R : SS → Prop} : ∀ {xs : List PV} {s : SS}, Wp (forN (fun x s2 => match bindT t x s2 with
      | some s3 => execSs cf np b s3
      | none => .bad) xs s) (nxt R Qf) X = FR cf np t b R Qf X xs s
  | [], s => rfl
  | x :: xs, s => by
    rw [FR_cons]
    simp only [forN, Wp_bind]
    unfold BT
    cases bindT t x s with
    | none => rfl
    | some s3 =>
      simp only [oK_some]
      unfold wS
      congr 1
      funext f s4
      cases f with
      | nx => exact FR_eq
      | ct => exact FR_eq
      | br => rfl
      | rt r => rfl
theorem wS_for {t : T} {it : I} {b r : List S} : wS cf np (.for t it b :: r) s Qf X = wI cf it s (fun xs s1 => FR cf np t b (fun s2 => wS cf np r s2 Qf X) Qf X xs s1) X := by
  unfold wI
  have e : wS cf np (.for t it b :: r) s Qf X = Wp (execS cf np (.for t it b) s) (nxt (fun s2 => wS cf np r s2 Qf X) Qf) X := by
    unfold wS
    simp only [execSs, Wp_bind]
    congr 1
    funext f s1
    cases f <;> rfl
  rw [e]
  simp only [execS, Wp_bind]
  congr 1
  funext xs s1
  exact FR_eq
/-- a for, by what stands ahead of each turn -/
theorem fr_rule {t : T} {b : List S} {R : SS → Prop} {xs : List PV} (W : List PV → SS → Prop) (h0 : W xs s) (hx : ∀ s, W [] s → R s) (h : ∀ x r s, W (x :: r) s → BT t x s fun s1 => wS cf np b s1 (lpQ (W r) R Qf) X) : FR cf np t b R Qf X xs s := by
  induction xs generalizing s with
  | nil => exact hx s h0
  | cons x xs ih =>
    rw [FR_cons]
    have := h x xs s h0
    unfold BT at *
    cases e : bindT t x s with
    | none => rw [e] at this; exact this
    | some s3 =>
      rw [e] at this
      simp only [oK_some] at *
      unfold wS at *
      cases e2 : execSs cf np b s3 with
      | bad => rw [e2] at this; exact this
      | exc x s4 => rw [e2] at this; exact this
      | ok f s4 =>
        rw [e2] at this
        cases f with
        | nx => exact ih this
        | ct => exact ih this
        | br => exact this
        | rt r => exact this
/-- a while, by what stands ahead of each test, and a measure -/
def WH (cf : CF) (np : Nat) (c : E) (b : List S) (R : SS → Prop) (Qf : Fl → SS → Prop) (X : PV → SS → Prop) (s : SS) (h : Fx (cf, np, c, b, R, Qf, X) := ()) : Prop := Wp (execS cf np (.while c b) s) (nxt R Qf) X
theorem wS_while {c : E} {b r : List S} : wS cf np (.while c b :: r) s Qf X = WH cf np c b (fun s2 => wS cf np r s2 Qf X) Qf X s := by
  unfold wS WH
  simp only [execSs, Wp_bind]
  congr 1
  funext f s1
  cases f <;> rfl
theorem wh_rule {c : E} {b : List S} {R : SS → Prop} (W : Nat → SS → Prop) (n : Nat) (hn : n < turns) (h0 : W n s) (h : ∀ m s, W m s → wE cf c s (fun x s1 => TS s1 x fun t => BR t (wS cf np b s1 (lpQ (fun s2 => ∃ k, k < m ∧ W k s2) R Qf) X) (R s1)) X) : WH cf np c b R Qf X s := by
  unfold WH
  have key : ∀ (m N : Nat) (s : SS), m < N → W m s → Wp (whileN (fun s => (evalE cf c s).bind fun r s1 => match testR s1 r with
      | some t => .ok t s1
      | none => .bad) (fun s => execSs cf np b s) N s) (nxt R Qf) X := by
    intro m
    induction m using Nat.strongRecOn with
    | ind m ih =>
      intro N s hmN hW
      obtain ⟨N, rfl⟩ : ∃ k, N = k + 1 := ⟨N - 1, by omega⟩
      have hh := h m s hW
      simp only [whileN, Wp_bind]
      unfold wE at hh
      cases e1 : evalE cf c s with
      | bad => rw [e1] at hh; exact hh
      | exc x s1 => rw [e1] at hh; exact hh
      | ok r s1 =>
        rw [e1] at hh
        simp only [Wp, TS] at hh ⊢
        cases e2 : testR s1 r with
        | none => rw [e2] at hh; exact hh
        | some t =>
          rw [e2] at hh
          cases t with
          | false => exact hh
          | true =>
            simp only [BR] at hh
            unfold wS at hh
            show Wp ((execSs cf np b s1).bind _) _ _
            rw [Wp_bind]
            cases e3 : execSs cf np b s1 with
            | bad => rw [e3] at hh; exact hh
            | exc x s2 => rw [e3] at hh; exact hh
            | ok f s2 =>
              rw [e3] at hh
              cases f with
              | nx =>
                obtain ⟨k, hk, hW'⟩ := hh
                exact ih k hk N s2 (by omega) hW'
              | ct =>
                obtain ⟨k, hk, hW'⟩ := hh
                exact ih k hk N s2 (by omega) hW'
              | br => exact hh
              | rt r => exact hh
  simp only [execS]
  exact key n turns s hn h0
end
/-! defs -/
theorem eq_of_WC {c : CR} {r : RV} {fin : List Sl} {sto : List SO} (h : WC c (fun a f s => a = r ∧ f = fin ∧ s = sto) fun _ _ _ => False) : c = .ok r fin sto := by
  cases c with
  | ok a f s => obtain ⟨rfl, rfl, rfl⟩ := h; rfl
  | exc _ _ _ => exact h.elim
  | bad => exact h.elim
theorem WC_mono {c : CR} {Q Q' : RV → List Sl → List SO → Prop} {X X' : PV → List Sl → List SO → Prop} (h : WC c Q X) (q : ∀ a f s, Q a f s → Q' a f s) (x : ∀ a f s, X a f s → X' a f s) : WC c Q' X' := by
  cases c with
  | ok a f s => exact q a f s h
  | exc a f s => exact x a f s h
  | bad => exact h
/-- behind a def's body -/
def dfQ (d : Fd) (as : List Sl) (Q : RV → List Sl → List SO → Prop) : Fl → SS → Prop
  | .nx, s => Q (.sh .non) (finA d.asg 0 as s.env) s.sto
  | .rt r, s => Q r (finA d.asg 0 as s.env) s.sto
  | _, _ => False
theorem dfQ_nx {d : Fd} {as : List Sl} {Q : RV → List Sl → List SO → Prop} {s : SS} : dfQ d as Q .nx s = Q (.sh .non) (finA d.asg 0 as s.env) s.sto := rfl
theorem dfQ_rt {d : Fd} {as : List Sl} {Q : RV → List Sl → List SO → Prop} {r : RV} {s : SS} : dfQ d as Q (.rt r) s = Q r (finA d.asg 0 as s.env) s.sto := rfl
theorem wc_def {tab : Tab} {n : Nat} {f : Str} {d : Fd} {as : List Sl} {sto : List SO} {Q : RV → List Sl → List SO → Prop} {X : PV → List Sl → List SO → Prop} (hl : tab.lookup f = some d) (h1 : as.length = d.np ∧ d.np ≤ d.ns)
    (h : wS (callF tab n) d.np d.body ⟨frzA d.asg as ++ List.replicate (d.ns - d.np) .un, sto⟩ (dfQ d (frzA d.asg as) Q) fun x s => X x (finA d.asg 0 (frzA d.asg as) s.env) s.sto) : WC (callF tab (n + 1) f as sto) Q X := by
  show WC (match tab.lookup f with | some d => runFd (callF tab n) d as sto | none => .bad) Q X
  rw [hl]
  simp only [runFd, if_pos h1]
  unfold wS at h
  cases e : execSs (callF tab n) d.np d.body ⟨frzA d.asg as ++ List.replicate (d.ns - d.np) .un, sto⟩ with
  | bad => rw [e] at h; exact h
  | exc x s => rw [e] at h; exact h
  | ok f s =>
    rw [e] at h
    cases f with
    | nx => exact h
    | rt r => exact h
    | br => exact h
    | ct => exact h
end TP

set_option Elab.async false
set_option linter.all false
set_option maxRecDepth 100000
set_option maxHeartbeats 4000000
/-! Kl2: the rewriting set. -/
namespace TP
open PySem
section
variable {env : List Sl} {sto : List SO} {s : SS} {Q : RV → SS → Prop} {cf : CF} {X : PV → SS → Prop}
theorem wE_var' {i : Nat} : wE cf (.var i) ⟨env, sto⟩ Q X = varK i ⟨env, sto⟩ Q (env[i]?) := wE_var
/-! contents -/
def contH (sto : List SO) : Option Sl → Option PV
  | some (.val v) => some (boxC sto v)
  | some (.own o) => some o
  | _ => none
theorem cont_sh {v : PV} : cont ⟨env, sto⟩ (.sh v) = some (boxC sto v) := rfl
theorem cont_fr {v : PV} : cont s (.fr v) = some v := rfl
theorem cont_hd {i : Nat} : cont ⟨env, sto⟩ (.hd i) = contH sto (env[i]?) := by
  simp only [cont]
  cases env[i]? with
  | none => rfl
  | some x => cases x <;> rfl
theorem contH_val {v : PV} : contH sto (some (.val v)) = some (boxC sto v) := rfl
theorem contH_own {v : PV} : contH sto (some (.own v)) = some v := rfl
theorem boxC_nl {v : PV} : boxC [] v = v := by cases v <;> rfl
theorem boxC_non : boxC sto .non = .non := rfl
theorem boxC_bl {b : Bool} : boxC sto (.bl b) = .bl b := rfl
theorem boxC_int {b : Int} : boxC sto (.int b) = .int b := rfl
theorem boxC_str {b : List Nat} : boxC sto (.str b) = .str b := rfl
theorem boxC_tup {b : List PV} : boxC sto (.tup b) = .tup b := rfl
theorem boxC_lst {b : List PV} : boxC sto (.lst b) = .lst b := rfl
theorem boxC_rol {b : List PV} : boxC sto (.rol b) = .rol b := rfl
theorem boxC_ty {b : String} : boxC sto (.ty b) = .ty b := rfl
theorem boxC_glo {b : Str} : boxC sto (.glo b) = .glo b := rfl
def pbH (i : Nat) (o : PV) (env : List Sl) (sto : List SO) : Option Sl → Option SS
  | some (.own _) => some ⟨env.set i (.own o), sto⟩
  | some (.val (.ref l)) => (match sto[l]? with
    | some (.box _) => some ⟨env, sto.set l (.box o)⟩
    | _ => none)
  | _ => none
theorem putBack_hd {i : Nat} {o : PV} : putBack (.hd i) o ⟨env, sto⟩ = pbH i o env sto (env[i]?) := by
  simp only [putBack]
  cases env[i]? with
  | none => rfl
  | some x =>
    cases x with
    | val v => cases v <;> rfl
    | _ => rfl
theorem pbH_own {i : Nat} {o o' : PV} : pbH i o env sto (some (.own o')) = some ⟨env.set i (.own o), sto⟩ := rfl
/-! arguments -/
theorem argsOf_nil {l : List Nat} : argsOf s l [] = some [] := rfl
theorem argsOf_sh {l : List Nat} {v : PV} {rs : List RV} : argsOf s l (.sh v :: rs) = (argsOf s l rs).map (.val v :: ·) := by
  simp only [argsOf, argOf]
  cases argsOf s l rs <;> rfl
theorem argsOf_fr {l : List Nat} {v : PV} {rs : List RV} : argsOf s l (.fr v :: rs) = (argsOf s l rs).map (.own v :: ·) := by
  simp only [argsOf, argOf]
  cases argsOf s l rs <;> rfl
def argH (i : Nat) (l : List Nat) (K : List Nat → Option (List Sl)) : Option Sl → Option (List Sl)
  | some (.val v) => (K l).map (.val v :: ·)
  | some (.own o) => if i ∈ l then none else (K (i :: l)).map (.own o :: ·)
  | _ => none
theorem argsOf_hd {i : Nat} {l : List Nat} {rs : List RV} : argsOf ⟨env, sto⟩ l (.hd i :: rs) = argH i l (fun l => argsOf ⟨env, sto⟩ l rs) (env[i]?) := by
  simp only [argsOf, argOf]
  cases env[i]? with
  | none => rfl
  | some x =>
    cases x with
    | un => rfl
    | val v => simp only [argH]; cases argsOf ⟨env, sto⟩ l rs <;> rfl
    | own o =>
      simp only [argH]
      by_cases h : i ∈ l
      · simp only [if_pos h]
      · simp only [if_neg h]
        cases argsOf ⟨env, sto⟩ (i :: l) rs <;> rfl
theorem argH_val {i : Nat} {l : List Nat} {K : List Nat → Option (List Sl)} {v : PV} : argH i l K (some (.val v)) = (K l).map (.val v :: ·) := rfl
theorem argH_own {i : Nat} {l : List Nat} {K : List Nat → Option (List Sl)} {v : PV} (h : i ∉ l) : argH i l K (some (.own v)) = (K (i :: l)).map (.own v :: ·) := if_neg h
theorem backE_nil {as fs : List Sl} : backE env [] as fs = env := by cases as <;> rfl
theorem backE_sh {v : PV} {a f : Sl} {rs : List RV} {as fs : List Sl} : backE env (.sh v :: rs) (a :: as) (f :: fs) = backE env rs as fs := rfl
theorem backE_fr {v : PV} {a f : Sl} {rs : List RV} {as fs : List Sl} : backE env (.fr v :: rs) (a :: as) (f :: fs) = backE env rs as fs := rfl
theorem backE_own {i : Nat} {o : PV} {f : Sl} {rs : List RV} {as fs : List Sl} : backE env (.hd i :: rs) (.own o :: as) (f :: fs) = backE (env.set i f) rs as fs := rfl
theorem backE_val {i : Nat} {o : PV} {f : Sl} {rs : List RV} {as fs : List Sl} : backE env (.hd i :: rs) (.val o :: as) (f :: fs) = backE env rs as fs := rfl
theorem permR_nil {rs : List RV} : permR rs [] = some [] := rfl
theorem permR_inl {rs : List RV} {i : Nat} {pm : List (Sum Nat PV)} : permR rs (.inl i :: pm) = (rs[i]?).bind fun r => (permR rs pm).map (r :: ·) := by
  simp only [permR]
  cases rs[i]? with
  | none => rfl
  | some r => cases permR rs pm <;> rfl
theorem permR_inr {rs : List RV} {v : PV} {pm : List (Sum Nat PV)} : permR rs (.inr v :: pm) = (permR rs pm).map (.sh v :: ·) := rfl
theorem finA_nil {asg : List Nat} {k : Nat} : finA asg k [] env = [] := rfl
theorem finA_cons {asg : List Nat} {k : Nat} {a : Sl} {r : List Sl} : finA asg k (a :: r) env = (if k ∈ asg then a else env.getD k .un) :: finA asg (k + 1) r env := rfl
theorem frzA_nil {as : List Sl} : frzA [] as = as := rfl
theorem frzA_cons {i : Nat} {is : List Nat} {as : List Sl} : frzA (i :: is) as = frzA is (frz1 as i) := rfl
def frH (as : List Sl) (i : Nat) : Option Sl → List Sl
  | some (.own o) => as.set i (.val o)
  | _ => as
theorem frz1_eq {as : List Sl} {i : Nat} : frz1 as i = frH as i (as[i]?) := by
  unfold frz1
  cases as[i]? with
  | none => rfl
  | some x => cases x <;> rfl
theorem frH_own {as : List Sl} {i : Nat} {o : PV} : frH as i (some (.own o)) = as.set i (.val o) := rfl
theorem frH_val {as : List Sl} {i : Nat} {o : PV} : frH as i (some (.val o)) = as := rfl
/-! iterables -/
theorem itemsOf_lst {xs : List PV} : itemsOf (.lst xs) = some xs := rfl
theorem itemsOf_tup {xs : List PV} : itemsOf (.tup xs) = some xs := rfl
theorem itemsOf_rol {xs : List PV} : itemsOf (.rol xs) = some xs := rfl
theorem itemsOf_str {xs : List Nat} : itemsOf (.str xs) = some (xs.map fun c => .str [c]) := rfl
theorem enumOf_lst {xs : List PV} : enumOf (.lst xs) = some (enumL 0 xs) := rfl
theorem revOf_lst {xs : List PV} : revOf (.lst xs) = some xs.reverse := rfl
theorem revOf_tup {xs : List PV} : revOf (.tup xs) = some xs.reverse := rfl
theorem zipOf_lst {xs ys : List PV} : zipOf [.lst xs, .lst ys] = some ((xs.zip ys).map fun p => .tup [p.1, p.2]) := rfl
theorem zipOf_tup {xs ys : List PV} : zipOf [.tup xs, .tup ys] = some ((xs.zip ys).map fun p => .tup [p.1, p.2]) := rfl
/-! operations -/
theorem P1_s {p : P} {a : PV} : P1 p s Q (some a) = oK (primSem p [a]) fun r => Q r s := rfl
theorem P2_s {p : P} {a b : PV} : P2 p s Q (some a) (some b) = oK (primSem p [a, b]) fun r => Q r s := rfl
theorem SM_s {p : P} {z a : PV} : SM p s Q z (some a) = oK (primSem p [z, a]) fun r => Q r s := rfl
theorem MU_s {m : M} {r : RV} {vs : List PV} : MU m r s Q vs = oK (cont s r) fun o => oK (mutSem m o vs) fun q => oK (putBack r q.1 s) fun s4 => Q (.sh q.2) s4 := rfl
theorem SX_s {ra : RV} {v o k : PV} {K : SS → Prop} : SX s ra v K (some o) (some k) = oK (setSem o k v) fun o' => oK (putBack ra o' s) K := rfl
theorem C2_s {p : P} {x y : PV} {A B : Prop} : C2 p (some x) (some y) A B = C2k A B (primSem p [x, y]) := rfl
theorem C2k_t {A B : Prop} : C2k A B (some (.sh (.bl true))) = A := rfl
theorem C2k_f {A B : Prop} : C2k A B (some (.sh (.bl false))) = B := rfl
theorem C2k_d {p : Prop} [Decidable p] {A B : Prop} : C2k A B (some (.sh (.bl (decide p)))) = ((p → A) ∧ (¬ p → B)) := by
  by_cases h : p <;> simp [C2k, h]

theorem BR_nd {p : Prop} [inst : Decidable p] {A B : Prop} : BR (some (!decide p)) A B = ((¬ p → A) ∧ (p → B)) := by
  by_cases h : p <;> simp [BR, h]
theorem pm_add {i j : Int} : primSem .add [.int i, .int j] = some (.sh (.int (i + j))) := rfl
theorem pm_sub {i j : Int} : primSem .sub [.int i, .int j] = some (.sh (.int (i - j))) := rfl
theorem pm_neg {i : Int} : primSem .neg [.int i] = some (.sh (.int (-i))) := rfl
theorem pm_addS {x y : List Nat} (h : x.length + y.length ≤ szL) : primSem .add [.str x, .str y] = some (.sh (.str (x ++ y))) := if_pos h
theorem pm_addT {x y : List PV} (h : x.length + y.length ≤ szL) : primSem .add [.tup x, .tup y] = some (.sh (.tup (x ++ y))) := if_pos h
theorem pm_addL {x y : List PV} (h : x.length + y.length ≤ szL) : primSem .add [.lst x, .lst y] = some (.fr (.lst (x ++ y))) := if_pos h
theorem pm_mul {i j : Int} (h : intBig i = true) (k : intBig j = true) : primSem .mul [.int i, .int j] = some (.sh (.int (i * j))) := by show (if _ then _ else _) = _; rw [h, k]; rfl
theorem pm_fdiv {i j : Int} (h : j ≠ 0) (k : intBig j = true) : primSem .fdiv [.int i, .int j] = some (.sh (.int (i.fdiv j))) := if_pos ⟨h, k⟩
theorem pm_mod {i j : Int} (h : j ≠ 0) : primSem .mod [.int i, .int j] = some (.sh (.int (i.fmod j))) := if_pos h
theorem pm_pow {i j : Int} (h : 0 ≤ j ∧ j ≤ 1000000 ∧ i.natAbs < 2 ^ 64) : primSem .pow [.int i, .int j] = some (.sh (.int (i ^ j.toNat))) := if_pos h
theorem pm_lt {i j : Int} : primSem .lt [.int i, .int j] = some (.sh (.bl (decide (i < j)))) := rfl
theorem pm_le {i j : Int} : primSem .le [.int i, .int j] = some (.sh (.bl (decide (i ≤ j)))) := rfl
theorem pm_gt {i j : Int} : primSem .gt [.int i, .int j] = some (.sh (.bl (decide (j < i)))) := rfl
theorem pm_ge {i j : Int} : primSem .ge [.int i, .int j] = some (.sh (.bl (decide (j ≤ i)))) := rfl
theorem pm_isN {x : PV} : primSem .isN [x] = some (.sh (.bl (isNon x))) := rfl
theorem pm_notN {x : PV} : primSem .notN [x] = some (.sh (.bl (!isNon x))) := rfl
theorem pm_isB {b c : Bool} : primSem (.isB b) [.bl c] = some (.sh (.bl (decide (c = b)))) := rfl
theorem pm_notB {b c : Bool} : primSem (.notB b) [.bl c] = some (.sh (.bl (!decide (c = b)))) := rfl
theorem pm_idx_lst {xs : List PV} {i : Int} : primSem .idx [.lst xs, .int i] = (L2.atI xs i).map RV.sh := rfl
theorem pm_len_lst {xs : List PV} : primSem .len [.lst xs] = some (.sh (.int xs.length)) := rfl
theorem pm_idx_tup {xs : List PV} {i : Int} : primSem .idx [.tup xs, .int i] = (L2.atI xs i).map RV.sh := rfl
theorem pm_len_tup {xs : List PV} : primSem .len [.tup xs] = some (.sh (.int xs.length)) := rfl
theorem pm_idx_rol {xs : List PV} {i : Int} : primSem .idx [.rol xs, .int i] = (L2.atI xs i).map RV.sh := rfl
theorem pm_len_rol {xs : List PV} : primSem .len [.rol xs] = some (.sh (.int xs.length)) := rfl
theorem pm_idx_str {xs : List Nat} {i : Int} (k : xs.length ≤ szL) : primSem .idx [.str xs, .int i] = (L2.atI xs i).map (fun c => .sh (.str [c])) := if_pos k
theorem pm_len_str {xs : List Nat} (k : xs.length ≤ szL) : primSem .len [.str xs] = some (.sh (.int xs.length)) := if_pos k
theorem pm_abs {i : Int} : primSem .abs [.int i] = some (.sh (.int (if i < 0 then -i else i))) := rfl
theorem pm_min2 {i j : Int} : primSem .min2 [.int i, .int j] = some (.sh (.int (if j < i then j else i))) := rfl
theorem pm_max2 {i j : Int} : primSem .max2 [.int i, .int j] = some (.sh (.int (if j > i then j else i))) := rfl
theorem pm_toIntI {i : Int} : primSem .toInt [.int i] = some (.sh (.int i)) := rfl
theorem pm_toIntB {b : Bool} : primSem .toInt [.bl b] = some (.sh (.int (if b then 1 else 0))) := rfl
theorem pm_toTupL {xs : List PV} : primSem .toTup [.lst xs] = some (.sh (.tup xs)) := rfl
theorem pm_toTupT {xs : List PV} : primSem .toTup [.tup xs] = some (.sh (.tup xs)) := rfl
theorem pm_toList_lst {xs : List PV} : primSem .toList [.lst xs] = some (.fr (.lst xs)) := rfl
theorem pm_toList_tup {xs : List PV} : primSem .toList [.tup xs] = some (.fr (.lst xs)) := rfl
theorem pm_toList_rol {xs : List PV} : primSem .toList [.rol xs] = some (.fr (.lst xs)) := rfl
theorem pm_all {xs : List PV} : primSem .all [.lst xs] = (bools xs).map (fun bs => .sh (.bl (bs.all id))) := rfl
theorem pm_any {xs : List PV} : primSem .any [.lst xs] = (bools xs).map (fun bs => .sh (.bl (bs.any id))) := rfl
theorem pm_sum {xs : List PV} : primSem .sum [.lst xs] = (intsL xs).map (fun bs => .sh (.int bs.sum)) := rfl
theorem pm_eq {x y : PV} (h : dataOk x = true) (k : dataOk y = true) : primSem .eq [x, y] = some (.sh (.bl (x.eqv y))) := by show (if _ then _ else _) = _; rw [h, k]; rfl
theorem pm_ne {x y : PV} (h : dataOk x = true) (k : dataOk y = true) : primSem .ne [x, y] = some (.sh (.bl (!x.eqv y))) := by show (if _ then _ else _) = _; rw [h, k]; rfl
theorem pm_revs {xs : List PV} : primSem .revs [.lst xs] = some (.fr (.lst xs.reverse)) := rfl
theorem pm_toStrI {i : Int} (h : i.natAbs < 2 ^ 1900) : primSem .toStr [.int i] = some (.sh (.str (toString i : Str).cps.toList)) := if_pos (decide_eq_true h)
def jnK (z : List Nat) : Option (List (List Nat)) → Option RV
  | some ys => if joinOk z ys then some (.sh (.str (TL.joinL z ys))) else none
  | none => none
theorem pm_joinL {z : List Nat} {xs : List PV} : primSem .join [.str z, .lst xs] = jnK z (strsL xs) := by
  simp only [primSem, joinSem]
  cases strsL xs with
  | none => rfl
  | some ys => rfl
theorem jnK_s {z : List Nat} {ys : List (List Nat)} (k : joinOk z ys = true) : jnK z (some ys) = some (.sh (.str (TL.joinL z ys))) := if_pos k
theorem pm_split {x : List Nat} {c : Nat} (h : x.length + 2 ≤ szL ∧ c < 256) : primSem .split [.str x, .str [c]] = some (.fr (.lst ((TL.spl [c] 0 [] x).map .str))) := if_pos h
theorem pm_mulS {x : List Nat} {j : Int} (h : small63 j = true) (k : x.length * j.toNat ≤ szL) : primSem .mul [.str x, .int j] = some (.sh (.str (List.replicate j.toNat x).flatten)) := by show (if _ then _ else _) = _; rw [h, decide_eq_true k]; rfl
theorem pm_mulL {x : List PV} {j : Int} (h : small63 j = true) (k : x.length * j.toNat ≤ szL) : primSem .mul [.lst x, .int j] = some (.fr (.lst (List.replicate j.toNat x).flatten)) := by show (if _ then _ else _) = _; rw [h, decide_eq_true k]; rfl
theorem pm_mulT {x : List PV} {j : Int} (h1 : -1000 ≤ j) (h2 : j ≤ 1000) (h3 : x.length ≤ 1000) : primSem .mul [.tup x, .int j] = some (.sh (.tup (List.replicate j.toNat x).flatten)) := by show (if _ then _ else _) = _; rw [decide_eq_true h1, decide_eq_true h2, decide_eq_true h3]; rfl
theorem pm_isinT {x : PV} {xs : List PV} (h : x.flat = true) (k : xs.all PV.flat = true) : primSem .isin [x, .tup xs] = some (.sh (.bl (xs.any fun y => y.eqv x))) := by simp only [primSem, isinB, h, k, Bool.and_self, if_true, Option.map_some]
theorem pm_isinL {x : PV} {xs : List PV} (h : x.flat = true) (k : xs.all PV.flat = true) : primSem .isin [x, .lst xs] = some (.sh (.bl (xs.any fun y => y.eqv x))) := by simp only [primSem, isinB, h, k, Bool.and_self, if_true, Option.map_some]
theorem pm_notinT {x : PV} {xs : List PV} (h : x.flat = true) (k : xs.all PV.flat = true) : primSem .notin [x, .tup xs] = some (.sh (.bl (!xs.any fun y => y.eqv x))) := by simp only [primSem, isinB, h, k, Bool.and_self, if_true, Option.map_some]
theorem pm_notinL {x : PV} {xs : List PV} (h : x.flat = true) (k : xs.all PV.flat = true) : primSem .notin [x, .lst xs] = some (.sh (.bl (!xs.any fun y => y.eqv x))) := by simp only [primSem, isinB, h, k, Bool.and_self, if_true, Option.map_some]
theorem pm_isinS {c : Nat} {z : List Nat} : primSem .isin [.str [c], .str z] = some (.sh (.bl (decide (c ∈ z)))) := rfl
theorem pm_notinS {c : Nat} {z : List Nat} : primSem .notin [.str [c], .str z] = some (.sh (.bl (!decide (c ∈ z)))) := rfl
theorem pm_isi_non_int : primSem .isi [.non, .ty "int"] = some (.sh (.bl false)) := by simp [primSem, isiSem, tyKnown, tyName, tySub]
theorem pm_isi_non_bool : primSem .isi [.non, .ty "bool"] = some (.sh (.bl false)) := by simp [primSem, isiSem, tyKnown, tyName, tySub]
theorem pm_isi_non_str : primSem .isi [.non, .ty "str"] = some (.sh (.bl false)) := by simp [primSem, isiSem, tyKnown, tyName, tySub]
theorem pm_isi_non_tuple : primSem .isi [.non, .ty "tuple"] = some (.sh (.bl false)) := by simp [primSem, isiSem, tyKnown, tyName, tySub]
theorem pm_isi_non_list : primSem .isi [.non, .ty "list"] = some (.sh (.bl false)) := by simp [primSem, isiSem, tyKnown, tyName, tySub]
theorem pm_isi_non_dict : primSem .isi [.non, .ty "dict"] = some (.sh (.bl false)) := by simp [primSem, isiSem, tyKnown, tyName, tySub]
theorem pm_isi_bl_int {b : Bool} : primSem .isi [(.bl b), .ty "int"] = some (.sh (.bl true)) := by simp [primSem, isiSem, tyKnown, tyName, tySub]
theorem pm_isi_bl_bool {b : Bool} : primSem .isi [(.bl b), .ty "bool"] = some (.sh (.bl true)) := by simp [primSem, isiSem, tyKnown, tyName, tySub]
theorem pm_isi_bl_str {b : Bool} : primSem .isi [(.bl b), .ty "str"] = some (.sh (.bl false)) := by simp [primSem, isiSem, tyKnown, tyName, tySub]
theorem pm_isi_bl_tuple {b : Bool} : primSem .isi [(.bl b), .ty "tuple"] = some (.sh (.bl false)) := by simp [primSem, isiSem, tyKnown, tyName, tySub]
theorem pm_isi_bl_list {b : Bool} : primSem .isi [(.bl b), .ty "list"] = some (.sh (.bl false)) := by simp [primSem, isiSem, tyKnown, tyName, tySub]
theorem pm_isi_bl_dict {b : Bool} : primSem .isi [(.bl b), .ty "dict"] = some (.sh (.bl false)) := by simp [primSem, isiSem, tyKnown, tyName, tySub]
theorem pm_isi_int_int {i : Int} : primSem .isi [(.int i), .ty "int"] = some (.sh (.bl true)) := by simp [primSem, isiSem, tyKnown, tyName, tySub]
theorem pm_isi_int_bool {i : Int} : primSem .isi [(.int i), .ty "bool"] = some (.sh (.bl false)) := by simp [primSem, isiSem, tyKnown, tyName, tySub]
theorem pm_isi_int_str {i : Int} : primSem .isi [(.int i), .ty "str"] = some (.sh (.bl false)) := by simp [primSem, isiSem, tyKnown, tyName, tySub]
theorem pm_isi_int_tuple {i : Int} : primSem .isi [(.int i), .ty "tuple"] = some (.sh (.bl false)) := by simp [primSem, isiSem, tyKnown, tyName, tySub]
theorem pm_isi_int_list {i : Int} : primSem .isi [(.int i), .ty "list"] = some (.sh (.bl false)) := by simp [primSem, isiSem, tyKnown, tyName, tySub]
theorem pm_isi_int_dict {i : Int} : primSem .isi [(.int i), .ty "dict"] = some (.sh (.bl false)) := by simp [primSem, isiSem, tyKnown, tyName, tySub]
theorem pm_isi_str_int {x : List Nat} : primSem .isi [(.str x), .ty "int"] = some (.sh (.bl false)) := by simp [primSem, isiSem, tyKnown, tyName, tySub]
theorem pm_isi_str_bool {x : List Nat} : primSem .isi [(.str x), .ty "bool"] = some (.sh (.bl false)) := by simp [primSem, isiSem, tyKnown, tyName, tySub]
theorem pm_isi_str_str {x : List Nat} : primSem .isi [(.str x), .ty "str"] = some (.sh (.bl true)) := by simp [primSem, isiSem, tyKnown, tyName, tySub]
theorem pm_isi_str_tuple {x : List Nat} : primSem .isi [(.str x), .ty "tuple"] = some (.sh (.bl false)) := by simp [primSem, isiSem, tyKnown, tyName, tySub]
theorem pm_isi_str_list {x : List Nat} : primSem .isi [(.str x), .ty "list"] = some (.sh (.bl false)) := by simp [primSem, isiSem, tyKnown, tyName, tySub]
theorem pm_isi_str_dict {x : List Nat} : primSem .isi [(.str x), .ty "dict"] = some (.sh (.bl false)) := by simp [primSem, isiSem, tyKnown, tyName, tySub]
theorem pm_isi_tup_int {xs : List PV} : primSem .isi [(.tup xs), .ty "int"] = some (.sh (.bl false)) := by simp [primSem, isiSem, tyKnown, tyName, tySub]
theorem pm_isi_tup_bool {xs : List PV} : primSem .isi [(.tup xs), .ty "bool"] = some (.sh (.bl false)) := by simp [primSem, isiSem, tyKnown, tyName, tySub]
theorem pm_isi_tup_str {xs : List PV} : primSem .isi [(.tup xs), .ty "str"] = some (.sh (.bl false)) := by simp [primSem, isiSem, tyKnown, tyName, tySub]
theorem pm_isi_tup_tuple {xs : List PV} : primSem .isi [(.tup xs), .ty "tuple"] = some (.sh (.bl true)) := by simp [primSem, isiSem, tyKnown, tyName, tySub]
theorem pm_isi_tup_list {xs : List PV} : primSem .isi [(.tup xs), .ty "list"] = some (.sh (.bl false)) := by simp [primSem, isiSem, tyKnown, tyName, tySub]
theorem pm_isi_tup_dict {xs : List PV} : primSem .isi [(.tup xs), .ty "dict"] = some (.sh (.bl false)) := by simp [primSem, isiSem, tyKnown, tyName, tySub]
theorem pm_isi_lst_int {xs : List PV} : primSem .isi [(.lst xs), .ty "int"] = some (.sh (.bl false)) := by simp [primSem, isiSem, tyKnown, tyName, tySub]
theorem pm_isi_lst_bool {xs : List PV} : primSem .isi [(.lst xs), .ty "bool"] = some (.sh (.bl false)) := by simp [primSem, isiSem, tyKnown, tyName, tySub]
theorem pm_isi_lst_str {xs : List PV} : primSem .isi [(.lst xs), .ty "str"] = some (.sh (.bl false)) := by simp [primSem, isiSem, tyKnown, tyName, tySub]
theorem pm_isi_lst_tuple {xs : List PV} : primSem .isi [(.lst xs), .ty "tuple"] = some (.sh (.bl false)) := by simp [primSem, isiSem, tyKnown, tyName, tySub]
theorem pm_isi_lst_list {xs : List PV} : primSem .isi [(.lst xs), .ty "list"] = some (.sh (.bl true)) := by simp [primSem, isiSem, tyKnown, tyName, tySub]
theorem pm_isi_lst_dict {xs : List PV} : primSem .isi [(.lst xs), .ty "dict"] = some (.sh (.bl false)) := by simp [primSem, isiSem, tyKnown, tyName, tySub]
theorem mu_app {xs : List PV} {v : PV} (h : xs.length < szL) : mutSem .append (.lst xs) [v] = some (.lst (xs ++ [v]), .non) := if_pos h
theorem mu_pop {xs : List PV} {v : PV} : mutSem .pop (.lst (xs ++ [v])) [] = some (.lst xs, v) := by simp [mutSem, popSem]
theorem mu_clear {xs : List PV} : mutSem .clear (.lst xs) [] = some (.lst [], .non) := rfl
theorem mu_reverse {xs : List PV} : mutSem .reverse (.lst xs) [] = some (.lst xs.reverse, .non) := rfl
theorem mutTy_s {m : M} {xs : List PV} : mutTy m (some (.lst xs)) = true := rfl
theorem set_lst {xs : List PV} {i : Int} {v : PV} : setSem (.lst xs) (.int i) v = (L2.ixN xs.length i).map (fun k => .lst (xs.set k v)) := by
  simp only [setSem]
  cases L2.ixN xs.length i <;> rfl
theorem aug_add {i j : Int} : augSem .add (.int i) (.int j) = some (.int (i + j)) := rfl
theorem aug_sub {i j : Int} : augSem .sub (.int i) (.int j) = some (.int (i - j)) := rfl
theorem sl_lst {l h : Option Int} {xs : List PV} : slSem l h (.lst xs) = some (.fr (.lst (cutL xs l h))) := rfl
theorem sl_tup {l h : Option Int} {xs : List PV} : slSem l h (.tup xs) = some (.sh (.tup (cutL xs l h))) := rfl
theorem sl_str {l h : Option Int} {xs : List Nat} (k : xs.length ≤ szL) : slSem l h (.str xs) = some (.sh (.str (cutL xs l h))) := if_pos k
theorem bnd_abs {r : RV} : bndOf s true r = some none := rfl
theorem bnd_int {i : Int} : bndOf s false (.sh (.int i)) = some (some i) := rfl
theorem isAbs_non : isAbs (.con .non) = true := rfl
theorem isAbs_int {i : Int} : isAbs (.con (.int i)) = false := rfl
theorem isAbs_var {i : Nat} : isAbs (.var i) = false := rfl
theorem isAbs_prim {p : P} {es : List E} : isAbs (.prim p es) = false := rfl
theorem isAbs_call {p : Str} {es : List E} : isAbs (.call p es) = false := rfl
theorem bools_map {α : Type} {f : α → Bool} : ∀ {xs : List α}, bools (xs.map fun x => .bl (f x)) = some (xs.map f)
  | [] => rfl
  | x :: xs => by simp only [List.map_cons, bools, bools_map, Option.map_some]
theorem ints_map {α : Type} {f : α → Int} : ∀ {xs : List α}, intsL (xs.map fun x => .int (f x)) = some (xs.map f)
  | [] => rfl
  | x :: xs => by simp only [List.map_cons, intsL, ints_map, Option.map_some]
theorem strs_map {α : Type} {f : α → List Nat} : ∀ {xs : List α}, strsL (xs.map fun x => .str (f x)) = some (xs.map f)
  | [] => rfl
  | x :: xs => by simp only [List.map_cons, strsL, strs_map, Option.map_some]
theorem ixN_0 {n : Nat} (h : 0 < n) : L2.ixN n 0 = some 0 := by simp [L2.ixN]; omega
theorem ixN_1 {n : Nat} (h : 1 < n) : L2.ixN n 1 = some 1 := by simp [L2.ixN]; omega
theorem atI_c0 {α : Type} {a : α} {xs : List α} : L2.atI (a :: xs) 0 = some a := by simp [L2.atI, L2.ixN]
theorem atI_nat {α : Type} {xs : List α} {i : Nat} (h : i < xs.length) : L2.atI xs (i : Int) = some xs[i] := by
  unfold L2.atI L2.ixN
  rw [if_pos (by omega), if_pos (by omega)]
  simp [h]
theorem atI_c1 {α : Type} {a b : α} {xs : List α} : L2.atI (a :: b :: xs) 1 = some b := atI_nat (i := 1) (by simp)
theorem atI_c2 {α : Type} {a b c : α} {xs : List α} : L2.atI (a :: b :: c :: xs) 2 = some c := atI_nat (i := 2) (by simp)
theorem atI_c3 {α : Type} {a b c d : α} {xs : List α} : L2.atI (a :: b :: c :: d :: xs) 3 = some d := atI_nat (i := 3) (by simp)
theorem atI_c4 {α : Type} {a b c d e : α} {xs : List α} : L2.atI (a :: b :: c :: d :: e :: xs) 4 = some e := atI_nat (i := 4) (by simp)
theorem atI_c5 {α : Type} {a b c d e f : α} {xs : List α} : L2.atI (a :: b :: c :: d :: e :: f :: xs) 5 = some f := atI_nat (i := 5) (by simp)
theorem atI_c6 {α : Type} {a b c d e f g : α} {xs : List α} : L2.atI (a :: b :: c :: d :: e :: f :: g :: xs) 6 = some g := atI_nat (i := 6) (by simp)
theorem atI_c7 {α : Type} {a b c d e f g h : α} {xs : List α} : L2.atI (a :: b :: c :: d :: e :: f :: g :: h :: xs) 7 = some h := atI_nat (i := 7) (by simp)
theorem pm_eqI {i j : Int} : primSem .eq [.int i, .int j] = some (.sh (.bl (decide (i = j)))) := by
  refine (pm_eq rfl rfl).trans ?_
  rfl
theorem pm_neI {i j : Int} : primSem .ne [.int i, .int j] = some (.sh (.bl (!decide (i = j)))) := by
  refine (pm_ne rfl rfl).trans ?_
  rfl
def txOk (x : List Nat) : Bool := x.all fun c => decide (c < 1114112)
theorem tx_ok {x : List Nat} (h : txOk x = true) : dataOk (.str x) = true := by
  unfold txOk at h
  simp only [dataOk, PV.deep, h, if_true]
  rfl
theorem pm_eqS {x y : List Nat} (h : txOk x = true) (k : txOk y = true) : primSem .eq [.str x, .str y] = some (.sh (.bl (decide (x = y)))) := by
  refine (pm_eq (tx_ok h) (tx_ok k)).trans ?_
  show some (RV.sh (.bl (x == y))) = _
  congr 3
  by_cases e : x = y <;> simp [e]
theorem pm_neS {x y : List Nat} (h : txOk x = true) (k : txOk y = true) : primSem .ne [.str x, .str y] = some (.sh (.bl (!decide (x = y)))) := by
  refine (pm_ne (tx_ok h) (tx_ok k)).trans ?_
  show some (RV.sh (.bl (!(x == y)))) = _
  congr 4
  by_cases e : x = y <;> simp [e]
theorem any_str {x : List Nat} : ∀ {ys : List (List Nat)}, ((ys.map PV.str).any fun y => y.eqv (.str x)) = decide (x ∈ ys)
  | [] => by simp
  | y :: ys => by
    rw [List.map_cons, List.any_cons, any_str]
    show ((y == x) || _) = _
    by_cases e : y = x
    · subst e; simp
    · have : ¬ x = y := fun h => e h.symm
      simp [e, this]
theorem all_flat_str {ys : List (List Nat)} : (ys.map PV.str).all PV.flat = true := by simp [PV.flat]
theorem pm_isinT_s {x : List Nat} {ys : List (List Nat)} : primSem .isin [.str x, .tup (ys.map PV.str)] = some (.sh (.bl (decide (x ∈ ys)))) := by
  rw [← any_str]; exact pm_isinT rfl all_flat_str
theorem pm_notinT_s {x : List Nat} {ys : List (List Nat)} : primSem .notin [.str x, .tup (ys.map PV.str)] = some (.sh (.bl (!decide (x ∈ ys)))) := by
  rw [← any_str]; exact pm_notinT rfl all_flat_str
theorem pm_isinL_s {x : List Nat} {ys : List (List Nat)} : primSem .isin [.str x, .lst (ys.map PV.str)] = some (.sh (.bl (decide (x ∈ ys)))) := by
  rw [← any_str]; exact pm_isinL rfl all_flat_str
theorem pm_notinL_s {x : List Nat} {ys : List (List Nat)} : primSem .notin [.str x, .lst (ys.map PV.str)] = some (.sh (.bl (!decide (x ∈ ys)))) := by
  rw [← any_str]; exact pm_notinL rfl all_flat_str
theorem atI_0 {α : Type} {a : α} {xs : List α} : L2.atI (a :: xs) 0 = some a := by simp [L2.atI, L2.ixN]
theorem atI_n {α : Type} {xs : List α} {i : Int} {k : Nat} (h : i = (k : Int)) (hk : k < xs.length) : L2.atI xs i = xs[k]? := by
  subst h
  unfold L2.atI L2.ixN
  rw [if_pos (by omega), if_pos (by omega)]
  simp
end
end TP

set_option Elab.async false
set_option linter.all false
set_option maxRecDepth 100000
set_option maxHeartbeats 4000000
set_option exponentiation.threshold 20000
/-! Kl3: comprehensions; the laws' draws. -/
namespace TP
open PySem
theorem wipeS_nil {env : List Sl} : wipeS env [] = env := rfl
theorem wipeS_cons {env : List Sl} {v : Nat} {vs : List Nat} : wipeS env (v :: vs) = (wipeS env vs).set v .un := rfl
theorem restS_nil {old env : List Sl} : restS old env [] = env := rfl
theorem restS_cons {old env : List Sl} {v : Nat} {vs : List Nat} : restS old env (v :: vs) = (restS old env vs).set v (old.getD v .un) := rfl
theorem wipeZ_len {env : List Sl} : ∀ {vs : List Nat}, (wipeS env vs).length = env.length
  | [] => rfl
  | v :: vs => by rw [wipeS_cons, List.length_set, wipeZ_len]
theorem restZ_len {old env : List Sl} : ∀ {vs : List Nat}, (restS old env vs).length = env.length
  | [] => rfl
  | v :: vs => by rw [restS_cons, List.length_set, restZ_len]
theorem wipeZ_get {env : List Sl} {i : Nat} : ∀ {vs : List Nat}, (wipeS env vs)[i]? = if i ∈ vs ∧ i < env.length then some .un else env[i]?
  | [] => by simp [wipeS_nil]
  | v :: vs => by
    rw [wipeS_cons, List.getElem?_set, wipeZ_len, wipeZ_get (vs := vs)]
    by_cases h : v = i
    · subst h
      by_cases hl : v < env.length
      · simp [hl]
      · simp [hl]
    · have : ¬ i = v := fun e => h e.symm
      simp [h, this]
theorem restZ_get {old env : List Sl} {i : Nat} : ∀ {vs : List Nat}, (restS old env vs)[i]? = if i ∈ vs ∧ i < env.length then some (old.getD i .un) else env[i]?
  | [] => by simp [restS_nil]
  | v :: vs => by
    rw [restS_cons, List.getElem?_set, restZ_len, restZ_get (vs := vs)]
    by_cases h : v = i
    · subst h
      by_cases hl : v < env.length
      · simp [hl]
      · simp [hl]
    · have : ¬ i = v := fun e => h e.symm
      simp [h, this]
theorem restZ_of {old env : List Sl} {vs : List Nat} (h : wipeS env vs = wipeS old vs) : restS old env vs = old := by
  have hl : env.length = old.length := by rw [← wipeZ_len (env := env) (vs := vs), h, wipeZ_len]
  apply List.ext_getElem?
  intro i
  have hg : (wipeS env vs)[i]? = (wipeS old vs)[i]? := by rw [h]
  rw [wipeZ_get, wipeZ_get] at hg
  rw [restZ_get]
  by_cases c : i ∈ vs ∧ i < env.length
  · rw [if_pos c]
    have : i < old.length := by omega
    simp [List.getD, this]
  · rw [if_neg c] at hg ⊢
    rw [hg, if_neg (by rw [← hl]; exact c)]
def owH : Option Sl → Bool
  | some (.own _) => true
  | some _ => false
  | none => true
theorem owH_val {v : PV} : owH (some (.val v)) = false := rfl
theorem owH_un : owH (some .un) = false := rfl
theorem ownSlots_nil {env : List Sl} : ownSlots env [] = false := rfl
theorem ownSlots_cons {env : List Sl} {v : Nat} {vs : List Nat} : ownSlots env (v :: vs) = (owH env[v]? || ownSlots env vs) := by
  unfold ownSlots
  rw [List.any_cons]
  congr 1
section
variable {cf : CF} {X : PV → SS → Prop}
/-- the tests of a comprehension -/
def CS (cf : CF) (cs : List E) (s : SS) (A B : SS → Prop) (h : Fx (cf, cs, A, B) := ()) : Prop := Wp (evalCs cf cs s) (fun b s1 => if b = true then A s1 else B s1) fun _ _ => False
theorem CS_nil {s : SS} {A B : SS → Prop} : CS cf [] s A B = A s := by
  unfold CS; simp only [evalCs]; rfl
theorem CS_one {c : E} {s : SS} {A B : SS → Prop} : CS cf [c] s A B = wE cf c s (fun r s1 => TS s1 r fun t => BR t (A s1) (B s1)) fun _ _ => False := by
  unfold CS wE
  simp only [evalCs, Wp_bind]
  congr 1
  funext r s1
  unfold TS
  cases testR s1 r with
  | none => rfl
  | some t => cases t <;> rfl
theorem lc_inv {elt : E} {t : T} {cs : List E} {own : List Nat} {Q : RV → SS → Prop} {xs : List PV} {s : SS} (W : List PV → List PV → SS → Prop) (ho : ownSlots s.env own = false) (h0 : W xs [] s)
    (h : ∀ x rest acc s1, W (x :: rest) acc s1 → acc.length < szL ∧ BT t x { s1 with env := wipeS s1.env own } fun s3 => CS cf cs s3 (fun s4 => wE cf elt s4 (fun r s5 => oK (keep s5 r) fun q => W rest (acc ++ [q.1]) q.2) fun _ _ => False) (fun s4 => W rest acc s4))
    (hx : ∀ acc s1, W [] acc s1 → Q (.fr (.lst acc)) { s1 with env := restS s.env s1.env own }) : LC cf elt t cs own Q xs s := by
  refine ⟨ho, ?_⟩
  have key : ∀ (xs acc : List PV) (s1 : SS), W xs acc s1 → Wp (lcLoop own (lcTurn cf elt t cs) xs acc s1) (fun ys s7 => Q (.fr (.lst ys)) { s7 with env := restS s.env s7.env own }) fun _ _ => False := by
    intro xs
    induction xs with
    | nil => intro acc s1 hW; exact hx acc s1 hW
    | cons x xs ih =>
      intro acc s1 hW
      obtain ⟨hl, hh⟩ := h x xs acc s1 hW
      simp only [lcLoop, Wp_bind]
      simp only [lcTurn]
      unfold BT at hh
      cases e1 : bindT t x { s1 with env := wipeS s1.env own } with
      | none => rw [e1] at hh; exact hh
      | some s3 =>
        rw [e1] at hh
        simp only [oK_some, CS] at hh
        simp only [Wp_bind]
        cases e2 : evalCs cf cs s3 with
        | bad => rw [e2] at hh; exact hh
        | exc _ _ => rw [e2] at hh; exact hh
        | ok b s4 =>
          rw [e2] at hh
          cases b with
          | false => exact ih _ _ hh
          | true =>
            simp only [Wp, if_true, wE] at hh ⊢
            cases e3 : evalE cf elt s4 with
            | bad => rw [e3] at hh; exact hh
            | exc _ _ => rw [e3] at hh; exact hh
            | ok r s5 =>
              rw [e3] at hh
              simp only [Wp] at hh
              show Wp (Res.bind _ _) _ _
              cases e4 : keep s5 r with
              | none => rw [e4] at hh; exact hh.elim
              | some q =>
                rw [e4] at hh
                obtain ⟨v, s6⟩ := q
                simp only [oK_some] at hh
                simp only [Res.bind, e4, if_pos hl]
                exact ih _ _ hh
  exact key xs [] s h0
theorem lc_fm {α : Type} {elt : E} {t : T} {cs : List E} {own : List Nat} {Q : RV → SS → Prop} {env : List Sl} {sto : List SO} {xs : List α} {g : α → PV} (p : α → Bool) (f : α → PV) (ho : ownSlots env own = false) (hl : xs.length ≤ szL)
    (h : ∀ x ∈ xs, BT t (g x) ⟨wipeS env own, sto⟩ fun s3 => CS cf cs s3 (fun s4 => p x = true ∧ wE cf elt s4 (fun r s5 => oK (keep s5 r) fun q => q.1 = f x ∧ wipeS q.2.env own = wipeS env own ∧ q.2.sto = sto) fun _ _ => False) (fun s4 => p x = false ∧ wipeS s4.env own = wipeS env own ∧ s4.sto = sto))
    (hq : Q (.fr (.lst ((xs.filter p).map f))) ⟨env, sto⟩) : LC cf elt t cs own Q (xs.map g) ⟨env, sto⟩ := by
  refine lc_inv (fun rest acc s => ∃ done ys, xs = done ++ ys ∧ rest = ys.map g ∧ acc = (done.filter p).map f ∧ wipeS s.env own = wipeS env own ∧ s.sto = sto) ho ⟨[], xs, rfl, rfl, rfl, rfl, rfl⟩ ?_ ?_
  · rintro x rest acc ⟨e1, st1⟩ ⟨done, ys, e, er, rfl, ew, es⟩
    cases ys with
    | nil => cases er
    | cons y ys =>
      cases er
      simp only at ew es
      have hy := h y (by rw [e]; simp)
      have hlen : ((done.filter p).map f).length < szL := by
        have h1 : (done.filter p).length ≤ done.length := List.length_filter_le _ _
        have h2 : xs.length = done.length + (ys.length + 1) := by rw [e]; simp
        rw [List.length_map]
        omega
      refine ⟨hlen, ?_⟩
      simp only
      rw [ew, es]
      unfold BT at hy ⊢
      cases e1 : bindT t (g y) ⟨wipeS env own, sto⟩ with
      | none => rw [e1] at hy; exact hy
      | some s3 =>
        rw [e1] at hy
        simp only [oK_some, CS] at hy ⊢
        cases e2 : evalCs cf cs s3 with
        | bad => rw [e2] at hy; exact hy
        | exc _ _ => rw [e2] at hy; exact hy
        | ok b s4 =>
          rw [e2] at hy
          cases b with
          | false =>
            obtain ⟨hp, w1, w2⟩ := hy
            exact ⟨done ++ [y], ys, by rw [e]; simp, rfl, by simp [hp], w1, w2⟩
          | true =>
            obtain ⟨hp, hy⟩ := hy
            show wE cf elt s4 _ _
            unfold wE at hy ⊢
            cases e3 : evalE cf elt s4 with
            | bad => rw [e3] at hy; exact hy
            | exc _ _ => rw [e3] at hy; exact hy
            | ok r s5 =>
              rw [e3] at hy
              simp only [Wp] at hy ⊢
              cases e4 : keep s5 r with
              | none => rw [e4] at hy; exact hy.elim
              | some q =>
                rw [e4] at hy
                obtain ⟨hq1, w1, w2⟩ := hy
                refine ⟨done ++ [y], ys, by rw [e]; simp, rfl, ?_, w1, w2⟩
                simp [hp, hq1]
  · rintro acc ⟨e1, st1⟩ ⟨done, ys, e, er, rfl, ew, es⟩
    cases ys with
    | cons y ys => cases er
    | nil =>
      rw [List.append_nil] at e
      subst e
      simp only at ew es ⊢
      rw [restZ_of ew, es]
      exact hq
theorem lc_map {α : Type} {elt : E} {t : T} {own : List Nat} {Q : RV → SS → Prop} {env : List Sl} {sto : List SO} {xs : List α} {g : α → PV} (f : α → PV) (ho : ownSlots env own = false) (hl : xs.length ≤ szL)
    (h : ∀ x ∈ xs, BT t (g x) ⟨wipeS env own, sto⟩ fun s4 => wE cf elt s4 (fun r s5 => oK (keep s5 r) fun q => q.1 = f x ∧ wipeS q.2.env own = wipeS env own ∧ q.2.sto = sto) fun _ _ => False)
    (hq : Q (.fr (.lst (xs.map f))) ⟨env, sto⟩) : LC cf elt t [] own Q (xs.map g) ⟨env, sto⟩ := by
  refine lc_fm (fun _ => true) f ho hl (fun x hx => ?_) (by rw [List.filter_eq_self.mpr (fun _ _ => rfl)]; exact hq)
  have hh := h x hx
  unfold BT at hh ⊢
  cases e : bindT t (g x) ⟨wipeS env own, sto⟩ with
  | none => rw [e] at hh; exact hh
  | some s3 =>
    rw [e] at hh
    simp only [oK_some] at hh ⊢
    rw [CS_nil]
    exact ⟨rfl, hh⟩
end
theorem wc_ex {c : CR} {x : RV} (h : WC c (fun r _ _ => r = x) fun _ _ _ => False) : ∃ fin sto, c = .ok x fin sto := by
  cases c with
  | ok a f s => cases h; exact ⟨f, s, rfl⟩
  | exc _ _ _ => exact h.elim
  | bad => exact h.elim
/-- a meeting place behind a statement -/
theorem wS_split {cf : CF} {np : Nat} {st : S} {rest : List S} {s : SS} {Qf : Fl → SS → Prop} {X : PV → SS → Prop} (R : SS → Prop) (h1 : wS cf np [st] s (nxt R Qf) X) (h2 : ∀ s, R s → wS cf np rest s Qf X) : wS cf np (st :: rest) s Qf X := by
  have e : wS cf np (st :: rest) s Qf X = wS cf np [st] s (nxt (fun s1 => wS cf np rest s1 Qf X) Qf) X := wS_app (a := [st])
  rw [e]
  unfold wS at h1 ⊢
  cases z : execSs cf np [st] s with
  | bad => rw [z] at h1; exact h1
  | exc x s1 => rw [z] at h1; exact h1
  | ok f s1 =>
    rw [z] at h1
    cases f with
    | nx => exact h2 _ h1
    | br => exact h1
    | ct => exact h1
    | rt r => exact h1
mutual
theorem eqv_rf : ∀ {v : PV}, v.deep.isSome = true → v.eqv v = true
  | .non, _ => rfl
  | .bl b, _ => by simp [PV.eqv]
  | .int i, _ => by simp [PV.eqv]
  | .str x, _ => by simp [PV.eqv]
  | .tup xs, h => by
    rw [PV.eqv]
    exact eqvs_rf (by simpa [PV.deep] using h)
  | .lst xs, h => by
    rw [PV.eqv]
    exact eqvs_rf (by simpa [PV.deep] using h)
  | .rol xs, h => by simp [PV.deep] at h
  | .dct ks vs, h => by simp [PV.deep] at h
  | .ref l, h => by simp [PV.deep] at h
  | .glo x, h => by simp [PV.deep] at h
  | .ty x, h => by simp [PV.deep] at h
theorem eqvs_rf : ∀ {vs : List PV}, (deeps vs).isSome = true → eqvs vs vs = true
  | [], _ => rfl
  | x :: xs, h => by
    rw [eqvs, Bool.and_eq_true]
    simp only [deeps] at h
    cases h1 : x.deep with
    | none => rw [h1] at h; cases h
    | some a =>
      cases h2 : deeps xs with
      | none => rw [h1, h2] at h; cases h
      | some b => exact ⟨eqv_rf (by rw [h1]; rfl), eqvs_rf (by rw [h2]; rfl)⟩
end
theorem eqv_refl {v : PV} (h : dataOk v = true) : v.eqv v = true := by
  refine eqv_rf ?_
  unfold dataOk at h
  cases e : v.deep with
  | none => rw [e] at h; cases h
  | some n => rfl
theorem wS_join {cf : CF} {np : Nat} {a b : List S} {s : SS} {Qf : Fl → SS → Prop} {X : PV → SS → Prop} (R : SS → Prop) (h1 : wS cf np a s (nxt R Qf) X) (h2 : ∀ s, R s → wS cf np b s Qf X) : wS cf np (a ++ b) s Qf X := by
  rw [wS_app]
  unfold wS at h1 ⊢
  cases z : execSs cf np a s with
  | bad => rw [z] at h1; exact h1
  | exc x s1 => rw [z] at h1; exact h1
  | ok f s1 =>
    rw [z] at h1
    cases f with
    | nx => exact h2 _ h1
    | br => exact h1
    | ct => exact h1
    | rt r => exact h1
theorem turns_lt {n : Nat} (h : n ≤ 1000000) : n < turns := Nat.lt_of_le_of_lt h (by decide)
/-! the draws -/
theorem big_of {i : Int} (h : i.natAbs < 2 ^ 8000) : intBig i = true := decide_eq_true h
/-- the widths -/
def wd : Nat → Nat
  | 0 => 1
  | n + 1 => wd n * 268435456
theorem wd_pow : ∀ n : Nat, wd n = 2 ^ (28 * n)
  | 0 => rfl
  | n + 1 => by
    have e : 28 * (n + 1) = 28 * n + 28 := by omega
    rw [wd, wd_pow n, e, Nat.pow_add]
theorem wd_mono {i j : Nat} (h : i ≤ j) : wd i ≤ wd j := by
  rw [wd_pow, wd_pow]
  exact Nat.pow_le_pow_right (by omega) (by omega)
theorem wd_pos (i : Nat) : 1 ≤ wd i := wd_mono (i := 0) (Nat.zero_le i)
theorem wd_big {j : Nat} (h : j ≤ 280) : wd j < 2 ^ 8000 := by
  rw [wd_pow]
  exact Nat.pow_lt_pow_right (by omega) (by omega)
theorem big_wd {i : Int} {j : Nat} (h : j ≤ 280) (h0 : 0 ≤ i) (hi : i ≤ (wd j : Int)) : intBig i = true := big_of (by
  have := wd_big h
  omega)
/-- for sizes that are seen -/
theorem big_lit {i : Int} (h : -100000000000000000000000000000000000000000000000000000000000000000000000000000000000000000000000000 ≤ i ∧ i ≤ 100000000000000000000000000000000000000000000000000000000000000000000000000000000000000000000000000) : intBig i = true := big_of (by
  have h1 : (100000000000000000000000000000000000000000000000000000000000000000000000000000000000000000000000000 : Nat) < 2 ^ 8000 := by decide +kernel
  omega)
theorem wd_lit {m : Int} (h : m ≤ 1000000000000000000000000000000000000000000000000000000000000) : m ≤ (wd 71 : Int) := by
  have : wd 8 ≤ wd 71 := wd_mono (by omega)
  have e : (1000000000000000000000000000000000000000000000000000000000000 : Nat) ≤ wd 8 := by decide +kernel
  omega
local macro_rules
  | `(tactic| push_cast [$xs,*]) => `(tactic| simp (maxSteps := 2000000) -implicitDefEqProofs -dsimp (disch := first | assumption | (with_reducible refine TP.big_lit ?_; omega) | decide | omega | (simp only [List.length_cons, List.length_nil, List.length_map, List.length_append, TP.szL]; omega)) only [TP.oK_some, TP.varK_val, TP.varK_own, TP.BR_t, TP.BR_f, TP.BR_d, ↓TP.wE_con, ↓TP.wE_dead, ↓TP.wEs_nil, ↓TP.wEs_cons, ↓TP.wE_prim1, ↓TP.wE_prim2, TP.strK_s, ↓TP.wE_sm, TP.dixK_s, ↓TP.wE_didx, TP.TS_bl, ↓TP.wE_not, ↓TP.wE_and1, ↓TP.wE_and, ↓TP.wE_or1, ↓TP.wE_or, ↓TP.wE_ite, ↓TP.wE_chain, ↓TP.KPs_nil, TP.keep_sh, TP.keep_fr, TP.keep_hd, TP.keepH_val, TP.keepH_own, ↓TP.wE_tup, ↓TP.wE_list, ↓TP.wE_call, ↓TP.wE_callK, TP.gloK_v, ↓TP.wE_callL, ↓TP.wE_mut, ↓TP.wE_slice, ↓TP.wE_lc, TP.itK_s, ↓TP.wI_of, TP.rgK_i, ↓TP.wI_range1, TP.rg2K_i, ↓TP.wI_range2, ↓TP.wI_enum, ↓TP.wI_rev, ↓TP.wI_zip, ↓TP.nxt_nx, ↓TP.nxt_br, ↓TP.nxt_ct, ↓TP.nxt_rt, ↓TP.lpQ_nx, ↓TP.lpQ_ct, ↓TP.lpQ_br, ↓TP.lpQ_rt, TP.BT_nm, TP.BT_tup, TP.BT_lst, TP.BTs_nil, TP.BTs_cons, TP.AG_sh, TP.AG_fr, TP.AG_frT, TP.AG_hd, TP.RT_sh, TP.RT_fr, TP.RT_hd, TP.rtH_val, TP.rtH_own, TP.rtH_par, ↓TP.wS_nil, ↓TP.wS_asg, ↓TP.wS_ret, ↓TP.wS_retN, ↓TP.wS_pass, ↓TP.wS_brk, ↓TP.wS_cont, ↓TP.wS_dead, ↓TP.wS_expr, ↓TP.wS_apc, ↓TP.wS_apn, ↓TP.wS_ite, ↓TP.wS_setix, ↓TP.wS_augU, TP.AU_v, ↓TP.wS_par, ↓TP.wS_asgR, ↓TP.wS_for, ↓TP.wS_while, ↓TP.dfQ_nx, ↓TP.dfQ_rt, ↓TP.wE_var', TP.cont_sh, TP.cont_fr, TP.cont_hd, TP.contH_val, TP.contH_own, TP.boxC_nl, TP.boxC_non, TP.boxC_bl, TP.boxC_int, TP.boxC_str, TP.boxC_tup, TP.boxC_lst, TP.boxC_rol, TP.boxC_ty, TP.boxC_glo, TP.putBack_hd, TP.pbH_own, TP.argsOf_nil, TP.argsOf_sh, TP.argsOf_fr, TP.argsOf_hd, TP.argH_val, TP.argH_own, TP.backE_nil, TP.backE_sh, TP.backE_fr, TP.backE_own, TP.backE_val, TP.permR_nil, TP.permR_inl, TP.permR_inr, TP.finA_nil, TP.finA_cons, TP.frzA_nil, TP.frzA_cons, TP.frz1_eq, TP.frH_own, TP.frH_val, TP.itemsOf_lst, TP.itemsOf_tup, TP.itemsOf_rol, TP.itemsOf_str, TP.enumOf_lst, TP.revOf_lst, TP.revOf_tup, TP.zipOf_lst, TP.zipOf_tup, TP.P1_s, TP.P2_s, TP.SM_s, TP.MU_s, TP.SX_s, TP.C2_s, TP.C2k_t, TP.C2k_f, TP.C2k_d, TP.BR_nd, TP.pm_add, TP.pm_sub, TP.pm_neg, TP.pm_addS, TP.pm_addT, TP.pm_addL, TP.pm_mul, TP.pm_fdiv, TP.pm_mod, TP.pm_pow, TP.pm_lt, TP.pm_le, TP.pm_gt, TP.pm_ge, TP.pm_isN, TP.pm_notN, TP.pm_isB, TP.pm_notB, TP.pm_idx_lst, TP.pm_len_lst, TP.pm_idx_tup, TP.pm_len_tup, TP.pm_idx_rol, TP.pm_len_rol, TP.pm_idx_str, TP.pm_len_str, TP.pm_abs, TP.pm_min2, TP.pm_max2, TP.pm_toIntI, TP.pm_toIntB, TP.pm_toTupL, TP.pm_toTupT, TP.pm_toList_lst, TP.pm_toList_tup, TP.pm_toList_rol, TP.pm_all, TP.pm_any, TP.pm_sum, TP.pm_revs, TP.pm_toStrI, TP.pm_joinL, TP.jnK_s, TP.pm_split, TP.pm_mulS, TP.pm_mulL, TP.pm_mulT, TP.pm_isinT, TP.pm_isinL, TP.pm_notinT, TP.pm_notinL, TP.pm_isinS, TP.pm_notinS, TP.pm_isi_non_int, TP.pm_isi_non_bool, TP.pm_isi_non_str, TP.pm_isi_non_tuple, TP.pm_isi_non_list, TP.pm_isi_non_dict, TP.pm_isi_bl_int, TP.pm_isi_bl_bool, TP.pm_isi_bl_str, TP.pm_isi_bl_tuple, TP.pm_isi_bl_list, TP.pm_isi_bl_dict, TP.pm_isi_int_int, TP.pm_isi_int_bool, TP.pm_isi_int_str, TP.pm_isi_int_tuple, TP.pm_isi_int_list, TP.pm_isi_int_dict, TP.pm_isi_str_int, TP.pm_isi_str_bool, TP.pm_isi_str_str, TP.pm_isi_str_tuple, TP.pm_isi_str_list, TP.pm_isi_str_dict, TP.pm_isi_tup_int, TP.pm_isi_tup_bool, TP.pm_isi_tup_str, TP.pm_isi_tup_tuple, TP.pm_isi_tup_list, TP.pm_isi_tup_dict, TP.pm_isi_lst_int, TP.pm_isi_lst_bool, TP.pm_isi_lst_str, TP.pm_isi_lst_tuple, TP.pm_isi_lst_list, TP.pm_isi_lst_dict, TP.mu_app, TP.mu_clear, TP.mu_reverse, TP.mutTy_s, TP.set_lst, TP.aug_add, TP.aug_sub, TP.sl_lst, TP.sl_tup, TP.sl_str, TP.bnd_abs, TP.bnd_int, TP.isAbs_non, TP.isAbs_int, TP.isAbs_var, TP.isAbs_prim, TP.isAbs_call, TP.bools_map, TP.ints_map, TP.strs_map, TP.ixN_0, TP.ixN_1, TP.atI_c0, TP.atI_nat, TP.atI_c1, TP.atI_c2, TP.atI_c3, TP.atI_c4, TP.atI_c5, TP.atI_c6, TP.atI_c7, TP.pm_eqI, TP.pm_neI, TP.tx_ok, TP.pm_eqS, TP.pm_neS, TP.any_str, TP.all_flat_str, TP.pm_isinT_s, TP.pm_notinT_s, TP.pm_isinL_s, TP.pm_notinL_s, TP.WC_ok, ↓TP.KPs_cons, List.getElem?_cons_succ, List.getElem?_cons_zero, List.set_cons_succ, List.set_cons_zero, List.cons_append, List.nil_append, List.length_cons, List.length_nil, Option.map_some, Option.bind_some, List.append_nil, List.getD_cons_zero, List.getD_cons_succ, List.replicate_succ, List.replicate_zero, TP.wipeS_nil, TP.wipeS_cons, TP.restS_nil, TP.restS_cons, TP.ownSlots_nil, TP.ownSlots_cons, TP.owH_val, TP.owH_un, Bool.or_false, Bool.false_or, Bool.or_true, Bool.true_or, Bool.and_true, Bool.true_and, Bool.and_false, Bool.false_and, Bool.not_true, Bool.not_false, List.not_mem_nil, if_true, if_false, ite_true, ite_false, and_true, true_and, forall_const, true_implies, false_implies, not_true, not_false, decide_true, decide_false, decide_eq_true_eq, Bool.false_eq_true, Bool.true_eq_false, and_self, not_true_eq_false, not_false_eq_true, ↓TP.CS_nil, ↓TP.CS_one, Int.reduceAdd, Int.reduceSub, Int.reduceMul, Int.reduceNeg, Int.reduceLT, Int.reduceLE, Int.reduceToNat, Int.reducePow, Nat.reduceAdd, Nat.reduceSub, Nat.reduceEqDiff, Int.reduceEq, Int.reduceFDiv, Int.reduceFMod, List.cons.injEq, reduceCtorEq, List.mem_cons, or_false, or_true, false_or, true_or, false_and, and_false, ne_eq, $xs,*])

/-- a state of the draws -/
structure Dr where
  a : Int
  b : Int
  ha : 0 ≤ a
  hb : 0 ≤ b
  hc : b < 2147483648
def Dr.pv (d : Dr) : PV := .lst [.int d.a, .int d.b]
def dDraw : Fd := ⟨2, 4, [], [.ite (.prim .gt [(.prim .idx [(.var 0), (.con (.int (0)))]), (.con (.int (0)))]) [.asg (.nm 2) (.prim .mod [(.prim .idx [(.var 0), (.con (.int (0)))]), (.var 1)]), .setix (.var 0) (.con (.int (0))) (.prim .fdiv [(.prim .idx [(.var 0), (.con (.int (0)))]), (.var 1)]), .ret (.var 2)] [], .asg (.nm 2) (.con (.int (0))), .asg (.nm 3) (.con (.int (1))), .while (.prim .lt [(.var 3), (.var 1)]) [.setix (.var 0) (.con (.int (1))) (.prim .mod [(.prim .mul [(.prim .idx [(.var 0), (.con (.int (1)))]), (.con (.int (69621)))]), (.con (.int (2147483647)))]), .asg (.nm 2) (.prim .add [(.prim .mul [(.var 2), (.con (.int (268435456)))]), (.prim .fdiv [(.prim .mod [(.prim .mul [(.prim .idx [(.var 0), (.con (.int (1)))]), (.prim .add [(.prim .fdiv [(.prim .idx [(.var 0), (.con (.int (1)))]), (.con (.int (128)))]), (.con (.int (3)))])]), (.con (.int (2147483629)))]), (.con (.int (8)))])]), .asg (.nm 3) (.prim .mul [(.var 3), (.con (.int (268435456)))])], .ret (.prim .mod [(.var 2), (.var 1)])]⟩
theorem wc_draw {tab : Tab} {n : Nat} {d : Dr} {many : Int} {sto : List SO} {Q : RV → List Sl → List SO → Prop} {X : PV → List Sl → List SO → Prop} (hl : tab.lookup ("_law_draw" : Str) = some dDraw) (hm : 1 ≤ many) (hb : many ≤ (wd 71 : Int))
    (q : ∀ (r : Int) (d' : Dr), 0 ≤ r → r < many → Q (.sh (.int r)) [.own d'.pv, .val (.int many)] sto) :
    WC (callF tab (n + 1) "_law_draw" [.own d.pv, .val (.int many)] sto) Q X := by
  obtain ⟨d0, d1, h0, h1, h2⟩ := d
  have hn : many ≠ 0 := by omega
  have hbig : intBig many = true := big_wd (by omega) (by omega) hb
  refine wc_def hl ⟨rfl, by decide⟩ ?_
  simp only [dDraw, Dr.pv]
  push_cast []
  constructor
  · intro ht
    have f1 := Int.fmod_eq_emod_of_nonneg d0 (b := many) (by omega)
    have f2 := Int.fdiv_eq_ediv_of_nonneg d0 (b := many) (by omega)
    refine q _ ⟨d0.fdiv many, d1, ?_, h1, h2⟩ ?_ ?_
    · rw [f2]; exact Int.ediv_nonneg h0 (by omega)
    · rw [f1]; exact Int.emod_nonneg _ hn
    · rw [f1]; exact Int.emod_lt_of_pos _ (by omega)
  · intro ht
    refine wh_rule (fun m s => ∃ (e1 fo : Int) (j : Nat), m = 80 - j ∧ j ≤ 79 ∧ s = ⟨[.own (.lst [.int d0, .int e1]), .val (.int many), .val (.int fo), .val (.int (wd j : Int))], sto⟩ ∧ 0 ≤ e1 ∧ e1 < 2147483648 ∧ 0 ≤ fo ∧ fo < (wd j : Int)) 80 (by decide) ⟨d1, 0, 0, rfl, by omega, rfl, h1, h2, by omega, by decide⟩ ?_
    rintro m s ⟨e1, fo, j, rfl, hj, rfl, i1, i2, i3, i4⟩
    push_cast []
    constructor
    · intro ht
      have hj2 : j ≤ 71 := by
        apply Classical.byContradiction
        intro hc
        have a1 : wd 71 ≤ wd j := wd_mono (by omega)
        omega
      have b1 : intBig e1 = true := big_lit (by omega)
      have b2 : intBig 69621 = true := big_lit (by omega)
      have b3 : intBig 128 = true := big_lit (by omega)
      have b4 : intBig 8 = true := big_lit (by omega)
      have b5 : intBig 268435456 = true := big_lit (by omega)
      have bf : intBig fo = true := big_wd (j := j) (by omega) i3 (by omega)
      have bj : intBig (wd j : Int) = true := big_wd (j := j) (by omega) (by omega) (by omega)
      push_cast []
      generalize hE : (e1 * 69621).fmod 2147483647 = E1
      have k1 : 0 ≤ E1 ∧ E1 < 2147483647 := by
        rw [← hE, Int.fmod_eq_emod_of_nonneg _ (by omega)]
        exact ⟨Int.emod_nonneg _ (by omega), Int.emod_lt_of_pos _ (by omega)⟩
      have c1 : intBig E1 = true := big_lit (by omega)
      have k2 : 0 ≤ E1.fdiv 128 ∧ E1.fdiv 128 ≤ 2147483647 := by
        rw [Int.fdiv_eq_ediv_of_nonneg _ (by omega)]
        omega
      have c2 : intBig (E1.fdiv 128 + 3) = true := big_lit (by omega)
      push_cast []
      generalize E1.fdiv 128 = E2 at *
      have k3 : 0 ≤ ((E1 * (E2 + 3)).fmod 2147483629).fdiv 8 ∧ ((E1 * (E2 + 3)).fmod 2147483629).fdiv 8 < 268435456 := by
        have a1 := Int.emod_nonneg (E1 * (E2 + 3)) (b := 2147483629) (by omega)
        have a2 := Int.emod_lt_of_pos (E1 * (E2 + 3)) (b := 2147483629) (by omega)
        rw [Int.fdiv_eq_ediv_of_nonneg _ (by omega), Int.fmod_eq_emod_of_nonneg _ (by omega)]
        omega
      generalize ((E1 * (E2 + 3)).fmod 2147483629).fdiv 8 = x at *
      refine ⟨80 - (j + 1), by omega, E1, fo * 268435456 + x, j + 1, rfl, by omega, ?_, k1.1, by omega, by omega, ?_⟩
      · have : ((wd (j + 1) : Nat) : Int) = (wd j : Int) * 268435456 := by simp [wd]
        rw [this]
      · have : ((wd (j + 1) : Nat) : Int) = (wd j : Int) * 268435456 := by simp [wd]
        rw [this]
        omega
    · intro ht
      push_cast []
      have f1 := Int.fmod_eq_emod_of_nonneg fo (b := many) (by omega)
      refine q _ ⟨d0, e1, h0, i1, i2⟩ ?_ ?_
      · rw [f1]; exact Int.emod_nonneg _ hn
      · rw [f1]; exact Int.emod_lt_of_pos _ (by omega)
end TP

set_option Elab.async false
set_option linter.all false
set_option maxRecDepth 100000
set_option maxHeartbeats 4000000
set_option exponentiation.threshold 20000
/-! Kl4: draws; worths. -/
namespace TP
open PySem
local macro_rules
  | `(tactic| push_cast [$xs,*]) => `(tactic| simp (maxSteps := 2000000) -implicitDefEqProofs -dsimp (disch := first | assumption | (with_reducible refine TP.big_lit ?_; omega) | decide | omega | (simp only [List.length_cons, List.length_nil, List.length_map, List.length_append, TP.szL]; omega)) only [TP.oK_some, TP.varK_val, TP.varK_own, TP.BR_t, TP.BR_f, TP.BR_d, ↓TP.wE_con, ↓TP.wE_dead, ↓TP.wEs_nil, ↓TP.wEs_cons, ↓TP.wE_prim1, ↓TP.wE_prim2, TP.strK_s, ↓TP.wE_sm, TP.dixK_s, ↓TP.wE_didx, TP.TS_bl, ↓TP.wE_not, ↓TP.wE_and1, ↓TP.wE_and, ↓TP.wE_or1, ↓TP.wE_or, ↓TP.wE_ite, ↓TP.wE_chain, ↓TP.KPs_nil, TP.keep_sh, TP.keep_fr, TP.keep_hd, TP.keepH_val, TP.keepH_own, ↓TP.wE_tup, ↓TP.wE_list, ↓TP.wE_call, ↓TP.wE_callK, TP.gloK_v, ↓TP.wE_callL, ↓TP.wE_mut, ↓TP.wE_slice, ↓TP.wE_lc, TP.itK_s, ↓TP.wI_of, TP.rgK_i, ↓TP.wI_range1, TP.rg2K_i, ↓TP.wI_range2, ↓TP.wI_enum, ↓TP.wI_rev, ↓TP.wI_zip, ↓TP.nxt_nx, ↓TP.nxt_br, ↓TP.nxt_ct, ↓TP.nxt_rt, ↓TP.lpQ_nx, ↓TP.lpQ_ct, ↓TP.lpQ_br, ↓TP.lpQ_rt, TP.BT_nm, TP.BT_tup, TP.BT_lst, TP.BTs_nil, TP.BTs_cons, TP.AG_sh, TP.AG_fr, TP.AG_frT, TP.AG_hd, TP.RT_sh, TP.RT_fr, TP.RT_hd, TP.rtH_val, TP.rtH_own, TP.rtH_par, ↓TP.wS_nil, ↓TP.wS_asg, ↓TP.wS_ret, ↓TP.wS_retN, ↓TP.wS_pass, ↓TP.wS_brk, ↓TP.wS_cont, ↓TP.wS_dead, ↓TP.wS_expr, ↓TP.wS_apc, ↓TP.wS_apn, ↓TP.wS_ite, ↓TP.wS_setix, ↓TP.wS_augU, TP.AU_v, ↓TP.wS_par, ↓TP.wS_asgR, ↓TP.wS_for, ↓TP.wS_while, ↓TP.dfQ_nx, ↓TP.dfQ_rt, ↓TP.wE_var', TP.cont_sh, TP.cont_fr, TP.cont_hd, TP.contH_val, TP.contH_own, TP.boxC_nl, TP.boxC_non, TP.boxC_bl, TP.boxC_int, TP.boxC_str, TP.boxC_tup, TP.boxC_lst, TP.boxC_rol, TP.boxC_ty, TP.boxC_glo, TP.putBack_hd, TP.pbH_own, TP.argsOf_nil, TP.argsOf_sh, TP.argsOf_fr, TP.argsOf_hd, TP.argH_val, TP.argH_own, TP.backE_nil, TP.backE_sh, TP.backE_fr, TP.backE_own, TP.backE_val, TP.permR_nil, TP.permR_inl, TP.permR_inr, TP.finA_nil, TP.finA_cons, TP.frzA_nil, TP.frzA_cons, TP.frz1_eq, TP.frH_own, TP.frH_val, TP.itemsOf_lst, TP.itemsOf_tup, TP.itemsOf_rol, TP.itemsOf_str, TP.enumOf_lst, TP.revOf_lst, TP.revOf_tup, TP.zipOf_lst, TP.zipOf_tup, TP.P1_s, TP.P2_s, TP.SM_s, TP.MU_s, TP.SX_s, TP.C2_s, TP.C2k_t, TP.C2k_f, TP.C2k_d, TP.BR_nd, TP.pm_add, TP.pm_sub, TP.pm_neg, TP.pm_addS, TP.pm_addT, TP.pm_addL, TP.pm_mul, TP.pm_fdiv, TP.pm_mod, TP.pm_pow, TP.pm_lt, TP.pm_le, TP.pm_gt, TP.pm_ge, TP.pm_isN, TP.pm_notN, TP.pm_isB, TP.pm_notB, TP.pm_idx_lst, TP.pm_len_lst, TP.pm_idx_tup, TP.pm_len_tup, TP.pm_idx_rol, TP.pm_len_rol, TP.pm_idx_str, TP.pm_len_str, TP.pm_abs, TP.pm_min2, TP.pm_max2, TP.pm_toIntI, TP.pm_toIntB, TP.pm_toTupL, TP.pm_toTupT, TP.pm_toList_lst, TP.pm_toList_tup, TP.pm_toList_rol, TP.pm_all, TP.pm_any, TP.pm_sum, TP.pm_revs, TP.pm_toStrI, TP.pm_joinL, TP.jnK_s, TP.pm_split, TP.pm_mulS, TP.pm_mulL, TP.pm_mulT, TP.pm_isinT, TP.pm_isinL, TP.pm_notinT, TP.pm_notinL, TP.pm_isinS, TP.pm_notinS, TP.pm_isi_non_int, TP.pm_isi_non_bool, TP.pm_isi_non_str, TP.pm_isi_non_tuple, TP.pm_isi_non_list, TP.pm_isi_non_dict, TP.pm_isi_bl_int, TP.pm_isi_bl_bool, TP.pm_isi_bl_str, TP.pm_isi_bl_tuple, TP.pm_isi_bl_list, TP.pm_isi_bl_dict, TP.pm_isi_int_int, TP.pm_isi_int_bool, TP.pm_isi_int_str, TP.pm_isi_int_tuple, TP.pm_isi_int_list, TP.pm_isi_int_dict, TP.pm_isi_str_int, TP.pm_isi_str_bool, TP.pm_isi_str_str, TP.pm_isi_str_tuple, TP.pm_isi_str_list, TP.pm_isi_str_dict, TP.pm_isi_tup_int, TP.pm_isi_tup_bool, TP.pm_isi_tup_str, TP.pm_isi_tup_tuple, TP.pm_isi_tup_list, TP.pm_isi_tup_dict, TP.pm_isi_lst_int, TP.pm_isi_lst_bool, TP.pm_isi_lst_str, TP.pm_isi_lst_tuple, TP.pm_isi_lst_list, TP.pm_isi_lst_dict, TP.mu_app, TP.mu_clear, TP.mu_reverse, TP.mutTy_s, TP.set_lst, TP.aug_add, TP.aug_sub, TP.sl_lst, TP.sl_tup, TP.sl_str, TP.bnd_abs, TP.bnd_int, TP.isAbs_non, TP.isAbs_int, TP.isAbs_var, TP.isAbs_prim, TP.isAbs_call, TP.bools_map, TP.ints_map, TP.strs_map, TP.ixN_0, TP.ixN_1, TP.atI_c0, TP.atI_nat, TP.atI_c1, TP.atI_c2, TP.atI_c3, TP.atI_c4, TP.atI_c5, TP.atI_c6, TP.atI_c7, TP.pm_eqI, TP.pm_neI, TP.tx_ok, TP.pm_eqS, TP.pm_neS, TP.any_str, TP.all_flat_str, TP.pm_isinT_s, TP.pm_notinT_s, TP.pm_isinL_s, TP.pm_notinL_s, TP.WC_ok, ↓TP.KPs_cons, List.getElem?_cons_succ, List.getElem?_cons_zero, List.set_cons_succ, List.set_cons_zero, List.cons_append, List.nil_append, List.length_cons, List.length_nil, Option.map_some, Option.bind_some, List.append_nil, List.getD_cons_zero, List.getD_cons_succ, List.replicate_succ, List.replicate_zero, TP.wipeS_nil, TP.wipeS_cons, TP.restS_nil, TP.restS_cons, TP.ownSlots_nil, TP.ownSlots_cons, TP.owH_val, TP.owH_un, Bool.or_false, Bool.false_or, Bool.or_true, Bool.true_or, Bool.and_true, Bool.true_and, Bool.and_false, Bool.false_and, Bool.not_true, Bool.not_false, List.not_mem_nil, if_true, if_false, ite_true, ite_false, and_true, true_and, forall_const, true_implies, false_implies, not_true, not_false, decide_true, decide_false, decide_eq_true_eq, Bool.false_eq_true, Bool.true_eq_false, and_self, not_true_eq_false, not_false_eq_true, ↓TP.CS_nil, ↓TP.CS_one, Int.reduceAdd, Int.reduceSub, Int.reduceMul, Int.reduceNeg, Int.reduceLT, Int.reduceLE, Int.reduceToNat, Int.reducePow, Nat.reduceAdd, Nat.reduceSub, Nat.reduceEqDiff, Int.reduceEq, Int.reduceFDiv, Int.reduceFMod, List.cons.injEq, reduceCtorEq, List.mem_cons, or_false, or_true, false_or, true_or, false_and, and_false, ne_eq, $xs,*])

def dDraws : Fd := ⟨2, 3, [], [.asg (.nm 2) (.prim .mul [(.con (.int (15485863))), (.var 1)]), .ite (.prim .lt [(.var 1), (.prim .len [(.var 0)])]) [.asg (.nm 2) (.prim .mod [(.prim .idx [(.var 0), (.var 1)]), (.prim .mul [(.prim .mul [(.prim .mul [(.prim .mul [(.prim .pow [(.con (.int (10))), (.con (.int (60)))]), (.prim .pow [(.con (.int (10))), (.con (.int (60)))])]), (.prim .pow [(.con (.int (10))), (.con (.int (60)))])]), (.prim .pow [(.con (.int (10))), (.con (.int (60)))])]), (.prim .pow [(.con (.int (10))), (.con (.int (60)))])])])] [.ite (.prim .gt [(.prim .len [(.var 0)]), (.con (.int (0)))]) [.asg (.nm 2) (.prim .add [(.prim .mod [(.prim .idx [(.var 0), (.prim .mod [(.var 1), (.prim .len [(.var 0)])])]), (.prim .pow [(.con (.int (10))), (.con (.int (15)))])]), (.prim .mul [(.con (.int (15485863))), (.var 1)])])] []], .ret (.list [(.prim .mul [(.var 2), (.prim .toInt [(.prim .ge [(.var 2), (.prim .pow [(.con (.int (10))), (.con (.int (18)))])])])]), (.prim .add [(.con (.int (1))), (.prim .mod [(.prim .add [(.prim .mul [(.var 2), (.con (.int (69621)))]), (.prim .mul [(.con (.int (86028121))), (.prim .add [(.var 1), (.con (.int (1)))])])]), (.con (.int (2147483646)))])])])]⟩
theorem wc_draws {tab : Tab} {n : Nat} {ns : List Int} {k : Nat} {sto : List SO} {Q : RV → List Sl → List SO → Prop} {X : PV → List Sl → List SO → Prop} (hl : tab.lookup ("_law_draws" : Str) = some dDraws) (hk : k < 64)
    (q : ∀ d : Dr, Q (.fr d.pv) [.val (.rol (ns.map PV.int)), .val (.int k)] sto) :
    WC (callF tab (n + 1) "_law_draws" [.val (.rol (ns.map PV.int)), .val (.int (k : Int))] sto) Q X := by
  have w1 : ∀ c : Int, c ≤ 268435456 * 268435456 * 268435456 → c ≤ (wd 60 : Int) := fun c h => by
    have : wd 3 ≤ wd 60 := wd_mono (by omega)
    have e : ((wd 3 : Nat) : Int) = 268435456 * 268435456 * 268435456 := by simp [wd]
    omega
  have b1 : intBig 15485863 = true := big_lit (by omega)
  have b2 : intBig (k : Int) = true := big_lit (by omega)
  have b3 : intBig 86028121 = true := big_lit (by omega)
  have b4 : intBig ((k : Int) + 1) = true := big_lit (by omega)
  have b5 : intBig 69621 = true := big_lit (by omega)
  have fin : ∀ c : Int, 0 ≤ c → c ≤ (wd 60 : Int) → 0 ≤ c * (if 1000000000000000000 ≤ c then (1:Int) else 0) ∧ 0 ≤ 1 + (c * 69621 + 86028121 * ((k : Int) + 1)).fmod 2147483646 ∧ 1 + (c * 69621 + 86028121 * ((k : Int) + 1)).fmod 2147483646 < 2147483648 := by
    intro c h0 h1
    refine ⟨?_, ?_, ?_⟩
    · split <;> omega
    · rw [Int.fmod_eq_emod_of_nonneg _ (by omega)]
      have := Int.emod_nonneg (c * 69621 + 86028121 * ((k : Int) + 1)) (b := 2147483646) (by omega)
      omega
    · rw [Int.fmod_eq_emod_of_nonneg _ (by omega)]
      have := Int.emod_lt_of_pos (c * 69621 + 86028121 * ((k : Int) + 1)) (b := 2147483646) (by omega)
      omega
  have b6 : ∀ c : Int, intBig (if 1000000000000000000 ≤ c then (1:Int) else 0) = true := fun c => big_lit (by split <;> omega)
  refine wc_def hl ⟨rfl, by decide⟩ ?_
  simp only [dDraws]
  push_cast [List.length_map]
  refine ⟨fun ht => ?_, fun ht => ?_⟩
  · have hkn : k < ns.length := by omega
    rw [atI_nat (by simpa using hkn)]
    have bp : intBig (1000000000000000000000000000000000000000000000000000000000000 : Int) = true := big_lit (by omega)
    have bp2 : intBig (1000000000000000000000000000000000000000000000000000000000000000000000000000000000000000000000000000000000000000000000000 : Int) = true := by decide +kernel
    have bp3 : intBig (1000000000000000000000000000000000000000000000000000000000000000000000000000000000000000000000000000000000000000000000000000000000000000000000000000000000000000000000000000000000000 : Int) = true := by decide +kernel
    have bp4 : intBig (1000000000000000000000000000000000000000000000000000000000000000000000000000000000000000000000000000000000000000000000000000000000000000000000000000000000000000000000000000000000000000000000000000000000000000000000000000000000000000000000000 : Int) = true := by decide +kernel
    push_cast [List.getElem_map]
    generalize ns[k] = x
    have key : ∀ M : Int, 0 < M → M ≤ (wd 60 : Int) → 0 ≤ x.fmod M ∧ x.fmod M ≤ (wd 60 : Int) := fun M h1 h2 => by
      have e1 := Int.fmod_eq_emod_of_nonneg x (b := M) (by omega)
      have e2 := Int.emod_nonneg x (b := M) (by omega)
      have e3 := Int.emod_lt_of_pos x (b := M) (by omega)
      omega
    obtain ⟨c0, c1⟩ := key 1000000000000000000000000000000000000000000000000000000000000000000000000000000000000000000000000000000000000000000000000000000000000000000000000000000000000000000000000000000000000000000000000000000000000000000000000000000000000000000000000000000000000000000000000000000000000000000000000000000000000 (by omega) (by
      have : wd 36 ≤ wd 60 := wd_mono (by omega)
      have e : (1000000000000000000000000000000000000000000000000000000000000000000000000000000000000000000000000000000000000000000000000000000000000000000000000000000000000000000000000000000000000000000000000000000000000000000000000000000000000000000000000000000000000000000000000000000000000000000000000000000000000 : Nat) ≤ wd 36 := by decide +kernel
      omega)
    generalize x.fmod 1000000000000000000000000000000000000000000000000000000000000000000000000000000000000000000000000000000000000000000000000000000000000000000000000000000000000000000000000000000000000000000000000000000000000000000000000000000000000000000000000000000000000000000000000000000000000000000000000000000000000 = c at c0 c1 ⊢
    have bc : intBig c = true := big_wd (j := 60) (by omega) c0 c1
    have := b6 c
    push_cast []
    obtain ⟨f1, f2, f3⟩ := fin c c0 c1
    exact q ⟨_, _, f1, f2, f3⟩
  · refine ⟨fun ht2 => ?_, fun ht2 => ?_⟩
    · have hpos : 0 < ns.length := by omega
      have hn0 : (ns.length : Int) ≠ 0 := by omega
      have e0 : ((k : Int).fmod (ns.length : Int)) = ((k % ns.length : Nat) : Int) := by
        rw [Int.fmod_eq_emod_of_nonneg _ (by omega)]
        rfl
      have hkn : k % ns.length < ns.length := Nat.mod_lt k hpos
      push_cast [List.length_map]
      rw [e0, atI_nat (by simpa using hkn)]
      push_cast [List.getElem_map]
      generalize ns[k % ns.length] = x
      push_cast []
      have e1 := Int.fmod_eq_emod_of_nonneg x (b := 1000000000000000) (by omega)
      have e2 := Int.emod_nonneg x (b := 1000000000000000) (by omega)
      have e3 := Int.emod_lt_of_pos x (b := 1000000000000000) (by omega)
      have c0 : 0 ≤ x.fmod 1000000000000000 + 15485863 * (k : Int) := by omega
      have c1 : x.fmod 1000000000000000 + 15485863 * (k : Int) ≤ (wd 60 : Int) := w1 _ (by omega)
      generalize x.fmod 1000000000000000 + 15485863 * (k : Int) = c at c0 c1 ⊢
      have bc : intBig c = true := big_wd (j := 60) (by omega) c0 c1
      have := b6 c
      push_cast []
      obtain ⟨f1, f2, f3⟩ := fin c c0 c1
      exact q ⟨_, _, f1, f2, f3⟩
    · have c0 : 0 ≤ 15485863 * (k : Int) := by omega
      have c1 : 15485863 * (k : Int) ≤ (wd 60 : Int) := w1 _ (by omega)
      generalize 15485863 * (k : Int) = c at c0 c1 ⊢
      have bc : intBig c = true := big_wd (j := 60) (by omega) c0 c1
      have := b6 c
      push_cast []
      obtain ⟨f1, f2, f3⟩ := fin c c0 c1
      exact q ⟨_, _, f1, f2, f3⟩
end TP

set_option Elab.async false
set_option linter.all false
set_option maxRecDepth 100000
set_option maxHeartbeats 4000000
/-! Kt1: marks of a row, in plain Lean. -/
namespace TP
open PySem
def LETs : List Nat := [97, 98, 99, 100, 101, 102, 103, 104, 105, 106, 107, 108, 109, 110, 111, 112, 113, 114, 115, 116, 117, 118, 119, 120, 121, 122]
def FIGs : List Nat := [48, 49, 50, 51, 52, 53, 54, 55, 56, 57]
def SGNs : List Nat := [61, 45, 62, 91, 93, 40, 41, 43, 42, 60, 58]
def SIGNs : List (List Nat) := [[61, 61], [45, 62], [91, 93], [40], [41], [43], [45], [42], [60], [61], [58]]
def KEYs : List (List Nat) := [[108, 101, 116], [105, 102], [116, 104, 101, 110], [101, 108, 115, 101], [99, 97, 115, 101], [111, 102], [100, 105, 118], [109, 111, 100], [97, 110, 100], [111, 114]]
def kKey : List Nat := [107, 101, 121]
def kName : List Nat := [110, 97, 109, 101]
def kNum : List Nat := [110, 117, 109, 98, 101, 114]
def kSign : List Nat := [115, 105, 103, 110]
def tw (z s : List Nat) : List Nat := s.takeWhile fun c => decide (c ∈ z)
theorem tw_cons {z s : List Nat} {c : Nat} : tw z (c :: s) = if c ∈ z then c :: tw z s else [] := by
  unfold tw
  rw [List.takeWhile_cons]
  by_cases h : c ∈ z <;> simp [h]
theorem tw_app {z w r : List Nat} (h : ∀ c ∈ w, c ∈ z) (k : ∀ b, r.head? = some b → b ∉ z) : tw z (w ++ r) = w := by
  induction w with
  | nil =>
    cases r with
    | nil => rfl
    | cons b r => rw [List.nil_append, tw_cons, if_neg (k b rfl)]
  | cons c w ih =>
    rw [List.cons_append, tw_cons, if_pos (h c (List.mem_cons_self ..)), ih fun d hd => h d (List.mem_cons_of_mem _ hd)]
theorem tw_take {z s : List Nat} : s.take (tw z s).length = tw z s := by
  induction s with
  | nil => rfl
  | cons c s ih =>
    rw [tw_cons]
    split
    · rw [List.length_cons, List.take_succ_cons, ih]
    · rfl
theorem tw_len {z s : List Nat} : (tw z s).length ≤ s.length := by
  induction s with
  | nil => exact Nat.le_refl _
  | cons c s ih =>
    rw [tw_cons]
    split
    · simp only [List.length_cons]; omega
    · simp
/-- the first mark of a row that begins with one -/
def tok (s : List Nat) : Option (List Nat × List Nat) :=
  if tw LETs s ≠ [] then (if 8 < (tw LETs s).length then none else some (if tw LETs s ∈ KEYs then kKey else kName, tw LETs s))
  else if tw FIGs s ≠ [] then (if 9 < (tw FIGs s).length ∨ (1 < (tw FIGs s).length ∧ (tw FIGs s).head? = some 48) then none else some (kNum, tw FIGs s))
  else (SIGNs.find? fun g => decide (s.take g.length = g)).map fun g => (kSign, g)
structure Mk where
  kind : List Nat
  word : List Nat
  line : Nat
  col : Nat
def Mk.pv (m : Mk) : PV := .tup [.str m.kind, .str m.word, .int (m.line : Int), .int (m.col : Int)]
/-- marks of what is left of a row -/
inductive Sc (line : Nat) : Nat → List Nat → List Mk → Prop
  | nil {k : Nat} : Sc line k [] []
  | rem {k : Nat} {s : List Nat} : Sc line k (35 :: s) []
  | blank {k : Nat} {s : List Nat} {ms : List Mk} : Sc line (k + 1) s ms → Sc line k (32 :: s) ms
  | tok {k c : Nat} {s kd w : List Nat} {ms : List Mk} : c ≠ 35 → c ≠ 32 → tok (c :: s) = some (kd, w) → 1 ≤ w.length → Sc line (k + w.length) ((c :: s).drop w.length) ms → Sc line k (c :: s) (⟨kd, w, line, k⟩ :: ms)
inductive Scs : Nat → List (List Nat) → List Mk → Prop
  | nil {l : Nat} : Scs l [] []
  | cons {l : Nat} {r : List Nat} {rs : List (List Nat)} {ms ms' : List Mk} : Sc l 0 r ms → Scs (l + 1) rs ms' → Scs l (r :: rs) (ms ++ ms')
theorem Scs.app {rs : List (List Nat)} {ms : List Mk} {l : Nat} (h : Scs l rs ms) {r : List Nat} {ms' : List Mk} (k : Sc (l + rs.length) 0 r ms') : Scs l (rs ++ [r]) (ms ++ ms') := by
  induction h with
  | nil => simpa using Scs.cons k .nil
  | cons a b ih =>
    rw [List.cons_append, List.append_assoc]
    refine .cons a (ih ?_)
    rw [List.length_cons] at k
    have e : ∀ a b : Nat, a + (b + 1) = a + 1 + b := by omega
    rw [e] at k
    exact k
/-- a mark's word -/
inductive Tk : List Nat → List Nat → Prop
  | lt {w : List Nat} : w ≠ [] → (∀ c ∈ w, c ∈ LETs) → w.length ≤ 8 → Tk (if w ∈ KEYs then kKey else kName) w
  | nm {w : List Nat} : w ≠ [] → (∀ c ∈ w, c ∈ FIGs) → w.length ≤ 9 → (1 < w.length → w.head? ≠ some 48) → Tk kNum w
  | sg {w : List Nat} : w ∈ SIGNs → Tk kSign w
def glue (a b : Nat) : Prop := (a ∈ LETs ∧ b ∈ LETs) ∨ (a ∈ FIGs ∧ b ∈ FIGs) ∨ (a ∈ SGNs ∧ b ∈ SGNs)
def sep (s r : List Nat) : Prop := ∀ a b, s.getLast? = some a → r.head? = some b → ¬ glue a b
theorem Tk.ne {k w : List Nat} (h : Tk k w) : w ≠ [] := by
  cases h with
  | lt h => exact h
  | nm h => exact h
  | sg h => rintro rfl; exact absurd h (by decide)
theorem Tk.len {k w : List Nat} (h : Tk k w) : 1 ≤ w.length ∧ w.length ≤ 9 := by
  refine ⟨List.length_pos_iff.mpr h.ne, ?_⟩
  cases h with
  | lt _ _ h => omega
  | nm _ _ h _ => omega
  | sg h => simp only [SIGNs, List.mem_cons, List.not_mem_nil, or_false] at h; rcases h with rfl | rfl | rfl | rfl | rfl | rfl | rfl | rfl | rfl | rfl | rfl <;> decide
theorem last_mem {w : List Nat} {P : Nat → Prop} (h : ∀ c ∈ w, P c) (hn : w ≠ []) : ∃ a, w.getLast? = some a ∧ P a := ⟨w.getLast hn, List.getLast?_eq_some_getLast hn, h _ (List.getLast_mem hn)⟩
theorem LF {c : Nat} (h : c ∈ LETs) : c ∉ FIGs ∧ c ∉ SGNs ∧ c ≠ 32 ∧ c ≠ 35 ∧ c ≠ 10 ∧ c < 128 := by
  simp only [LETs, List.mem_cons, List.not_mem_nil, or_false] at h
  have h2 : 97 ≤ c ∧ c ≤ 122 := by omega
  simp only [FIGs, SGNs, List.mem_cons, List.not_mem_nil, or_false]
  omega
theorem FL {c : Nat} (h : c ∈ FIGs) : c ∉ LETs ∧ c ∉ SGNs ∧ c ≠ 32 ∧ c ≠ 35 ∧ c ≠ 10 ∧ c < 128 := by
  simp only [FIGs, List.mem_cons, List.not_mem_nil, or_false] at h
  have h2 : 48 ≤ c ∧ c ≤ 57 := by omega
  simp only [LETs, SGNs, List.mem_cons, List.not_mem_nil, or_false]
  omega
theorem SL {c : Nat} (h : c ∈ SGNs) : c ∉ LETs ∧ c ∉ FIGs ∧ c ≠ 32 ∧ c ≠ 35 ∧ c ≠ 10 ∧ c < 128 := by
  simp only [SGNs, List.mem_cons, List.not_mem_nil, or_false] at h
  simp only [LETs, FIGs, List.mem_cons, List.not_mem_nil, or_false]
  omega
theorem sg_chars {w : List Nat} (h : w ∈ SIGNs) : ∀ c ∈ w, c ∈ SGNs := by
  simp only [SIGNs, List.mem_cons, List.not_mem_nil, or_false] at h
  rcases h with rfl | rfl | rfl | rfl | rfl | rfl | rfl | rfl | rfl | rfl | rfl <;> decide
theorem Tk.chars {k w : List Nat} (h : Tk k w) : ∀ c ∈ w, c ≠ 32 ∧ c ≠ 35 ∧ c ≠ 10 ∧ c < 128 := by
  intro c hc
  cases h with
  | lt _ h => exact (LF (h c hc)).2.2
  | nm _ h => exact (FL (h c hc)).2.2
  | sg h => exact (SL (sg_chars h c hc)).2.2
theorem tok_app {k w r : List Nat} (h : Tk k w) (hs : sep w r) : tok (w ++ r) = some (k, w) := by
  cases h with
  | lt hn hc hl =>
    obtain ⟨a, ha, hm⟩ := last_mem hc hn
    have e : tw LETs (w ++ r) = w := tw_app hc fun b hb hbL => hs a b ha hb (.inl ⟨hm, hbL⟩)
    unfold tok
    rw [e, if_pos hn, if_neg (by omega)]
  | nm hn hc hl h0 =>
    obtain ⟨a, ha, hm⟩ := last_mem hc hn
    have e : tw FIGs (w ++ r) = w := tw_app hc fun b hb hbL => hs a b ha hb (.inr (.inl ⟨hm, hbL⟩))
    have e2 : tw LETs (w ++ r) = [] := by
      cases w with
      | nil => exact absurd rfl hn
      | cons c w => rw [List.cons_append, tw_cons, if_neg (FL (hc c (List.mem_cons_self ..))).1]
    unfold tok
    rw [e2, e, if_neg (by simp), if_pos hn, if_neg (by rintro (h | ⟨h, h'⟩); omega; exact h0 h h')]
  | sg hw =>
    have hc := sg_chars hw
    have hn : w ≠ [] := Tk.ne (.sg hw)
    obtain ⟨a, ha, hm⟩ := last_mem hc hn
    have e2 : tw LETs (w ++ r) = [] := by
      cases w with
      | nil => exact absurd rfl hn
      | cons c w => rw [List.cons_append, tw_cons, if_neg (SL (hc c (List.mem_cons_self ..))).1]
    have e3 : tw FIGs (w ++ r) = [] := by
      cases w with
      | nil => exact absurd rfl hn
      | cons c w => rw [List.cons_append, tw_cons, if_neg (SL (hc c (List.mem_cons_self ..))).2.1]
    unfold tok
    rw [e2, e3, if_neg (by simp), if_neg (by simp)]
    have fin : (SIGNs.find? fun g => decide ((w ++ r).take g.length = g)) = some w := by
      cases r with
      | nil =>
        rw [List.append_nil]
        simp only [SIGNs, List.mem_cons, List.not_mem_nil, or_false] at hw
        rcases hw with rfl | rfl | rfl | rfl | rfl | rfl | rfl | rfl | rfl | rfl | rfl <;> decide
      | cons b r =>
        have hb : b ∉ SGNs := fun hb => hs a b ha rfl (.inr (.inr ⟨hm, hb⟩))
        simp only [SGNs, List.mem_cons, List.not_mem_nil, or_false, not_or] at hb
        simp only [SIGNs, List.mem_cons, List.not_mem_nil, or_false] at hw
        rcases hw with rfl | rfl | rfl | rfl | rfl | rfl | rfl | rfl | rfl | rfl | rfl <;> simp [SIGNs, hb]
    rw [fin]
    rfl
/-- a row as it grows: blanks and marks -/
inductive Ln (line : Nat) : List Nat → List Mk → Prop
  | nil : Ln line [] []
  | blank {s : List Nat} {ms : List Mk} : Ln line s ms → Ln line (s ++ [32]) ms
  | word {s k w : List Nat} {ms : List Mk} : Ln line s ms → Tk k w → sep s w → Ln line (s ++ w) (ms ++ [⟨k, w, line, s.length⟩])
theorem sep_app {s w r : List Nat} (h : sep s w) (hn : w ≠ []) : sep s (w ++ r) := by
  intro a b ha hb
  cases w with
  | nil => exact absurd rfl hn
  | cons c w => exact h a b ha hb
theorem sep_end {s w r : List Nat} (h : sep (s ++ w) r) (hn : w ≠ []) : sep w r := by
  intro a b ha hb
  refine h a b ?_ hb
  rw [List.getLast?_append, ha]
  rfl
theorem sep_bl {s r : List Nat} {b : Nat} (h : b = 32 ∨ b = 35 ∨ b = 33) : sep s (b :: r) := by
  intro a c ha hc
  cases hc
  have : b ∉ LETs ∧ b ∉ FIGs ∧ b ∉ SGNs := by rcases h with rfl | rfl | rfl <;> decide
  rintro (⟨_, h⟩ | ⟨_, h⟩ | ⟨_, h⟩)
  · exact this.1 h
  · exact this.2.1 h
  · exact this.2.2 h
theorem sep_nil {s : List Nat} : sep s [] := fun a b _ h => nomatch h
theorem sep_bl2 {s r : List Nat} : sep (s ++ [32]) r := by
  intro a b ha hb
  rw [List.getLast?_append] at ha
  cases ha
  rintro (⟨h, _⟩ | ⟨h, _⟩ | ⟨h, _⟩) <;> exact absurd h (by decide)
theorem Ln.sc {line : Nat} {s : List Nat} {ms : List Mk} (h : Ln line s ms) : ∀ {r : List Nat} {ms' : List Mk}, sep s r → Sc line s.length r ms' → Sc line 0 (s ++ r) (ms ++ ms') := by
  induction h with
  | nil => intro r ms' _ h; exact h
  | blank a ih =>
    intro r ms' hs h
    rw [List.append_assoc]
    refine ih (sep_bl (.inl rfl)) (.blank ?_)
    simpa using h
  | word a hk hw ih =>
    intro r ms' hs h
    rw [List.append_assoc, List.append_assoc]
    refine ih (sep_app hw hk.ne) ?_
    have ht := tok_app hk (sep_end hs hk.ne)
    have hch := hk.chars
    have hl := hk.len
    rename_i w _
    cases w with
    | nil => exact absurd rfl hk.ne
    | cons c w =>
      rw [List.cons_append] at ht ⊢
      refine .tok (hch c (List.mem_cons_self ..)).2.1 (hch c (List.mem_cons_self ..)).1 ht hl.1 ?_
      rw [← List.cons_append, List.drop_left]
      rw [List.length_append] at h
      exact h
theorem Ln.blanks {line : Nat} {s : List Nat} {ms : List Mk} (h : Ln line s ms) (n : Nat) : Ln line (s ++ List.replicate n 32) ms := by
  induction n generalizing s with
  | zero => simpa using h
  | succ n ih =>
    have := ih h.blank
    rwa [List.append_assoc, List.singleton_append, ← List.replicate_succ] at this
theorem Ln.chars {line : Nat} {s : List Nat} {ms : List Mk} (h : Ln line s ms) : ∀ c ∈ s, c ≠ 10 ∧ c < 128 := by
  induction h with
  | nil => intro c hc; cases hc
  | blank a ih =>
    intro c hc
    rcases List.mem_append.mp hc with hc | hc
    · exact ih c hc
    · cases List.mem_singleton.mp hc; decide
  | word a hk hw ih =>
    intro c hc
    rcases List.mem_append.mp hc with hc | hc
    · exact ih c hc
    · exact (hk.chars c hc).2.2
/-! rows of a text -/
def flat (rs : List (List Nat)) : List Nat := (rs.map fun r => r ++ [10]).flatten
theorem spl_row {r t : List Nat} (h : 10 ∉ r) : ∀ acc : List Nat, TL.spl [10] 0 acc (r ++ 10 :: t) = (acc ++ r) :: TL.spl [10] 0 [] t := by
  induction r with
  | nil =>
    intro acc
    rw [List.nil_append, TL.spl_hit (by simp [TL.pre]), List.append_nil]
    rfl
  | cons c r ih =>
    intro acc
    have hc : ¬ c = 10 := fun e => h (by simp [e])
    have e : TL.spl [10] 0 acc (c :: (r ++ 10 :: t)) = TL.spl [10] 0 (acc ++ [c]) (r ++ 10 :: t) := by
      show (if TL.pre [10] (c :: (r ++ 10 :: t)) = true then _ else _) = _
      rw [if_neg (by simp [TL.pre, hc])]
    rw [List.cons_append, e, ih (fun hm => h (List.mem_cons_of_mem _ hm)), List.append_assoc]
    rfl
theorem spl_last {r : List Nat} (h : 10 ∉ r) : ∀ acc : List Nat, TL.spl [10] 0 acc r = [acc ++ r] := by
  induction r with
  | nil => intro acc; rw [TL.spl_nil, List.append_nil]
  | cons c r ih =>
    intro acc
    have hc : ¬ c = 10 := fun e => h (by simp [e])
    have e : TL.spl [10] 0 acc (c :: r) = TL.spl [10] 0 (acc ++ [c]) r := by
      show (if TL.pre [10] (c :: r) = true then _ else _) = _
      rw [if_neg (by simp [TL.pre, hc])]
    rw [e, ih (fun hm => h (List.mem_cons_of_mem _ hm)), List.append_assoc]
    rfl
theorem spl_rows {rs : List (List Nat)} {cur : List Nat} (h : ∀ r ∈ rs, 10 ∉ r) (hc : 10 ∉ cur) : TL.spl [10] 0 [] (flat rs ++ cur) = rs ++ [cur] := by
  induction rs with
  | nil => exact (spl_last hc []).trans (by simp)
  | cons r rs ih =>
    have e : flat (r :: rs) ++ cur = r ++ 10 :: (flat rs ++ cur) := by simp [flat]
    rw [e, spl_row (h r (List.mem_cons_self ..)), ih fun x hx => h x (List.mem_cons_of_mem _ hx)]
    rfl
end TP

set_option Elab.async false
set_option linter.all false
set_option maxRecDepth 100000
set_option maxHeartbeats 4000000
/-! Kt2: marks. -/
namespace TP
open PySem
local macro_rules
  | `(tactic| push_cast [$xs,*]) => `(tactic| simp (maxSteps := 2000000) -implicitDefEqProofs -dsimp (disch := first | assumption | (with_reducible refine TP.big_lit ?_; omega) | decide | omega | (simp only [List.length_cons, List.length_nil, List.length_map, List.length_append, TP.szL]; omega)) only [TP.oK_some, TP.varK_val, TP.varK_own, TP.BR_t, TP.BR_f, TP.BR_d, ↓TP.wE_con, ↓TP.wE_dead, ↓TP.wEs_nil, ↓TP.wEs_cons, ↓TP.wE_prim1, ↓TP.wE_prim2, TP.strK_s, ↓TP.wE_sm, TP.dixK_s, ↓TP.wE_didx, TP.TS_bl, ↓TP.wE_not, ↓TP.wE_and1, ↓TP.wE_and, ↓TP.wE_or1, ↓TP.wE_or, ↓TP.wE_ite, ↓TP.wE_chain, ↓TP.KPs_nil, TP.keep_sh, TP.keep_fr, TP.keep_hd, TP.keepH_val, TP.keepH_own, ↓TP.wE_tup, ↓TP.wE_list, ↓TP.wE_call, ↓TP.wE_callK, TP.gloK_v, ↓TP.wE_callL, ↓TP.wE_mut, ↓TP.wE_slice, ↓TP.wE_lc, TP.itK_s, ↓TP.wI_of, TP.rgK_i, ↓TP.wI_range1, TP.rg2K_i, ↓TP.wI_range2, ↓TP.wI_enum, ↓TP.wI_rev, ↓TP.wI_zip, ↓TP.nxt_nx, ↓TP.nxt_br, ↓TP.nxt_ct, ↓TP.nxt_rt, ↓TP.lpQ_nx, ↓TP.lpQ_ct, ↓TP.lpQ_br, ↓TP.lpQ_rt, TP.BT_nm, TP.BT_tup, TP.BT_lst, TP.BTs_nil, TP.BTs_cons, TP.AG_sh, TP.AG_fr, TP.AG_frT, TP.AG_hd, TP.RT_sh, TP.RT_fr, TP.RT_hd, TP.rtH_val, TP.rtH_own, TP.rtH_par, ↓TP.wS_nil, ↓TP.wS_asg, ↓TP.wS_ret, ↓TP.wS_retN, ↓TP.wS_pass, ↓TP.wS_brk, ↓TP.wS_cont, ↓TP.wS_dead, ↓TP.wS_expr, ↓TP.wS_apc, ↓TP.wS_apn, ↓TP.wS_ite, ↓TP.wS_setix, ↓TP.wS_augU, TP.AU_v, ↓TP.wS_par, ↓TP.wS_asgR, ↓TP.wS_for, ↓TP.wS_while, ↓TP.dfQ_nx, ↓TP.dfQ_rt, ↓TP.wE_var', TP.cont_sh, TP.cont_fr, TP.cont_hd, TP.contH_val, TP.contH_own, TP.boxC_nl, TP.boxC_non, TP.boxC_bl, TP.boxC_int, TP.boxC_str, TP.boxC_tup, TP.boxC_lst, TP.boxC_rol, TP.boxC_ty, TP.boxC_glo, TP.putBack_hd, TP.pbH_own, TP.argsOf_nil, TP.argsOf_sh, TP.argsOf_fr, TP.argsOf_hd, TP.argH_val, TP.argH_own, TP.backE_nil, TP.backE_sh, TP.backE_fr, TP.backE_own, TP.backE_val, TP.permR_nil, TP.permR_inl, TP.permR_inr, TP.finA_nil, TP.finA_cons, TP.frzA_nil, TP.frzA_cons, TP.frz1_eq, TP.frH_own, TP.frH_val, TP.itemsOf_lst, TP.itemsOf_tup, TP.itemsOf_rol, TP.itemsOf_str, TP.enumOf_lst, TP.revOf_lst, TP.revOf_tup, TP.zipOf_lst, TP.zipOf_tup, TP.P1_s, TP.P2_s, TP.SM_s, TP.MU_s, TP.SX_s, TP.C2_s, TP.C2k_t, TP.C2k_f, TP.C2k_d, TP.BR_nd, TP.pm_add, TP.pm_sub, TP.pm_neg, TP.pm_addS, TP.pm_addT, TP.pm_addL, TP.pm_mul, TP.pm_fdiv, TP.pm_mod, TP.pm_pow, TP.pm_lt, TP.pm_le, TP.pm_gt, TP.pm_ge, TP.pm_isN, TP.pm_notN, TP.pm_isB, TP.pm_notB, TP.pm_idx_lst, TP.pm_len_lst, TP.pm_idx_tup, TP.pm_len_tup, TP.pm_idx_rol, TP.pm_len_rol, TP.pm_idx_str, TP.pm_len_str, TP.pm_abs, TP.pm_min2, TP.pm_max2, TP.pm_toIntI, TP.pm_toIntB, TP.pm_toTupL, TP.pm_toTupT, TP.pm_toList_lst, TP.pm_toList_tup, TP.pm_toList_rol, TP.pm_all, TP.pm_any, TP.pm_sum, TP.pm_revs, TP.pm_toStrI, TP.pm_joinL, TP.jnK_s, TP.pm_split, TP.pm_mulS, TP.pm_mulL, TP.pm_mulT, TP.pm_isinT, TP.pm_isinL, TP.pm_notinT, TP.pm_notinL, TP.pm_isinS, TP.pm_notinS, TP.pm_isi_non_int, TP.pm_isi_non_bool, TP.pm_isi_non_str, TP.pm_isi_non_tuple, TP.pm_isi_non_list, TP.pm_isi_non_dict, TP.pm_isi_bl_int, TP.pm_isi_bl_bool, TP.pm_isi_bl_str, TP.pm_isi_bl_tuple, TP.pm_isi_bl_list, TP.pm_isi_bl_dict, TP.pm_isi_int_int, TP.pm_isi_int_bool, TP.pm_isi_int_str, TP.pm_isi_int_tuple, TP.pm_isi_int_list, TP.pm_isi_int_dict, TP.pm_isi_str_int, TP.pm_isi_str_bool, TP.pm_isi_str_str, TP.pm_isi_str_tuple, TP.pm_isi_str_list, TP.pm_isi_str_dict, TP.pm_isi_tup_int, TP.pm_isi_tup_bool, TP.pm_isi_tup_str, TP.pm_isi_tup_tuple, TP.pm_isi_tup_list, TP.pm_isi_tup_dict, TP.pm_isi_lst_int, TP.pm_isi_lst_bool, TP.pm_isi_lst_str, TP.pm_isi_lst_tuple, TP.pm_isi_lst_list, TP.pm_isi_lst_dict, TP.mu_app, TP.mu_clear, TP.mu_reverse, TP.mutTy_s, TP.set_lst, TP.aug_add, TP.aug_sub, TP.sl_lst, TP.sl_tup, TP.sl_str, TP.bnd_abs, TP.bnd_int, TP.isAbs_non, TP.isAbs_int, TP.isAbs_var, TP.isAbs_prim, TP.isAbs_call, TP.bools_map, TP.ints_map, TP.strs_map, TP.ixN_0, TP.ixN_1, TP.atI_c0, TP.atI_nat, TP.atI_c1, TP.atI_c2, TP.atI_c3, TP.atI_c4, TP.atI_c5, TP.atI_c6, TP.atI_c7, TP.pm_eqI, TP.pm_neI, TP.tx_ok, TP.pm_eqS, TP.pm_neS, TP.any_str, TP.all_flat_str, TP.pm_isinT_s, TP.pm_notinT_s, TP.pm_isinL_s, TP.pm_notinL_s, TP.WC_ok, ↓TP.KPs_cons, List.getElem?_cons_succ, List.getElem?_cons_zero, List.set_cons_succ, List.set_cons_zero, List.cons_append, List.nil_append, List.length_cons, List.length_nil, Option.map_some, Option.bind_some, List.append_nil, List.getD_cons_zero, List.getD_cons_succ, List.replicate_succ, List.replicate_zero, TP.wipeS_nil, TP.wipeS_cons, TP.restS_nil, TP.restS_cons, TP.ownSlots_nil, TP.ownSlots_cons, TP.owH_val, TP.owH_un, Bool.or_false, Bool.false_or, Bool.or_true, Bool.true_or, Bool.and_true, Bool.true_and, Bool.and_false, Bool.false_and, Bool.not_true, Bool.not_false, List.not_mem_nil, if_true, if_false, ite_true, ite_false, and_true, true_and, forall_const, true_implies, false_implies, not_true, not_false, decide_true, decide_false, decide_eq_true_eq, Bool.false_eq_true, Bool.true_eq_false, and_self, not_true_eq_false, not_false_eq_true, ↓TP.CS_nil, ↓TP.CS_one, Int.reduceAdd, Int.reduceSub, Int.reduceMul, Int.reduceNeg, Int.reduceLT, Int.reduceLE, Int.reduceToNat, Int.reducePow, Nat.reduceAdd, Nat.reduceSub, Nat.reduceEqDiff, Int.reduceEq, Int.reduceFDiv, Int.reduceFMod, List.cons.injEq, reduceCtorEq, List.mem_cons, or_false, or_true, false_or, true_or, false_and, and_false, ne_eq, $xs,*])

def dRunOf : Fd := ⟨3, 3, [1], [.while (.and [(.prim .lt [(.var 1), (.prim .len [(.var 0)])]), (.prim .isin [(.prim .idx [(.var 0), (.var 1)]), (.var 2)])]) [.aug 1 .add (.con (.int (1)))], .ret (.var 1)]⟩
def dMarkAt : Fd := ⟨3, 5, [], [.asg (.nm 3) (.slice (.var 0) (.var 1) (.call "run_of" [(.var 0), (.var 1), (.con (.str [97, 98, 99, 100, 101, 102, 103, 104, 105, 106, 107, 108, 109, 110, 111, 112, 113, 114, 115, 116, 117, 118, 119, 120, 121, 122]))])), .ite (.prim .ne [(.var 3), (.con (.str []))]) [.ite (.prim .gt [(.prim .len [(.var 3)]), (.con (.int (8)))]) [.dead] [], .ret (.tup [(.ite (.prim .isin [(.var 3), (.con (.tup [.str [108, 101, 116], .str [105, 102], .str [116, 104, 101, 110], .str [101, 108, 115, 101], .str [99, 97, 115, 101], .str [111, 102], .str [100, 105, 118], .str [109, 111, 100], .str [97, 110, 100], .str [111, 114]]))]) (.con (.str [107, 101, 121])) (.con (.str [110, 97, 109, 101]))), (.var 3), (.var 2), (.var 1)])] [], .asg (.nm 3) (.slice (.var 0) (.var 1) (.call "run_of" [(.var 0), (.var 1), (.con (.str [48, 49, 50, 51, 52, 53, 54, 55, 56, 57]))])), .ite (.prim .ne [(.var 3), (.con (.str []))]) [.ite (.or [(.prim .gt [(.prim .len [(.var 3)]), (.con (.int (9)))]), (.and [(.prim .gt [(.prim .len [(.var 3)]), (.con (.int (1)))]), (.prim .eq [(.prim .idx [(.var 3), (.con (.int (0)))]), (.con (.str [48]))])])]) [.dead] [], .ret (.tup [(.con (.str [110, 117, 109, 98, 101, 114])), (.var 3), (.var 2), (.var 1)])] [], .for (.nm 4) (.of (.con (.tup [.str [61, 61], .str [45, 62], .str [91, 93], .str [40], .str [41], .str [43], .str [45], .str [42], .str [60], .str [61], .str [58]]))) [.ite (.prim .eq [(.slice (.var 0) (.var 1) (.prim .add [(.var 1), (.prim .len [(.var 4)])])), (.var 4)]) [.ret (.tup [(.con (.str [115, 105, 103, 110])), (.var 4), (.var 2), (.var 1)])] []], .dead]⟩
def dMarks : Fd := ⟨1, 6, [], [.asg (.nm 1) (.list []), .for (.tp [(.nm 2), (.nm 3)]) (.enum (.sm .split (.var 0) (.con (.str [10])))) [.asg (.nm 4) (.con (.int (0))), .while (.and [(.prim .lt [(.var 4), (.prim .len [(.var 3)])]), (.prim .ne [(.prim .idx [(.var 3), (.var 4)]), (.con (.str [35]))])]) [.ite (.prim .eq [(.prim .idx [(.var 3), (.var 4)]), (.con (.str [32]))]) [.aug 4 .add (.con (.int (1)))] [.asg (.nm 5) (.call "mark_at" [(.var 3), (.var 4), (.var 2)]), .expr (.mut .append (.var 1) [(.var 5)]), .aug 4 .add (.prim .len [(.prim .idx [(.var 5), (.con (.int (1)))])])]]], .ret (.var 1)]⟩
theorem atI_sn {row : List Nat} {k : Nat} (h : k < row.length) : L2.atI row (k : Int) = some row[k] := atI_nat h
theorem cf_run {tab : Tab} {n : Nat} {row z : List Nat} {k : Nat} {sto : List SO} (hl : tab.lookup ("run_of" : Str) = some dRunOf) (hn : 1 ≤ n) (hk : k ≤ row.length) (hr : row.length ≤ 1000000) :
    callF tab n "run_of" [.val (.str row), .val (.int (k : Int)), .val (.str z)] sto = .ok (.sh (.int (((k + (tw z (row.drop k)).length : Nat)) : Int))) [.val (.str row), .val (.int (k : Int)), .val (.str z)] sto := by
  obtain ⟨n, rfl⟩ : ∃ m, n = m + 1 := ⟨n - 1, by omega⟩
  refine eq_of_WC (wc_def hl ⟨rfl, by decide⟩ ?_)
  simp only [dRunOf]
  have hs : row.length ≤ szL := by unfold szL; omega
  push_cast []
  refine wh_rule (fun m s => ∃ j : Nat, j ≤ row.length ∧ m = row.length - j ∧ s = ⟨[.val (.str row), .val (.int (j : Int)), .val (.str z)], sto⟩ ∧ j + (tw z (row.drop j)).length = k + (tw z (row.drop k)).length) (row.length - k) (turns_lt (by omega)) ⟨k, hk, rfl, rfl, rfl⟩ ?_
  rintro m s ⟨j, hj, rfl, rfl, he⟩
  push_cast []
  refine ⟨fun h => ?_, fun h => ?_⟩
  · have h' : j < row.length := by omega
    push_cast [atI_sn h']
    rw [List.drop_eq_getElem_cons h', tw_cons] at he
    refine ⟨fun hz => ?_, fun hz => ?_⟩
    · push_cast []
      rw [if_pos hz, List.length_cons] at he
      exact ⟨row.length - (j + 1), by omega, j + 1, by omega, rfl, by push_cast; rfl, by omega⟩
    · push_cast []
      rw [if_neg hz, List.length_nil] at he
      congr 2
      omega
  · push_cast []
    have : row.drop j = [] := List.drop_eq_nil_iff.mpr (by omega)
    rw [this] at he
    have e : (tw z []).length = 0 := rfl
    rw [e] at he
    congr 2
    omega
theorem cutL_nat {α : Type} {xs : List α} {a b : Nat} (h : a ≤ xs.length) : cutL xs (some (a : Int)) (some (b : Int)) = (xs.drop a).take (b - a) := by
  unfold cutL
  rw [HT.sIx_nat, HT.sIx_nat, Nat.min_eq_left h]
  by_cases hb : b ≤ xs.length
  · rw [Nat.min_eq_left hb]
  · rw [Nat.min_eq_right (by omega), List.take_of_length_le (by rw [List.length_drop]; omega), List.take_of_length_le (by rw [List.length_drop]; omega)]
theorem cut_tw {row z : List Nat} {k : Nat} (h : k ≤ row.length) : cutL row (some (k : Int)) (some (((k + (tw z (row.drop k)).length : Nat)) : Int)) = tw z (row.drop k) := by
  rw [cutL_nat h, Nat.add_sub_cancel_left, tw_take]

theorem take1 {α : Type} {xs : List α} {k m : Nat} (h : k ≤ xs.length) : cutL xs (some (k : Int)) (some ((k : Int) + (m : Int))) = (xs.drop k).take m := by
  have e : (k : Int) + (m : Int) = ((k + m : Nat) : Int) := by omega
  rw [e, cutL_nat h, Nat.add_sub_cancel_left]
theorem cf_markat {tab : Tab} {n : Nat} {row kd w : List Nat} {k line : Nat} {sto : List SO} (tr : tab.lookup ("run_of" : Str) = some dRunOf) (hl : tab.lookup ("mark_at" : Str) = some dMarkAt) (hn : 2 ≤ n) (hk : k < row.length) (hr : row.length ≤ 1000000) (ha : ∀ c ∈ row, c < 128) (ht : tok (row.drop k) = some (kd, w)) :
    callF tab n "mark_at" [.val (.str row), .val (.int (k : Int)), .val (.int (line : Int))] sto = .ok (.sh (Mk.pv ⟨kd, w, line, k⟩)) [.val (.str row), .val (.int (k : Int)), .val (.int (line : Int))] sto := by
  obtain ⟨n, rfl⟩ : ∃ m, n = m + 2 := ⟨n - 2, by omega⟩
  refine eq_of_WC (wc_def hl ⟨rfl, by decide⟩ ?_)
  simp only [dMarkAt]
  have hs : row.length ≤ szL := by unfold szL; omega
  have hL := @cf_run tab (n + 1) row LETs k sto tr (by omega) (by omega) hr
  have hF := @cf_run tab (n + 1) row FIGs k sto tr (by omega) (by omega) hr
  have cL := @cut_tw row LETs k (by omega)
  have cF := @cut_tw row FIGs k (by omega)
  have txs : ∀ s : List Nat, (∀ c ∈ s, c ∈ row) → txOk s = true := by
    intro s h
    unfold txOk
    rw [List.all_eq_true]
    intro c hc
    have := ha c (h c hc)
    exact decide_eq_true (by omega)
  have twm : ∀ z, ∀ c ∈ tw z (row.drop k), c ∈ row := fun z c hc => List.mem_of_mem_drop ((List.takeWhile_sublist _).subset hc)
  have tL := txs _ (twm LETs)
  have tF := txs _ (twm FIGs)
  have lL : (tw LETs (row.drop k)).length ≤ szL := by have := tw_len (z := LETs) (s := row.drop k); rw [List.length_drop] at this; omega
  have lF : (tw FIGs (row.drop k)).length ≤ szL := by have := tw_len (z := FIGs) (s := row.drop k); rw [List.length_drop] at this; omega
  have t0 : txOk [] = true := rfl
  have t48 : txOk [48] = true := rfl
  unfold tok at ht
  generalize tw LETs (row.drop k) = uL at hL cL tL lL ht
  generalize tw FIGs (row.drop k) = uF at hF cF tF lF ht
  simp only [LETs, FIGs] at hL hF
  push_cast [hL, cL, pm_neS]
  refine ⟨fun h1 => ?_, fun h1 => ?_⟩
  · rw [if_pos h1] at ht
    split at ht
    · cases ht
    rename_i h2
    have kis : primSem .isin [.str uL, .tup (KEYs.map PV.str)] = some (.sh (.bl (decide (uL ∈ KEYs)))) := pm_isinT_s
    simp only [KEYs, List.map_cons, List.map_nil] at kis
    have h8 : ¬ ((8 : Int) < (uL.length : Int)) := by omega
    push_cast [h8, kis]
    cases ht
    simp only [KEYs, List.mem_cons, List.not_mem_nil, or_false]
    refine ⟨fun h => ?_, fun h => ?_⟩
    · push_cast []
      rw [if_pos h]
      rfl
    · push_cast []
      rw [if_neg h]
      rfl
  · subst h1
    push_cast [hF, cF, pm_neS]
    refine ⟨fun h2 => ?_, fun h2 => ?_⟩
    · rw [if_neg (by simp), if_pos h2] at ht
      split at ht
      · cases ht
      rename_i h3
      have h9 : ¬ ((9 : Int) < (uF.length : Int)) := by omega
      push_cast [h9]
      cases ht
      refine ⟨fun h => ?_, fun h => ?_⟩
      · cases w with
        | nil => exact absurd rfl h2
        | cons c w =>
          have e : txOk [c] = true := by
            simp only [txOk, List.all_cons, Bool.and_eq_true] at tF
            simp only [txOk, List.all_cons, List.all_nil, tF.1, Bool.and_true]
          have hc : ¬ c = 48 := fun e => h3 (by subst e; simp only [List.length_cons] at h; simp; omega)
          have e2 : primSem .eq [.str [c], .str [48]] = some (.sh (.bl false)) := (pm_eqS e t48).trans (by simp [hc])
          push_cast [e2]
          rfl
      · push_cast []
        rfl
    · subst h2
      rw [if_neg (by simp), if_neg (by simp)] at ht
      obtain ⟨g, hg, hgg⟩ := Option.map_eq_some_iff.mp ht
      cases hgg
      push_cast []
      refine fr_rule (fun xs s => (∃ ys : List (List Nat), xs = ys.map PV.str ∧ (∀ y ∈ ys, y ∈ SIGNs) ∧ ys.find? (fun g => decide ((row.drop k).take g.length = g)) = some w) ∧ ∃ sl : Sl, s = ⟨[.val (.str row), .val (.int (k : Int)), .val (.int (line : Int)), .val (.str []), sl], sto⟩) ⟨⟨SIGNs, rfl, fun _ h => h, hg⟩, _, rfl⟩ ?_ ?_
      · rintro s ⟨⟨ys, e1, _, e2⟩, _⟩
        cases ys with
        | nil => cases e2
        | cons y ys => cases e1
      · rintro x rest s ⟨⟨ys, e1, hy, e2⟩, sl, rfl⟩
        cases ys with
        | nil => cases e1
        | cons y ys =>
          cases e1
          have hyS := hy y (List.mem_cons_self ..)
          have ly : y.length ≤ szL ∧ txOk y = true := by
            simp only [SIGNs, List.mem_cons, List.not_mem_nil, or_false] at hyS
            rcases hyS with rfl | rfl | rfl | rfl | rfl | rfl | rfl | rfl | rfl | rfl | rfl <;> decide
          have l1 := ly.1
          have l2 := ly.2
          have l3 : txOk ((row.drop k).take y.length) = true := txs _ fun c hc => List.mem_of_mem_drop (List.mem_of_mem_take hc)
          push_cast [take1 (Nat.le_of_lt hk), pm_eqS]
          rw [List.find?_cons] at e2
          refine ⟨fun h => ?_, fun h => ?_⟩
          · rw [decide_eq_true h] at e2
            cases e2
            push_cast []
            rfl
          · rw [decide_eq_false h] at e2
            push_cast []
            exact ⟨⟨ys, rfl, fun z hz => hy z (List.mem_cons_of_mem _ hz), e2⟩, _, rfl⟩

theorem Sc.inv {line k c : Nat} {s : List Nat} {ms : List Mk} (h : Sc line k (c :: s) ms) (hr : c ≠ 35) (hb : c ≠ 32) : ∃ kd w ms', TP.tok (c :: s) = some (kd, w) ∧ 1 ≤ w.length ∧ Sc line (k + w.length) ((c :: s).drop w.length) ms' ∧ ms = ⟨kd, w, line, k⟩ :: ms' := by
  cases h with
  | rem => exact absurd rfl hr
  | blank _ => exact absurd rfl hb
  | tok _ _ a b d => exact ⟨_, _, _, a, b, d, rfl⟩
theorem Sc.binv {line k : Nat} {s : List Nat} {ms : List Mk} (h : Sc line k (32 :: s) ms) : Sc line (k + 1) s ms := by
  cases h with
  | blank h => exact h
  | tok _ h2 => exact absurd rfl h2
theorem Sc.rinv {line k : Nat} {s : List Nat} {ms : List Mk} (h : Sc line k (35 :: s) ms) : ms = [] := by
  cases h with
  | rem => rfl
  | tok h2 => exact absurd rfl h2
theorem Sc.ninv {line k : Nat} {ms : List Mk} (h : Sc line k [] ms) : ms = [] := by
  cases h; rfl
theorem tok_len {s kd w : List Nat} (h : tok s = some (kd, w)) : w.length ≤ s.length := by
  unfold tok at h
  have a := tw_len (z := LETs) (s := s)
  have b := tw_len (z := FIGs) (s := s)
  split at h
  · split at h
    · cases h
    · cases h; exact a
  · split at h
    · split at h
      · cases h
      · cases h; exact b
    · obtain ⟨g, hg, e⟩ := Option.map_eq_some_iff.mp h
      cases e
      have := List.find?_some hg
      have := congrArg List.length (of_decide_eq_true this)
      rw [List.length_take] at this
      omega
theorem wc_marks {tab : Tab} {n : Nat} {text : List Nat} {rows : List (List Nat)} {ms : List Mk} {sto : List SO} (tr : tab.lookup ("run_of" : Str) = some dRunOf) (tm : tab.lookup ("mark_at" : Str) = some dMarkAt) (hl : tab.lookup ("marks" : Str) = some dMarks) (hn : 3 ≤ n)
    (ht : text.length ≤ 1000000) (hsp : TL.spl [10] 0 [] text = rows) (hr : ∀ r ∈ rows, r.length ≤ 1000000 ∧ ∀ c ∈ r, c < 128) (hsc : Scs 0 rows ms) (hm : ms.length ≤ 1000000) :
    callF tab n "marks" [.val (.str text)] sto = .ok (.fr (.lst (ms.map Mk.pv))) [.val (.str text)] sto := by
  obtain ⟨n, rfl⟩ : ∃ m, n = m + 3 := ⟨n - 3, by omega⟩
  refine eq_of_WC (wc_def hl ⟨rfl, by decide⟩ ?_)
  simp only [dMarks]
  have hs : text.length + 2 ≤ szL ∧ (10 : Nat) < 256 := by unfold szL; omega
  push_cast [pm_split hs, hsp]
  refine fr_rule (fun xs s => ∃ (l : Nat) (rs : List (List Nat)) (ms1 ms2 : List Mk) (a b c d : Sl), xs = enumL l (rs.map PV.str) ∧ Scs l rs ms2 ∧ ms = ms1 ++ ms2 ∧ (∀ r ∈ rs, r.length ≤ 1000000 ∧ ∀ c ∈ r, c < 128) ∧ s = ⟨[.val (.str text), .own (.lst (ms1.map Mk.pv)), a, b, c, d], sto⟩) ⟨0, rows, [], ms, _, _, _, _, rfl, hsc, rfl, hr, rfl⟩ ?_ ?_
  · rintro s ⟨l, rs, ms1, ms2, a, b, c, d, e1, e2, e3, e4, rfl⟩
    cases rs with
    | cons r rs => cases e1
    | nil =>
      cases e2
      rw [List.append_nil] at e3
      subst e3
      push_cast []
  · rintro x rest s ⟨l, rs, ms1, ms2, a, b, c, d, e1, e2, e3, e4, rfl⟩
    cases rs with
    | nil => cases e1
    | cons row rs =>
      cases e1
      cases e2 with
      | @cons _ _ _ mr ms2 h1 h2 =>
      obtain ⟨hrl, hrc⟩ := e4 row (List.mem_cons_self ..)
      have e4' := fun r hr => e4 r (List.mem_cons_of_mem _ hr)
      have hrs : row.length ≤ szL := by unfold szL; omega
      push_cast []
      refine wh_rule (fun m s => ∃ (k : Nat) (ma mb : List Mk) (d : Sl), k ≤ row.length ∧ m = row.length - k ∧ Sc l k (row.drop k) mb ∧ ms = ma ++ mb ++ ms2 ∧ s = ⟨[.val (.str text), .own (.lst (ma.map Mk.pv)), .val (.int (l : Int)), .val (.str row), .val (.int (k : Int)), d], sto⟩) row.length (turns_lt hrl) ⟨0, ms1, mr, _, by omega, by omega, h1, by rw [e3, List.append_assoc], rfl⟩ ?_
      rintro m s ⟨k, ma, mb, d, hk, rfl, hsc2, hms, rfl⟩
      push_cast []
      refine ⟨fun h => ?_, fun h => ?_⟩
      · have h' : k < row.length := by omega
        have hcc := hrc _ (List.getElem_mem h')
        have tc : txOk [row[k]] = true := by simp [txOk]; omega
        have t35 : txOk [35] = true := rfl
        have t32 : txOk [32] = true := rfl
        rw [List.drop_eq_getElem_cons h'] at hsc2
        push_cast [atI_sn h', pm_neS, pm_eqS]
        refine ⟨fun hne => ?_, fun he => ?_⟩
        · push_cast [atI_sn h', pm_neS, pm_eqS]
          refine ⟨fun hb => ?_, fun hb => ?_⟩
          · push_cast []
            rw [hb] at hsc2
            exact ⟨row.length - (k + 1), by omega, k + 1, ma, mb, _, by omega, rfl, hsc2.binv, hms, by push_cast; rfl⟩
          · obtain ⟨kd, w, ms', q1, q2, q3, rfl⟩ := hsc2.inv (by simpa using hne) (by simpa using hb)
            rw [← List.drop_eq_getElem_cons h'] at q1 q3
            have ql := tok_len q1
            rw [List.length_drop] at ql
            have hwz : w.length ≤ szL := by unfold szL; omega
            have := cf_markat (line := l) (sto := sto) (n := n + 2) tr tm (by omega) h' hrl hrc q1
            have hml : ma.length + ms'.length + 1 ≤ ms.length := by rw [hms]; simp; omega
            push_cast [this]
            simp only [Mk.pv]
            push_cast []
            rw [List.drop_drop] at q3
            refine ⟨row.length - (k + w.length), by omega, k + w.length, ma ++ [⟨kd, w, l, k⟩], ms', .val (Mk.pv ⟨kd, w, l, k⟩), by omega, rfl, q3, by rw [hms]; simp, ?_⟩
            simp [Mk.pv]
        · have hb : row[k] = 35 := by simpa using he
          rw [hb] at hsc2
          have := hsc2.rinv
          subst this
          push_cast []
          exact ⟨l + 1, rs, ma, ms2, _, _, _, _, rfl, h2, by simpa using hms, e4', rfl⟩
      · have : row.drop k = [] := List.drop_eq_nil_iff.mpr (by omega)
        rw [this] at hsc2
        have := hsc2.ninv
        subst this
        push_cast []
        exact ⟨l + 1, rs, ma, ms2, _, _, _, _, rfl, h2, by simpa using hms, e4', rfl⟩
end TP

set_option Elab.async false
set_option linter.all false
set_option maxRecDepth 100000
set_option maxHeartbeats 4000000
set_option exponentiation.threshold 20000
/-! Kt3: texts of marks that are drawn. -/
namespace TP
open PySem
local macro_rules
  | `(tactic| push_cast [$xs,*]) => `(tactic| simp (maxSteps := 2000000) -implicitDefEqProofs -dsimp (disch := first | assumption | (with_reducible refine TP.big_lit ?_; omega) | decide | omega | (simp only [List.length_cons, List.length_nil, List.length_map, List.length_append, TP.szL]; omega)) only [TP.oK_some, TP.varK_val, TP.varK_own, TP.BR_t, TP.BR_f, TP.BR_d, ↓TP.wE_con, ↓TP.wE_dead, ↓TP.wEs_nil, ↓TP.wEs_cons, ↓TP.wE_prim1, ↓TP.wE_prim2, TP.strK_s, ↓TP.wE_sm, TP.dixK_s, ↓TP.wE_didx, TP.TS_bl, ↓TP.wE_not, ↓TP.wE_and1, ↓TP.wE_and, ↓TP.wE_or1, ↓TP.wE_or, ↓TP.wE_ite, ↓TP.wE_chain, ↓TP.KPs_nil, TP.keep_sh, TP.keep_fr, TP.keep_hd, TP.keepH_val, TP.keepH_own, ↓TP.wE_tup, ↓TP.wE_list, ↓TP.wE_call, ↓TP.wE_callK, TP.gloK_v, ↓TP.wE_callL, ↓TP.wE_mut, ↓TP.wE_slice, ↓TP.wE_lc, TP.itK_s, ↓TP.wI_of, TP.rgK_i, ↓TP.wI_range1, TP.rg2K_i, ↓TP.wI_range2, ↓TP.wI_enum, ↓TP.wI_rev, ↓TP.wI_zip, ↓TP.nxt_nx, ↓TP.nxt_br, ↓TP.nxt_ct, ↓TP.nxt_rt, ↓TP.lpQ_nx, ↓TP.lpQ_ct, ↓TP.lpQ_br, ↓TP.lpQ_rt, TP.BT_nm, TP.BT_tup, TP.BT_lst, TP.BTs_nil, TP.BTs_cons, TP.AG_sh, TP.AG_fr, TP.AG_frT, TP.AG_hd, TP.RT_sh, TP.RT_fr, TP.RT_hd, TP.rtH_val, TP.rtH_own, TP.rtH_par, ↓TP.wS_nil, ↓TP.wS_asg, ↓TP.wS_ret, ↓TP.wS_retN, ↓TP.wS_pass, ↓TP.wS_brk, ↓TP.wS_cont, ↓TP.wS_dead, ↓TP.wS_expr, ↓TP.wS_apc, ↓TP.wS_apn, ↓TP.wS_ite, ↓TP.wS_setix, ↓TP.wS_augU, TP.AU_v, ↓TP.wS_par, ↓TP.wS_asgR, ↓TP.wS_for, ↓TP.wS_while, ↓TP.dfQ_nx, ↓TP.dfQ_rt, ↓TP.wE_var', TP.cont_sh, TP.cont_fr, TP.cont_hd, TP.contH_val, TP.contH_own, TP.boxC_nl, TP.boxC_non, TP.boxC_bl, TP.boxC_int, TP.boxC_str, TP.boxC_tup, TP.boxC_lst, TP.boxC_rol, TP.boxC_ty, TP.boxC_glo, TP.putBack_hd, TP.pbH_own, TP.argsOf_nil, TP.argsOf_sh, TP.argsOf_fr, TP.argsOf_hd, TP.argH_val, TP.argH_own, TP.backE_nil, TP.backE_sh, TP.backE_fr, TP.backE_own, TP.backE_val, TP.permR_nil, TP.permR_inl, TP.permR_inr, TP.finA_nil, TP.finA_cons, TP.frzA_nil, TP.frzA_cons, TP.frz1_eq, TP.frH_own, TP.frH_val, TP.itemsOf_lst, TP.itemsOf_tup, TP.itemsOf_rol, TP.itemsOf_str, TP.enumOf_lst, TP.revOf_lst, TP.revOf_tup, TP.zipOf_lst, TP.zipOf_tup, TP.P1_s, TP.P2_s, TP.SM_s, TP.MU_s, TP.SX_s, TP.C2_s, TP.C2k_t, TP.C2k_f, TP.C2k_d, TP.BR_nd, TP.pm_add, TP.pm_sub, TP.pm_neg, TP.pm_addS, TP.pm_addT, TP.pm_addL, TP.pm_mul, TP.pm_fdiv, TP.pm_mod, TP.pm_pow, TP.pm_lt, TP.pm_le, TP.pm_gt, TP.pm_ge, TP.pm_isN, TP.pm_notN, TP.pm_isB, TP.pm_notB, TP.pm_idx_lst, TP.pm_len_lst, TP.pm_idx_tup, TP.pm_len_tup, TP.pm_idx_rol, TP.pm_len_rol, TP.pm_idx_str, TP.pm_len_str, TP.pm_abs, TP.pm_min2, TP.pm_max2, TP.pm_toIntI, TP.pm_toIntB, TP.pm_toTupL, TP.pm_toTupT, TP.pm_toList_lst, TP.pm_toList_tup, TP.pm_toList_rol, TP.pm_all, TP.pm_any, TP.pm_sum, TP.pm_revs, TP.pm_toStrI, TP.pm_joinL, TP.jnK_s, TP.pm_split, TP.pm_mulS, TP.pm_mulL, TP.pm_mulT, TP.pm_isinT, TP.pm_isinL, TP.pm_notinT, TP.pm_notinL, TP.pm_isinS, TP.pm_notinS, TP.pm_isi_non_int, TP.pm_isi_non_bool, TP.pm_isi_non_str, TP.pm_isi_non_tuple, TP.pm_isi_non_list, TP.pm_isi_non_dict, TP.pm_isi_bl_int, TP.pm_isi_bl_bool, TP.pm_isi_bl_str, TP.pm_isi_bl_tuple, TP.pm_isi_bl_list, TP.pm_isi_bl_dict, TP.pm_isi_int_int, TP.pm_isi_int_bool, TP.pm_isi_int_str, TP.pm_isi_int_tuple, TP.pm_isi_int_list, TP.pm_isi_int_dict, TP.pm_isi_str_int, TP.pm_isi_str_bool, TP.pm_isi_str_str, TP.pm_isi_str_tuple, TP.pm_isi_str_list, TP.pm_isi_str_dict, TP.pm_isi_tup_int, TP.pm_isi_tup_bool, TP.pm_isi_tup_str, TP.pm_isi_tup_tuple, TP.pm_isi_tup_list, TP.pm_isi_tup_dict, TP.pm_isi_lst_int, TP.pm_isi_lst_bool, TP.pm_isi_lst_str, TP.pm_isi_lst_tuple, TP.pm_isi_lst_list, TP.pm_isi_lst_dict, TP.mu_app, TP.mu_clear, TP.mu_reverse, TP.mutTy_s, TP.set_lst, TP.aug_add, TP.aug_sub, TP.sl_lst, TP.sl_tup, TP.sl_str, TP.bnd_abs, TP.bnd_int, TP.isAbs_non, TP.isAbs_int, TP.isAbs_var, TP.isAbs_prim, TP.isAbs_call, TP.bools_map, TP.ints_map, TP.strs_map, TP.ixN_0, TP.ixN_1, TP.atI_c0, TP.atI_nat, TP.atI_c1, TP.atI_c2, TP.atI_c3, TP.atI_c4, TP.atI_c5, TP.atI_c6, TP.atI_c7, TP.pm_eqI, TP.pm_neI, TP.tx_ok, TP.pm_eqS, TP.pm_neS, TP.any_str, TP.all_flat_str, TP.pm_isinT_s, TP.pm_notinT_s, TP.pm_isinL_s, TP.pm_notinL_s, TP.WC_ok, ↓TP.KPs_cons, List.getElem?_cons_succ, List.getElem?_cons_zero, List.set_cons_succ, List.set_cons_zero, List.cons_append, List.nil_append, List.length_cons, List.length_nil, Option.map_some, Option.bind_some, List.append_nil, List.getD_cons_zero, List.getD_cons_succ, List.replicate_succ, List.replicate_zero, TP.wipeS_nil, TP.wipeS_cons, TP.restS_nil, TP.restS_cons, TP.ownSlots_nil, TP.ownSlots_cons, TP.owH_val, TP.owH_un, Bool.or_false, Bool.false_or, Bool.or_true, Bool.true_or, Bool.and_true, Bool.true_and, Bool.and_false, Bool.false_and, Bool.not_true, Bool.not_false, List.not_mem_nil, if_true, if_false, ite_true, ite_false, and_true, true_and, forall_const, true_implies, false_implies, not_true, not_false, decide_true, decide_false, decide_eq_true_eq, Bool.false_eq_true, Bool.true_eq_false, and_self, not_true_eq_false, not_false_eq_true, ↓TP.CS_nil, ↓TP.CS_one, Int.reduceAdd, Int.reduceSub, Int.reduceMul, Int.reduceNeg, Int.reduceLT, Int.reduceLE, Int.reduceToNat, Int.reducePow, Nat.reduceAdd, Nat.reduceSub, Nat.reduceEqDiff, Int.reduceEq, Int.reduceFDiv, Int.reduceFMod, List.cons.injEq, reduceCtorEq, List.mem_cons, or_false, or_true, false_or, true_or, false_and, and_false, ne_eq, $xs,*])

def dLKeys : Fd := ⟨0, 0, [], [.ret (.list [(.con (.str [108, 101, 116])), (.con (.str [105, 102])), (.con (.str [116, 104, 101, 110])), (.con (.str [101, 108, 115, 101])), (.con (.str [99, 97, 115, 101])), (.con (.str [111, 102])), (.con (.str [100, 105, 118])), (.con (.str [109, 111, 100])), (.con (.str [97, 110, 100])), (.con (.str [111, 114]))])]⟩
def dLMark : Fd := ⟨1, 7, [], [.asg (.nm 1) (.con (.str [97, 98, 99, 100, 101, 102, 103, 104, 105, 106, 107, 108, 109, 110, 111, 112, 113, 114, 115, 116, 117, 118, 119, 120, 121, 122])), .asg (.nm 2) (.call "_law_draw" [(.var 0), (.con (.int (6)))]), .ite (.prim .lt [(.var 2), (.con (.int (2)))]) [.asg (.nm 3) (.sm .join (.con (.str [])) (.lc (.prim .idx [(.var 1), (.call "_law_draw" [(.var 0), (.con (.int (26)))])]) (.nm 6) (.range [(.prim .idx [(.list [(.con (.int (1))), (.con (.int (2))), (.con (.int (8))), (.con (.int (3))), (.con (.int (5)))]), (.call "_law_draw" [(.var 0), (.con (.int (5)))])])]) [] [6])), .ret (.tup [(.ite (.prim .isin [(.var 3), (.call "_law_keys" [])]) (.con (.str [107, 101, 121])) (.con (.str [110, 97, 109, 101]))), (.var 3)])] [], .ite (.prim .eq [(.var 2), (.con (.int (2)))]) [.ret (.tup [(.con (.str [107, 101, 121])), (.prim .idx [(.call "_law_keys" []), (.call "_law_draw" [(.var 0), (.con (.int (10)))])])])] [], .ite (.prim .eq [(.var 2), (.con (.int (3)))]) [.asg (.nm 4) (.lc (.prim .toStr [(.call "_law_draw" [(.var 0), (.con (.int (10)))])]) (.nm 6) (.range [(.prim .idx [(.list [(.con (.int (0))), (.con (.int (1))), (.con (.int (8))), (.con (.int (4)))]), (.call "_law_draw" [(.var 0), (.con (.int (4)))])])]) [] [6]), .asg (.nm 5) (.call "_law_draw" [(.var 0), (.con (.int (10)))]), .ret (.tup [(.con (.str [110, 117, 109, 98, 101, 114])), (.ite (.prim .eq [(.var 4), (.list [])]) (.prim .toStr [(.var 5)]) (.prim .add [(.prim .toStr [(.prim .add [(.con (.int (1))), (.prim .mod [(.var 5), (.con (.int (9)))])])]), (.sm .join (.con (.str [])) (.var 4))]))])] [], .ret (.tup [(.con (.str [115, 105, 103, 110])), (.prim .idx [(.list [(.con (.str [61, 61])), (.con (.str [45, 62])), (.con (.str [91, 93])), (.con (.str [40])), (.con (.str [41])), (.con (.str [43])), (.con (.str [45])), (.con (.str [42])), (.con (.str [60])), (.con (.str [61])), (.con (.str [58]))]), (.call "_law_draw" [(.var 0), (.con (.int (11)))])])])]⟩
def dLLine : Fd := ⟨3, 5, [], [.asg (.nm 3) (.list [(.con (.str [])), (.con (.str [])), (.con (.str [])), (.con (.str [32, 35, 32, 108, 101, 116, 32, 40, 32, 55, 120])), (.con (.str [35])), (.con (.str [32, 32]))]), .for (.nm 4) (.range [(.prim .idx [(.list [(.con (.int (1))), (.con (.int (1))), (.con (.int (1))), (.con (.int (2))), (.con (.int (3)))]), (.call "_law_draw" [(.var 0), (.con (.int (5)))])])]) [.setix (.var 1) (.con (.int (0))) (.prim .add [(.prim .add [(.prim .idx [(.var 1), (.con (.int (0)))]), (.prim .idx [(.var 3), (.call "_law_draw" [(.var 0), (.con (.int (6)))])])]), (.con (.str [10]))]), .setix (.var 1) (.con (.int (1))) (.prim .add [(.prim .idx [(.var 1), (.con (.int (1)))]), (.con (.int (1)))])], .setix (.var 1) (.con (.int (0))) (.prim .add [(.prim .idx [(.var 1), (.con (.int (0)))]), (.prim .mul [(.con (.str [32])), (.var 2)])]), .setix (.var 1) (.con (.int (2))) (.var 2)]⟩
def dLWord : Fd := ⟨5, 12, [], [.asg (.nm 5) (.con (.str [97, 98, 99, 100, 101, 102, 103, 104, 105, 106, 107, 108, 109, 110, 111, 112, 113, 114, 115, 116, 117, 118, 119, 120, 121, 122])), .asg (.nm 6) (.con (.str [48, 49, 50, 51, 52, 53, 54, 55, 56, 57])), .asg (.nm 7) (.slice (.prim .idx [(.var 1), (.con (.int (0)))]) (.prim .neg [(.con (.int (1)))]) (.con (.non))), .asg (.nm 8) (.and [(.prim .ne [(.var 7), (.con (.str []))]), (.prim .isin [(.var 7), (.var 5)]), (.prim .isin [(.prim .idx [(.var 2), (.con (.int (0)))]), (.var 5)])]), .ite (.and [(.prim .ne [(.var 7), (.con (.str []))]), (.prim .isin [(.var 7), (.var 6)]), (.prim .isin [(.prim .idx [(.var 2), (.con (.int (0)))]), (.var 6)])]) [.asg (.nm 8) (.con (.bl true))] [], .asg (.nm 9) (.call "_law_draw" [(.var 0), (.con (.int (10)))]), .ite (.prim .idx [(.var 1), (.con (.int (3)))]) [.setix (.var 1) (.con (.int (3))) (.con (.bl false))] [.ite (.prim .eq [(.var 9), (.con (.int (0)))]) [.expr (.call "_law_line" [(.var 0), (.var 1), (.prim .add [(.prim .idx [(.list [(.prim .add [(.var 3), (.con (.int (1)))]), (.con (.int (0)))]), (.prim .toInt [(.var 4)])]), (.call "_law_draw" [(.var 0), (.con (.int (6)))])])])] [.ite (.or [(.prim .lt [(.var 9), (.con (.int (7)))]), (.var 8)]) [.asg (.nm 10) (.prim .idx [(.list [(.con (.int (1))), (.con (.int (1))), (.con (.int (2))), (.con (.int (5)))]), (.call "_law_draw" [(.var 0), (.con (.int (4)))])]), .setix (.var 1) (.con (.int (0))) (.prim .add [(.prim .idx [(.var 1), (.con (.int (0)))]), (.prim .mul [(.con (.str [32])), (.var 10)])]), .setix (.var 1) (.con (.int (2))) (.prim .add [(.prim .idx [(.var 1), (.con (.int (2)))]), (.var 10)])] []]], .asg (.nm 11) (.tup [(.prim .idx [(.var 1), (.con (.int (1)))]), (.prim .idx [(.var 1), (.con (.int (2)))])]), .setix (.var 1) (.con (.int (0))) (.prim .add [(.prim .idx [(.var 1), (.con (.int (0)))]), (.var 2)]), .setix (.var 1) (.con (.int (2))) (.prim .add [(.prim .idx [(.var 1), (.con (.int (2)))]), (.prim .len [(.var 2)])]), .ret (.var 11)]⟩
def dLText : Fd := ⟨3, 11, [], [.asg (.nm 3) (.list [(.con (.str [])), (.con (.int (0))), (.con (.int (0))), (.con (.bl true))]), .asg (.nm 4) (.list []), .for (.nm 5) (.range [(.call "_law_draw" [(.var 0), (.prim .add [(.var 1), (.con (.int (1)))])])]) [.asg (.tp [(.nm 6), (.nm 7)]) (.call "_law_mark" [(.var 0)]), .asg (.nm 8) (.con (.str [61, 45, 62, 91, 93, 40, 41, 43, 42, 60, 58])), .ite (.or [(.prim .eq [(.var 2), (.con (.int (1)))]), (.and [(.prim .ne [(.slice (.prim .idx [(.var 3), (.con (.int (0)))]) (.prim .neg [(.con (.int (1)))]) (.con (.non))), (.con (.str []))]), (.prim .isin [(.slice (.prim .idx [(.var 3), (.con (.int (0)))]) (.prim .neg [(.con (.int (1)))]) (.con (.non))), (.var 8)]), (.prim .isin [(.prim .idx [(.var 7), (.con (.int (0)))]), (.var 8)])])]) [.setix (.var 3) (.con (.int (0))) (.prim .add [(.prim .idx [(.var 3), (.con (.int (0)))]), (.con (.str [32]))]), .setix (.var 3) (.con (.int (2))) (.prim .add [(.prim .idx [(.var 3), (.con (.int (2)))]), (.con (.int (1)))])] [], .asg (.tp [(.nm 9), (.nm 10)]) (.call "_law_word" [(.var 0), (.var 3), (.var 7), (.prim .neg [(.con (.int (1)))]), (.con (.bl true))]), .expr (.mut .append (.var 4) [(.tup [(.var 6), (.var 7), (.var 9), (.var 10)])])], .ite (.prim .eq [(.call "_law_draw" [(.var 0), (.con (.int (3)))]), (.con (.int (0)))]) [.expr (.call "_law_line" [(.var 0), (.var 3), (.call "_law_draw" [(.var 0), (.con (.int (3)))])])] [], .ret (.tup [(.prim .idx [(.var 3), (.con (.int (0)))]), (.var 4)])]⟩

/-- a text as it is written: its rows, its marks -/
def Pen (B : Nat) (t : List Nat) (l c : Nat) (f : List Mk) : Prop := ∃ (rows : List (List Nat)) (cur : List Nat) (fm cm : List Mk), t = flat rows ++ cur ∧ l = rows.length ∧ c = cur.length ∧ Scs 0 rows fm ∧ Ln l cur cm ∧ f = fm ++ cm ∧ (∀ r ∈ rows, ∀ c ∈ r, c ≠ 10 ∧ c < 128) ∧ t.length ≤ B
theorem Pen.start : Pen 0 [] 0 0 [] := ⟨[], [], [], [], rfl, rfl, rfl, .nil, .nil, rfl, (fun _ h => nomatch h), Nat.le_refl _⟩
theorem Pen.mono {B B' : Nat} {t : List Nat} {l c : Nat} {f : List Mk} (h : Pen B t l c f) (k : B ≤ B') : Pen B' t l c f := by
  obtain ⟨a, b, d, e, h1, h2, h3, h4, h5, h6, h7, h8⟩ := h
  exact ⟨a, b, d, e, h1, h2, h3, h4, h5, h6, h7, Nat.le_trans h8 k⟩
theorem Pen.blanks {B : Nat} {t : List Nat} {l c : Nat} {f : List Mk} (h : Pen B t l c f) (n : Nat) : Pen (B + n) (t ++ List.replicate n 32) l (c + n) f := by
  obtain ⟨a, b, d, e, h1, h2, h3, h4, h5, h6, h7, h8⟩ := h
  refine ⟨a, b ++ List.replicate n 32, d, e, by rw [h1, List.append_assoc], h2, by simp [h3], h4, h5.blanks n, h6, h7, by simp; omega⟩
def rems : List (List Nat) := [[], [], [], [32, 35, 32, 108, 101, 116, 32, 40, 32, 55, 120], [35], [32, 32]]
theorem rem_ok {r : List Nat} (h : r ∈ rems) : (∀ s, sep s r) ∧ (∀ l k, Sc l k r []) ∧ (∀ c ∈ r, c ≠ 10 ∧ c < 128) ∧ r.length ≤ 11 := by
  simp only [rems, List.mem_cons, List.not_mem_nil, or_false] at h
  rcases h with rfl | rfl | rfl | rfl | rfl | rfl
  · exact ⟨fun _ => sep_nil, fun _ _ => .nil, fun _ h => (nomatch h), by decide⟩
  · exact ⟨fun _ => sep_nil, fun _ _ => .nil, fun _ h => (nomatch h), by decide⟩
  · exact ⟨fun _ => sep_nil, fun _ _ => .nil, fun _ h => (nomatch h), by decide⟩
  · exact ⟨fun _ => sep_bl (.inl rfl), fun _ _ => .blank .rem, by decide, by decide⟩
  · exact ⟨fun _ => sep_bl (.inr (.inl rfl)), fun _ _ => .rem, by decide, by decide⟩
  · exact ⟨fun _ => sep_bl (.inl rfl), fun _ _ => .blank (.blank .nil), by decide, by decide⟩
theorem flat_app {rs : List (List Nat)} {r : List Nat} : flat (rs ++ [r]) = flat rs ++ r ++ [10] := by simp [flat]
theorem Pen.rowG {B : Nat} {t : List Nat} {l c : Nat} {f : List Mk} (h : Pen B t l c f) {r : List Nat} (hr : (∀ s, sep s r) ∧ (∀ l k, Sc l k r []) ∧ (∀ c ∈ r, c ≠ 10 ∧ c < 128)) : Pen (B + r.length + 1) (t ++ r ++ [10]) (l + 1) 0 f := by
  obtain ⟨a, b, d, e, h1, h2, h3, h4, h5, h6, h7, h8⟩ := h
  obtain ⟨k1, k2, k3⟩ := hr
  refine ⟨a ++ [b ++ r], [], d ++ e, [], ?_, by simp [h2], rfl, h4.app ?_, .nil, by simp [h6], ?_, by simp; omega⟩
  · rw [flat_app, h1]; simp
  · rw [Nat.zero_add, ← h2]
    have := h5.sc (k1 b) (k2 l b.length)
    rwa [List.append_nil] at this
  · intro x hx
    rcases List.mem_append.mp hx with hx | hx
    · exact h7 x hx
    · cases List.mem_singleton.mp hx
      intro c hc
      rcases List.mem_append.mp hc with hc | hc
      · exact h5.chars c hc
      · exact k3 c hc
theorem Pen.row {B : Nat} {t : List Nat} {l c : Nat} {f : List Mk} (h : Pen B t l c f) {r : List Nat} (hr : r ∈ rems) : Pen (B + 12) (t ++ r ++ [10]) (l + 1) 0 f := by
  obtain ⟨k1, k2, k3, k4⟩ := rem_ok hr
  exact (h.rowG ⟨k1, k2, k3⟩).mono (by omega)
theorem Pen.word {B : Nat} {t : List Nat} {l c : Nat} {f : List Mk} (h : Pen B t l c f) {k w : List Nat} (hk : Tk k w) (hs : sep t w) : Pen (B + 9) (t ++ w) l (c + w.length) (f ++ [⟨k, w, l, c⟩]) := by
  obtain ⟨a, b, d, e, h1, h2, h3, h4, h5, h6, h7, h8⟩ := h
  have hl := hk.len
  refine ⟨a, b ++ w, d, e ++ [⟨k, w, l, c⟩], by rw [h1, List.append_assoc], h2, by simp [h3], h4, ?_, by rw [h6, List.append_assoc], h7, by simp; omega⟩
  rw [h3]
  refine h5.word hk ?_
  intro x y hx hy
  refine hs x y ?_ hy
  rw [h1, List.getLast?_append, hx]
  rfl
theorem mem_flat {rs : List (List Nat)} {r : List Nat} (h : r ∈ rs) : r.length ≤ (flat rs).length := by
  induction rs with
  | nil => cases h
  | cons x rs ih =>
    have e : (flat (x :: rs)).length = x.length + 1 + (flat rs).length := by simp [flat]; omega
    rcases List.mem_cons.mp h with rfl | h
    · omega
    · have := ih h; omega
theorem Ln.count {l : Nat} {s : List Nat} {ms : List Mk} (h : Ln l s ms) : ms.length ≤ s.length := by
  induction h with
  | nil => exact Nat.le_refl _
  | blank _ ih => simp; omega
  | word _ hk _ ih => have := hk.len; simp; omega
theorem Sc.count {l k : Nat} {s : List Nat} {ms : List Mk} (h : Sc l k s ms) : ms.length ≤ s.length := by
  induction h with
  | nil => exact Nat.le_refl _
  | rem => simp
  | blank _ ih => simp; omega
  | tok _ _ ht h1 _ ih =>
    have := tok_len ht
    rw [List.length_drop] at ih
    simp only [List.length_cons] at *
    omega
theorem Scs.count {l : Nat} {rs : List (List Nat)} {ms : List Mk} (h : Scs l rs ms) : ms.length ≤ (flat rs).length := by
  induction h with
  | nil => exact Nat.zero_le _
  | cons a _ ih =>
    have := a.count
    rename_i r rs _ _ _
    have e : (flat (r :: rs)).length = r.length + 1 + (flat rs).length := by simp [flat]; omega
    rw [List.length_append]
    omega
/-! the program's -/
theorem any_lit {α : Type} {P : α → Prop} {xs : List α} (h : ∀ x ∈ xs, P x) {i : Nat} {x : α} (e : xs[i]? = some x) : P x := h x (List.mem_of_getElem? e)
theorem wc_lline {tab : Tab} {n : Nat} {d : Dr} {B : Nat} {t : List Nat} {l c0 c : Nat} {fr : Bool} {f : List Mk} {column : Nat} {sto : List SO} {Q : RV → List Sl → List SO → Prop} {X : PV → List Sl → List SO → Prop} (tD : tab.lookup ("_law_draw" : Str) = some dDraw) (hl : tab.lookup ("_law_line" : Str) = some dLLine) (hn : 2 ≤ n) (hp : Pen B t l c f) (hB : B ≤ 100000) (hcol : column ≤ 10)
    (q : ∀ (t' : List Nat) (l' : Nat) (d' : Dr), Pen (B + 50) t' l' column f → (∀ r, sep t' r) → Q (.sh .non) [.own d'.pv, .own (.lst [.str t', .int (l' : Int), .int (column : Int), .bl fr]), .val (.int (column : Int))] sto) :
    WC (callF tab n "_law_line" [.own d.pv, .own (.lst [.str t, .int (l : Int), .int (c0 : Int), .bl fr]), .val (.int (column : Int))] sto) Q X := by
  obtain ⟨n, rfl⟩ : ∃ m, n = m + 2 := ⟨n - 2, by omega⟩
  refine wc_def hl ⟨rfl, by decide⟩ ?_
  simp only [dLLine]
  push_cast []
  refine wc_draw tD (by omega) (wd_lit (by omega)) fun r d1 h0 h1 => ?_
  have hi : ∃ m : Nat, L2.atI [PV.int 1, PV.int 1, PV.int 1, PV.int 2, PV.int 3] r = some (.int (m : Int)) ∧ 1 ≤ m ∧ m ≤ 3 := by
    have : r = 0 ∨ r = 1 ∨ r = 2 ∨ r = 3 ∨ r = 4 := by omega
    rcases this with rfl | rfl | rfl | rfl | rfl
    · exact ⟨1, atI_c0, by omega, by omega⟩
    · exact ⟨1, atI_c1, by omega, by omega⟩
    · exact ⟨1, atI_c2, by omega, by omega⟩
    · exact ⟨2, atI_c3, by omega, by omega⟩
    · exact ⟨3, atI_c4, by omega, by omega⟩
  obtain ⟨m, hm, m1, m2⟩ := hi
  push_cast [hm]
  refine ⟨by omega, ?_⟩
  refine fr_rule (fun xs s => ∃ (j : Nat) (t' : List Nat) (l' c' : Nat) (d' : Dr) (sl : Sl), xs.length + j = m ∧ Pen (B + 12 * j) t' l' c' f ∧ (xs.length = m ∨ t'.getLast? = some 10) ∧ s = ⟨[.own d'.pv, .own (.lst [.str t', .int (l' : Int), .int (c0 : Int), .bl fr]), .val (.int (column : Int)), .own (.lst [.str [], .str [], .str [], .str [32, 35, 32, 108, 101, 116, 32, 40, 32, 55, 120], .str [35], .str [32, 32]]), sl], sto⟩) ⟨0, t, l, c, d1, .un, by simp [rangeL], hp, .inl (by simp [rangeL]), rfl⟩ ?_ ?_
  · rintro s ⟨j, t', l', c', d', sl, e1, e2, e3, rfl⟩
    have hj : j = m := by simpa using e1
    have e3' : t'.getLast? = some 10 := by rcases e3 with e3 | e3; · simp at e3; omega
                                           · exact e3
    have sm : small63 (column : Int) = true := by simp [small63]; omega
    have hlen : t'.length ≤ B + 12 * j := by obtain ⟨_, _, _, _, _, _, _, _, _, _, _, h⟩ := e2; exact h
    have e5 : ((column : Int)).toNat = column := by omega
    have e4 : (List.replicate (column : Int).toNat [32]).flatten = List.replicate column 32 := by rw [e5]; simp
    have l1 : ([32] : List Nat).length * (column : Int).toNat ≤ szL := by rw [e5]; simp only [List.length_cons, List.length_nil]; unfold szL; omega
    have l2 : t'.length + (List.replicate column 32).length ≤ szL := by rw [List.length_replicate]; unfold szL; omega
    push_cast [pm_mulS sm l1, e4, pm_addS l2]
    obtain ⟨rows, cur, fm, cm, k1, k2, k3, k4, k5, k6, k7, k8⟩ := e2
    have hcur : cur = [] := by
      cases cur with
      | nil => rfl
      | cons x cur =>
        obtain ⟨z, hz, hz2⟩ := last_mem (P := fun c => c ≠ 10 ∧ c < 128) k5.chars (by simp)
        rw [k1, List.getLast?_append, hz] at e3'
        exact absurd (Option.some.inj e3') hz2.1
    have hc' : c' = 0 := by rw [k3, hcur]; rfl
    have pen0 : Pen (B + 12 * j) t' l' c' f := ⟨rows, cur, fm, cm, k1, k2, k3, k4, k5, k6, k7, k8⟩
    have pen1 := (pen0.blanks column).mono (show B + 12 * j + column ≤ B + 50 by omega)
    rw [hc', Nat.zero_add] at pen1
    refine q _ _ _ pen1 ?_
    cases column with
    | zero =>
      intro r a b ha hb
      rw [List.replicate_zero, List.append_nil, e3'] at ha
      cases ha
      rintro (⟨h, _⟩ | ⟨h, _⟩ | ⟨h, _⟩) <;> exact absurd h (by decide)
    | succ column =>
      intro r
      rw [List.replicate_succ', ← List.append_assoc]
      exact sep_bl2
  · rintro x rest s ⟨j, t', l', c', d', sl, e1, e2, e3, rfl⟩
    simp only [List.length_cons] at e1
    have hlen : t'.length ≤ B + 12 * j := by obtain ⟨_, _, _, _, _, _, _, _, _, _, _, h⟩ := e2; exact h
    push_cast []
    refine wc_draw tD (by omega) (wd_lit (by omega)) fun r d2 h2 h3 => ?_
    have hr : ∃ z : List Nat, L2.atI [PV.str [], PV.str [], PV.str [], PV.str [32, 35, 32, 108, 101, 116, 32, 40, 32, 55, 120], PV.str [35], PV.str [32, 32]] r = some (.str z) ∧ z ∈ rems := by
      have : r = 0 ∨ r = 1 ∨ r = 2 ∨ r = 3 ∨ r = 4 ∨ r = 5 := by omega
      rcases this with rfl | rfl | rfl | rfl | rfl | rfl
      · exact ⟨_, atI_c0, by decide⟩
      · exact ⟨_, atI_c1, by decide⟩
      · exact ⟨_, atI_c2, by decide⟩
      · exact ⟨_, atI_c3, by decide⟩
      · exact ⟨_, atI_c4, by decide⟩
      · exact ⟨_, atI_c5, by decide⟩
    obtain ⟨z, hz, hz2⟩ := hr
    have zl := (rem_ok hz2).2.2.2
    have l1 : t'.length + z.length ≤ szL := by unfold szL; omega
    have l2 : (t' ++ z).length + [10].length ≤ szL := by simp only [List.length_append, List.length_cons, List.length_nil]; unfold szL; omega
    push_cast [hz, pm_addS l1, pm_addS l2]
    refine ⟨j + 1, t' ++ z ++ [10], l' + 1, 0, d2, .val x, by omega, ?_, .inr (by simp), rfl⟩
    have := e2.row hz2
    rwa [show B + 12 * (j + 1) = B + 12 * j + 12 by omega]

theorem atI_memM {α β : Type} {g : β → α} {ys : List β} {r : Int} (h0 : 0 ≤ r) (h1 : r < (ys.length : Int)) : ∃ y, L2.atI (ys.map g) r = some (g y) ∧ y ∈ ys := by
  obtain ⟨k, rfl⟩ : ∃ k : Nat, r = (k : Int) := ⟨r.toNat, by omega⟩
  have hk : k < ys.length := by omega
  refine ⟨ys[k], ?_, List.getElem_mem hk⟩
  rw [atI_nat (by simpa using hk), List.getElem_map]
theorem atI_mem {α : Type} {ys : List α} {r : Int} (h0 : 0 ≤ r) (h1 : r < (ys.length : Int)) : ∃ y, L2.atI ys r = some y ∧ y ∈ ys := by
  obtain ⟨y, h, m⟩ := atI_memM (g := id) h0 h1
  rw [List.map_id] at h
  exact ⟨y, h, m⟩
theorem dig {r : Int} (h0 : 0 ≤ r) (h1 : r < 10) : primSem .toStr [.int r] = some (.sh (.str [48 + r.toNat])) := by
  refine (pm_toStrI (Nat.lt_of_lt_of_le (show r.natAbs < 10 by omega) (by decide +kernel))).trans ?_
  have : r = 0 ∨ r = 1 ∨ r = 2 ∨ r = 3 ∨ r = 4 ∨ r = 5 ∨ r = 6 ∨ r = 7 ∨ r = 8 ∨ r = 9 := by omega
  have e : ∀ x y : List Nat, x = y → some (RV.sh (.str x)) = some (RV.sh (.str y)) := fun x y h => by rw [h]
  rcases this with rfl | rfl | rfl | rfl | rfl | rfl | rfl | rfl | rfl | rfl <;> exact e _ _ (by decide +kernel)
theorem fig_mem {k : Nat} (h : k < 10) : 48 + k ∈ FIGs := by
  simp only [FIGs, List.mem_cons, List.not_mem_nil, or_false]; omega
theorem ones_deep {w : List Nat} (h : ∀ c ∈ w, c < 128) : deeps (w.map fun c => PV.str [c]) = some 0 := by
  induction w with
  | nil => rfl
  | cons c w ih =>
    have hc := h c (List.mem_cons_self ..)
    have e : (PV.str [c]).deep = some 0 := by
      simp only [PV.deep, List.all_cons, List.all_nil, Bool.and_true]
      rw [if_pos (decide_eq_true (by omega))]
    rw [List.map_cons, deeps, e, ih fun d hd => h d (List.mem_cons_of_mem _ hd)]
    rfl
theorem pm_eq_nilS {w : List Nat} (h : ∀ c ∈ w, c < 128) : primSem .eq [.lst (w.map fun c => PV.str [c]), .lst []] = some (.sh (.bl (decide (w = [])))) := by
  refine (pm_eq ?_ rfl).trans ?_
  · unfold dataOk; rw [PV.deep, ones_deep h]; rfl
  · cases w with
    | nil => rfl
    | cons c w => rfl
theorem join_ones {w : List Nat} : TL.joinL [] (w.map fun c => [c]) = w := by
  induction w with
  | nil => rfl
  | cons c w ih =>
    cases w with
    | nil => rfl
    | cons d w =>
      rw [List.map_cons, List.map_cons]
      rw [List.map_cons] at ih
      show [c] ++ [] ++ TL.joinL [] ([d] :: w.map fun c => [c]) = _
      rw [ih]
      rfl
theorem join_okS {w : List Nat} (h : w.length ≤ 1000) : joinOk [] (w.map fun c => [c]) = true := by
  unfold joinOk
  refine decide_eq_true ?_
  have : ((w.map fun c => [c]).map List.length).sum = w.length := by
    clear h
    induction w with
    | nil => rfl
    | cons c w ih => simp only [List.map_cons, List.sum_cons, List.length_cons, List.length_nil, ih]; omega
  rw [this]
  simp only [List.length_nil, Nat.mul_zero]
  unfold szL
  omega
theorem cf_lkeys {tab : Tab} {n : Nat} {sto : List SO} (hl : tab.lookup ("_law_keys" : Str) = some dLKeys) (hn : 1 ≤ n) : callF tab n "_law_keys" [] sto = .ok (.fr (.lst (KEYs.map PV.str))) [] sto := by
  obtain ⟨n, rfl⟩ : ∃ m, n = m + 1 := ⟨n - 1, by omega⟩
  refine eq_of_WC (wc_def hl ⟨rfl, by decide⟩ ?_)
  simp only [dLKeys]
  push_cast []
  rfl
theorem key_ok {w : List Nat} (h : w ∈ KEYs) : Tk kKey w := by
  have h' := h
  simp only [KEYs, List.mem_cons, List.not_mem_nil, or_false] at h'
  have := Tk.lt (w := w) (by rcases h' with rfl | rfl | rfl | rfl | rfl | rfl | rfl | rfl | rfl | rfl <;> decide) (by rcases h' with rfl | rfl | rfl | rfl | rfl | rfl | rfl | rfl | rfl | rfl <;> decide) (by rcases h' with rfl | rfl | rfl | rfl | rfl | rfl | rfl | rfl | rfl | rfl <;> decide)
  rwa [if_pos h] at this
theorem wc_lmark {tab : Tab} {n : Nat} {d : Dr} {sto : List SO} {Q : RV → List Sl → List SO → Prop} {X : PV → List Sl → List SO → Prop} (tD : tab.lookup ("_law_draw" : Str) = some dDraw) (tK : tab.lookup ("_law_keys" : Str) = some dLKeys) (hl : tab.lookup ("_law_mark" : Str) = some dLMark) (hn : 2 ≤ n)
    (q : ∀ (k w : List Nat) (d' : Dr), Tk k w → Q (.sh (.tup [.str k, .str w])) [.own d'.pv] sto) : WC (callF tab n "_law_mark" [.own d.pv] sto) Q X := by
  obtain ⟨n, rfl⟩ : ∃ m, n = m + 2 := ⟨n - 2, by omega⟩
  refine wc_def hl ⟨rfl, by decide⟩ ?_
  simp only [dLMark]
  have ky := @cf_lkeys tab (n + 1) sto tK (by omega)
  simp only [KEYs, List.map_cons, List.map_nil] at ky
  push_cast []
  refine wc_draw tD (by omega) (wd_lit (by omega)) fun r d1 h0 h1 => ?_
  push_cast [pm_eqI]
  refine ⟨fun hr => ?_, fun hr => ⟨fun hr2 => ?_, fun hr2 => ⟨fun hr3 => ?_, fun hr3 => ?_⟩⟩⟩
  · refine wc_draw tD (by omega) (wd_lit (by omega)) fun r2 d2 h2 h3 => ?_
    have hi : ∃ m : Nat, L2.atI [PV.int 1, PV.int 2, PV.int 8, PV.int 3, PV.int 5] r2 = some (.int (m : Int)) ∧ 1 ≤ m ∧ m ≤ 8 := by
      obtain ⟨m, e, hm⟩ := atI_memM (g := fun m : Nat => PV.int (m : Int)) (ys := [1, 2, 8, 3, 5]) h2 (by simpa using h3)
      refine ⟨m, e, ?_⟩
      simp only [List.mem_cons, List.not_mem_nil, or_false] at hm
      omega
    obtain ⟨m, hm, m1, m2⟩ := hi
    push_cast [hm]
    refine ⟨by omega, ?_⟩
    refine lc_inv (fun rest acc s => ∃ (w : List Nat) (d' : Dr) (sl : Sl), rest.length + w.length = m ∧ acc = w.map (fun c => PV.str [c]) ∧ (∀ c ∈ w, c ∈ LETs) ∧ s = ⟨[.own d'.pv, .val (.str LETs), .val (.int r), .un, .un, .un, sl], sto⟩) (by push_cast []) ⟨[], d2, .un, by simp [rangeL], rfl, (fun _ h => nomatch h), rfl⟩ ?_ ?_
    · rintro x rest acc s ⟨w, d', sl, e1, rfl, hw, rfl⟩
      simp only [List.length_cons] at e1
      refine ⟨by rw [List.length_map]; unfold szL; omega, ?_⟩
      push_cast []
      refine wc_draw tD (by omega) (wd_lit (by omega)) fun r3 d3 h4 h5 => ?_
      obtain ⟨c, hc, hcm⟩ := atI_mem (ys := LETs) h4 (by simpa [LETs] using h5)
      have lz : LETs.length ≤ szL := by decide
      push_cast [hc, pm_idx_str lz]
      exact ⟨w ++ [c], d3, .val x, by rw [List.length_append, List.length_singleton]; omega, by simp, fun z hz => by
        rcases List.mem_append.mp hz with hz | hz
        · exact hw z hz
        · cases List.mem_singleton.mp hz; exact hcm, rfl⟩
    · rintro acc s ⟨w, d', sl, e1, rfl, hw, rfl⟩
      simp only [List.length_nil, Nat.zero_add] at e1
      have jo := @join_okS w (by omega)
      have kis : primSem .isin [.str w, .lst (KEYs.map PV.str)] = some (.sh (.bl (decide (w ∈ KEYs)))) := pm_isinL_s
      simp only [KEYs, List.map_cons, List.map_nil] at kis
      push_cast [strs_map (f := fun c : Nat => [c]), jnK_s jo, join_ones, ky, kis]
      have tk := Tk.lt (w := w) (by rintro rfl; simp at e1; omega) hw (by omega)
      refine ⟨fun hk => ?_, fun hk => ?_⟩
      · rw [if_pos (show w ∈ KEYs by simpa [KEYs] using hk)] at tk
        push_cast []
        exact q _ _ _ tk
      · rw [if_neg (show w ∉ KEYs by simpa [KEYs] using hk)] at tk
        push_cast []
        exact q _ _ _ tk
  · push_cast [ky]
    refine wc_draw tD (by omega) (wd_lit (by omega)) fun r2 d2 h2 h3 => ?_
    obtain ⟨w, hw, hwm⟩ := atI_memM (g := PV.str) (ys := KEYs) h2 (by simpa [KEYs] using h3)
    simp only [KEYs, List.map_cons, List.map_nil] at hw
    push_cast [hw]
    exact q _ _ _ (key_ok hwm)
  · refine wc_draw tD (by omega) (wd_lit (by omega)) fun r2 d2 h2 h3 => ?_
    have hi : ∃ m : Nat, L2.atI [PV.int 0, PV.int 1, PV.int 8, PV.int 4] r2 = some (.int (m : Int)) ∧ m ≤ 8 := by
      obtain ⟨m, e, hm⟩ := atI_memM (g := fun m : Nat => PV.int (m : Int)) (ys := [0, 1, 8, 4]) h2 (by simpa using h3)
      refine ⟨m, e, ?_⟩
      simp only [List.mem_cons, List.not_mem_nil, or_false] at hm
      omega
    obtain ⟨m, hm, m2⟩ := hi
    push_cast [hm]
    refine ⟨by omega, ?_⟩
    refine lc_inv (fun rest acc s => ∃ (w : List Nat) (d' : Dr) (sl : Sl), rest.length + w.length = m ∧ acc = w.map (fun c => PV.str [c]) ∧ (∀ c ∈ w, c ∈ FIGs) ∧ s = ⟨[.own d'.pv, .val (.str LETs), .val (.int r), .un, .un, .un, sl], sto⟩) (by push_cast []) ⟨[], d2, .un, by simp [rangeL], rfl, (fun _ h => nomatch h), rfl⟩ ?_ ?_
    · rintro x rest acc s ⟨w, d', sl, e1, rfl, hw, rfl⟩
      simp only [List.length_cons] at e1
      refine ⟨by rw [List.length_map]; unfold szL; omega, ?_⟩
      push_cast []
      refine wc_draw tD (by omega) (wd_lit (by omega)) fun r3 d3 h4 h5 => ?_
      push_cast [-TP.pm_toStrI, dig h4 h5]
      exact ⟨w ++ [48 + r3.toNat], d3, .val x, by rw [List.length_append, List.length_singleton]; omega, by simp, fun z hz => by
        rcases List.mem_append.mp hz with hz | hz
        · exact hw z hz
        · cases List.mem_singleton.mp hz; exact fig_mem (by omega), rfl⟩
    · rintro acc s ⟨w, d', sl, e1, rfl, hw, rfl⟩
      simp only [List.length_nil, Nat.zero_add] at e1
      have jo := @join_okS w (by omega)
      push_cast []
      refine wc_draw tD (by omega) (wd_lit (by omega)) fun r4 d4 h6 h7 => ?_
      have hw128 : ∀ c ∈ w, c < 128 := fun c hc => (FL (hw c hc)).2.2.2.2.2
      push_cast [-TP.pm_toStrI, dig h6 h7, pm_eq_nilS hw128]
      refine ⟨fun he => ?_, fun he => ?_⟩
      · exact q _ _ _ (Tk.nm (by simp) (by simpa using fig_mem (k := r4.toNat) (by omega)) (by simp) (by simp))
      · have fm : 0 ≤ r4.fmod 9 ∧ r4.fmod 9 < 9 := ⟨Int.fmod_nonneg_of_pos r4 (by omega), Int.fmod_lt_of_pos r4 (by omega)⟩
        have l1 : [48 + (1 + r4.fmod 9).toNat].length + w.length ≤ szL := by simp only [List.length_cons, List.length_nil]; unfold szL; omega
        push_cast [-TP.pm_toStrI, dig (r := 1 + r4.fmod 9) (by omega) (by omega), strs_map (f := fun c : Nat => [c]), jnK_s jo, join_ones, pm_addS l1]
        refine q _ _ _ (Tk.nm (by simp) ?_ (by simp; omega) ?_)
        · intro c hc
          rcases List.mem_cons.mp hc with rfl | hc
          · exact fig_mem (by omega)
          · exact hw c hc
        · intro _ h
          have := Option.some.inj h
          omega
  · refine wc_draw tD (by omega) (wd_lit (by omega)) fun r2 d2 h2 h3 => ?_
    obtain ⟨w, hw, hwm⟩ := atI_memM (g := PV.str) (ys := SIGNs) h2 (by simpa [SIGNs] using h3)
    simp only [SIGNs, List.map_cons, List.map_nil] at hw
    push_cast [hw]
    exact q _ _ _ (.sg hwm)

theorem cut_last0 : cutL ([] : List Nat) (some (-1)) none = [] := rfl
theorem cut_last1 {t : List Nat} {a : Nat} : cutL (t ++ [a]) (some (-1)) none = [a] := by
  unfold cutL
  have e : HT.sIx (t ++ [a]).length 0 (some (-1)) = t.length := by
    show (if (-1 : Int) < 0 then ((-1 : Int) + ((t ++ [a]).length : Int)).toNat else min (-1 : Int).toNat (t ++ [a]).length) = _
    rw [if_pos (by omega), List.length_append, List.length_singleton]
    omega
  rw [e, List.drop_left, List.take_of_length_le]
  show 1 ≤ (t ++ [a]).length - t.length
  rw [List.length_append, List.length_singleton]
  omega
theorem isinL {c : Nat} : primSem .isin [.str [c], .str [97, 98, 99, 100, 101, 102, 103, 104, 105, 106, 107, 108, 109, 110, 111, 112, 113, 114, 115, 116, 117, 118, 119, 120, 121, 122]] = some (.sh (.bl (decide (c ∈ LETs)))) := rfl
theorem isinF {c : Nat} : primSem .isin [.str [c], .str [48, 49, 50, 51, 52, 53, 54, 55, 56, 57]] = some (.sh (.bl (decide (c ∈ FIGs)))) := rfl
theorem isinG {c : Nat} : primSem .isin [.str [c], .str [61, 45, 62, 91, 93, 40, 41, 43, 42, 60, 58]] = some (.sh (.bl (decide (c ∈ SGNs)))) := rfl
theorem tx1 {c : Nat} (h : c < 128) : txOk [c] = true := by simp [txOk]; omega
theorem Pen.len {B : Nat} {t : List Nat} {l c : Nat} {f : List Mk} (h : Pen B t l c f) : t.length ≤ B := by obtain ⟨_, _, _, _, _, _, _, _, _, _, _, h⟩ := h; exact h
theorem Pen.ch {B : Nat} {t : List Nat} {l c : Nat} {f : List Mk} (h : Pen B t l c f) : ∀ c ∈ t, c < 128 := by
  obtain ⟨a, b, d, e, h1, h2, h3, h4, h5, h6, h7, h8⟩ := h
  intro c hc
  rw [h1] at hc
  rcases List.mem_append.mp hc with hc | hc
  · simp only [flat, List.mem_flatten, List.mem_map] at hc
    obtain ⟨x, ⟨r, hr, rfl⟩, hc⟩ := hc
    rcases List.mem_append.mp hc with hc | hc
    · exact (h7 r hr c hc).2
    · cases List.mem_singleton.mp hc; decide
  · exact (h5.chars c hc).2
theorem wc_lword {tab : Tab} {n : Nat} {d : Dr} {B : Nat} {t : List Nat} {l c : Nat} {fr : Bool} {f : List Mk} {k w : List Nat} {sto : List SO} {Q : RV → List Sl → List SO → Prop} {X : PV → List Sl → List SO → Prop} (tD : tab.lookup ("_law_draw" : Str) = some dDraw) (tL : tab.lookup ("_law_line" : Str) = some dLLine) (hl : tab.lookup ("_law_word" : Str) = some dLWord) (hn : 3 ≤ n) (hp : Pen B t l c f) (hB : B ≤ 90000) (hk : Tk k w)
    (hsg : ∀ a b, t.getLast? = some a → w.head? = some b → ¬ (a ∈ SGNs ∧ b ∈ SGNs)) (hfr : fr = true → t = [])
    (q : ∀ (t' : List Nat) (l' c' : Nat) (d' : Dr), Pen (B + 100) t' l' (c' + w.length) (f ++ [⟨k, w, l', c'⟩]) → Q (.sh (.tup [.int (l' : Int), .int (c' : Int)])) [.own d'.pv, .own (.lst [.str t', .int (l' : Int), .int ((c' + w.length : Nat) : Int), .bl false]), .val (.str w), .val (.int (-1)), .val (.bl true)] sto) :
    WC (callF tab n "_law_word" [.own d.pv, .own (.lst [.str t, .int (l : Int), .int (c : Int), .bl fr]), .val (.str w), .val (.int (-1)), .val (.bl true)] sto) Q X := by
  obtain ⟨n, rfl⟩ : ∃ m, n = m + 3 := ⟨n - 3, by omega⟩
  refine wc_def hl ⟨rfl, by decide⟩ ?_
  simp only [dLWord]
  have tl := hp.len
  have tlS : t.length ≤ szL := by unfold szL; omega
  have wl := hk.len
  have wlS : w.length ≤ szL := by unfold szL; omega
  have wch := hk.chars
  have t0 : txOk [] = true := rfl
  obtain ⟨b, w', hb⟩ : ∃ b w', w = b :: w' := by
    cases w with
    | nil => exact absurd rfl hk.ne
    | cons b w' => exact ⟨b, w', rfl⟩
  have hi0 : L2.atI w 0 = some b := by rw [hb]; exact atI_c0
  have hh : w.head? = some b := by rw [hb]; rfl
  push_cast [-TP.wS_ite, -TP.wS_asg]
  refine wS_join (a := [_, _, _, _, _]) (b := _) (fun s => ∃ (near : Bool) (last : PV), (near = false → ∀ a, t.getLast? = some a → ¬ ((a ∈ LETs ∧ b ∈ LETs) ∨ (a ∈ FIGs ∧ b ∈ FIGs))) ∧ s = ⟨[.own d.pv, .own (.lst [.str t, .int (l : Int), .int (c : Int), .bl fr]), .val (.str w), .val (.int (-1)), .val (.bl true), .val (.str LETs), .val (.str FIGs), .val last, .val (.bl near), .un, .un, .un], sto⟩) ?_ ?_
  · rcases List.eq_nil_or_concat t with e | ⟨t', a, e⟩
    · rw [e]
      push_cast [cut_last0, pm_neS]
      exact ⟨false, _, (fun _ a h => nomatch h), rfl⟩
    · rw [List.concat_eq_append] at e
      have ha : a < 128 := hp.ch a (by rw [e]; simp)
      have ta := tx1 ha
      rw [e] at tlS
      rw [e]
      have gl : (t' ++ [a]).getLast? = some a := by simp
      by_cases h1 : a ∈ LETs <;> by_cases h2 : b ∈ LETs <;> by_cases h3 : a ∈ FIGs <;> by_cases h4 : b ∈ FIGs <;> push_cast [-TP.pm_isinS, cut_last1, pm_neS, isinL, isinF, hi0, h1, h2, h3, h4] <;> exact ⟨_, _, (fun hh a' ha' => by rw [gl] at ha'; cases ha'; simp_all), rfl⟩
  · rintro s ⟨near, last, hnear, rfl⟩
    push_cast [-TP.wS_ite]
    refine wc_draw tD (by omega) (wd_lit (by omega)) fun r d1 h0 h1 => ?_
    push_cast [-TP.wS_ite]
    refine wS_split (fun s => ∃ (t' : List Nat) (l' c' : Nat) (d' : Dr) (s10 : Sl), Pen (B + 60) t' l' c' f ∧ sep t' w ∧ s = ⟨[.own d'.pv, .own (.lst [.str t', .int (l' : Int), .int (c' : Int), .bl false]), .val (.str w), .val (.int (-1)), .val (.bl true), .val (.str LETs), .val (.str FIGs), .val last, .val (.bl near), .val (.int r), s10, .un], sto⟩) ?_ ?_
    · cases fr with
      | true =>
        push_cast []
        refine ⟨t, l, c, d1, .un, hp.mono (by omega), ?_, rfl⟩
        rw [hfr rfl]
        intro a b h
        cases h
      | false =>
        push_cast [-TP.wS_asg, pm_eqI]
        refine ⟨fun hr => ?_, fun hr => ?_⟩
        · push_cast []
          refine wc_draw tD (by omega) (wd_lit (by omega)) fun r2 d2 h2 h3 => ?_
          obtain ⟨col, rfl⟩ : ∃ m : Nat, r2 = (m : Int) := ⟨r2.toNat, by omega⟩
          push_cast [Int.zero_add]
          refine wc_lline tD tL (by omega) hp (by omega) (by omega) fun t' l' d' g1 g2 => ?_
          push_cast []
          exact ⟨t', l', col, d', .un, g1.mono (by omega), g2 w, rfl⟩
        · have bl : ∀ (d2 : Dr) (m : Nat), 1 ≤ m → m ≤ 5 → ∃ (t' : List Nat) (l' c' : Nat) (d' : Dr) (s10 : Sl), Pen (B + 60) t' l' c' f ∧ sep t' w ∧ (⟨[.own d2.pv, .own (.lst [.str (t ++ List.replicate m 32), .int (l : Int), .int ((c : Int) + (m : Int)), .bl false]), .val (.str w), .val (.int (-1)), .val (.bl true), .val (.str LETs), .val (.str FIGs), .val last, .val (.bl near), .val (.int r), .val (.int (m : Int)), .un], sto⟩ : SS) = ⟨[.own d'.pv, .own (.lst [.str t', .int (l' : Int), .int (c' : Int), .bl false]), .val (.str w), .val (.int (-1)), .val (.bl true), .val (.str LETs), .val (.str FIGs), .val last, .val (.bl near), .val (.int r), s10, .un], sto⟩ := by
            intro d2 m m1 m2
            refine ⟨t ++ List.replicate m 32, l, c + m, d2, .val (.int (m : Int)), (hp.blanks m).mono (by omega), ?_, rfl⟩
            obtain ⟨m, rfl⟩ : ∃ j, m = j + 1 := ⟨m - 1, by omega⟩
            rw [List.replicate_succ', ← List.append_assoc]
            exact sep_bl2
          have pick : ∀ r2 : Int, 0 ≤ r2 → r2 < 4 → ∃ m : Nat, L2.atI [PV.int 1, PV.int 1, PV.int 2, PV.int 5] r2 = some (.int (m : Int)) ∧ 1 ≤ m ∧ m ≤ 5 := by
            intro r2 h2 h3
            obtain ⟨m, e, hm⟩ := atI_memM (g := fun m : Nat => PV.int (m : Int)) (ys := [1, 1, 2, 5]) h2 (by simpa using h3)
            refine ⟨m, e, ?_⟩
            simp only [List.mem_cons, List.not_mem_nil, or_false] at hm
            omega
          have mul : ∀ m : Nat, m ≤ 5 → primSem .mul [.str [32], .int (m : Int)] = some (.sh (.str (List.replicate m 32))) := by
            intro m hm
            have sm : small63 (m : Int) = true := by simp [small63]; omega
            have e5 : ((m : Int)).toNat = m := by omega
            refine (pm_mulS sm (by rw [e5]; simp only [List.length_cons, List.length_nil]; unfold szL; omega)).trans ?_
            rw [e5]
            have : (List.replicate m [32]).flatten = List.replicate m 32 := by simp
            rw [this]
          have add : ∀ m : Nat, m ≤ 5 → t.length + (List.replicate m 32).length ≤ szL := by
            intro m hm
            rw [List.length_replicate]; unfold szL; omega
          have low : ∀ {Qf : Fl → SS → Prop} {X : PV → SS → Prop}, (∀ (d2 : Dr) (m : Nat), 1 ≤ m → m ≤ 5 → Qf .nx ⟨[.own d2.pv, .own (.lst [.str (t ++ List.replicate m 32), .int (l : Int), .int ((c : Int) + (m : Int)), .bl false]), .val (.str w), .val (.int (-1)), .val (.bl true), .val (.str LETs), .val (.str FIGs), .val last, .val (.bl near), .val (.int r), .val (.int (m : Int)), .un], sto⟩) → wS (callF tab (n + 2)) 5 [.asg (.nm 10) (.prim .idx [(.list [(.con (.int (1))), (.con (.int (1))), (.con (.int (2))), (.con (.int (5)))]), (.call "_law_draw" [(.var 0), (.con (.int (4)))])]), .setix (.var 1) (.con (.int (0))) (.prim .add [(.prim .idx [(.var 1), (.con (.int (0)))]), (.prim .mul [(.con (.str [32])), (.var 10)])]), .setix (.var 1) (.con (.int (2))) (.prim .add [(.prim .idx [(.var 1), (.con (.int (2)))]), (.var 10)])] ⟨[.own d1.pv, .own (.lst [.str t, .int (l : Int), .int (c : Int), .bl false]), .val (.str w), .val (.int (-1)), .val (.bl true), .val (.str LETs), .val (.str FIGs), .val last, .val (.bl near), .val (.int r), .un, .un], sto⟩ Qf X := by
            intro Qf X hq
            push_cast []
            refine wc_draw tD (by omega) (wd_lit (by omega)) fun r2 d2 h2 h3 => ?_
            obtain ⟨m, hm, m1, m2⟩ := pick r2 h2 h3
            push_cast [hm, mul m m2, pm_addS (add m m2)]
            exact hq d2 m m1 m2
          cases near with
          | true =>
            push_cast [-TP.wS_asg]
            refine ⟨fun _ => low fun d2 m m1 m2 => bl d2 m m1 m2, fun _ => ?_⟩
            push_cast [-TP.wS_asg]
            exact low fun d2 m m1 m2 => bl d2 m m1 m2
          | false =>
            push_cast [-TP.wS_asg]
            refine ⟨fun _ => low fun d2 m m1 m2 => bl d2 m m1 m2, fun _ => ?_⟩
            push_cast []
            refine ⟨t, l, c, d1, .un, hp.mono (by omega), ?_, rfl⟩
            intro a b' ha hb'
            rw [hh] at hb'
            cases hb'
            have g := hnear rfl a ha
            rintro (h | h | h)
            · exact g (.inl h)
            · exact g (.inr h)
            · exact hsg a b ha hh h
    · rintro s ⟨t', l', c', d', s10, g1, g2, rfl⟩
      have g3 := (g1.word hk g2).mono (show B + 60 + 9 ≤ B + 100 by omega)
      have := g1.len
      have l1 : t'.length + w.length ≤ szL := by unfold szL; omega
      push_cast [pm_addS l1]
      exact q (t' ++ w) l' c' d' g3

theorem Pen.marks {B : Nat} {t : List Nat} {l c : Nat} {f : List Mk} (h : Pen B t l c f) (hB : B ≤ 100000) : ∃ rows, TL.spl [10] 0 [] t = rows ∧ (∀ r ∈ rows, r.length ≤ 1000000 ∧ ∀ c ∈ r, c < 128) ∧ Scs 0 rows f ∧ f.length ≤ 1000000 := by
  obtain ⟨a, b, d, e, h1, h2, h3, h4, h5, h6, h7, h8⟩ := h
  have lt : t.length = (flat a).length + b.length := by rw [h1, List.length_append]
  refine ⟨a ++ [b], ?_, ?_, ?_, ?_⟩
  · rw [h1]
    exact spl_rows (fun r hr hm => (h7 r hr 10 hm).1 rfl) fun hm => (h5.chars 10 hm).1 rfl
  · intro r hr
    rcases List.mem_append.mp hr with hr | hr
    · have := mem_flat hr
      exact ⟨by omega, fun c hc => (h7 r hr c hc).2⟩
    · cases List.mem_singleton.mp hr
      exact ⟨by omega, fun c hc => (h5.chars c hc).2⟩
  · rw [h6]
    refine h4.app ?_
    rw [Nat.zero_add, ← h2]
    have := h5.sc (r := []) sep_nil .nil
    rwa [List.append_nil, List.append_nil] at this
  · have a1 := h4.count
    have a2 := h5.count
    rw [h6, List.length_append]
    omega
def Mk.ok (m : Mk) : Prop := txOk m.kind = true ∧ txOk m.word = true
theorem Tk.ok {k w : List Nat} (h : Tk k w) : txOk k = true ∧ txOk w = true := by
  have hw : txOk w = true := by
    unfold txOk
    rw [List.all_eq_true]
    intro c hc
    have := (h.chars c hc).2.2.2
    exact decide_eq_true (by omega)
  refine ⟨?_, hw⟩
  cases h with
  | lt _ _ _ => split <;> decide
  | nm _ _ _ _ => decide
  | sg _ => decide
theorem mk_deep {m : Mk} (h : m.ok) : m.pv.deep = some 1 := by
  obtain ⟨h1, h2⟩ := h
  unfold txOk at h1 h2
  simp only [Mk.pv, PV.deep, deeps, h1, h2, if_true]
  rfl
theorem mks_ok {f : List Mk} (h : ∀ m ∈ f, m.ok) : dataOk (.lst (f.map Mk.pv)) = true := by
  have : ∃ e, deeps (f.map Mk.pv) = some e ∧ e ≤ 1 := by
    induction f with
    | nil => exact ⟨0, rfl, by omega⟩
    | cons m f ih =>
      obtain ⟨e, h1, h2⟩ := ih fun x hx => h x (List.mem_cons_of_mem _ hx)
      refine ⟨max 1 e, ?_, by omega⟩
      rw [List.map_cons, deeps, mk_deep (h m (List.mem_cons_self ..)), h1]
  obtain ⟨e, h1, h2⟩ := this
  unfold dataOk
  rw [PV.deep, h1]
  exact decide_eq_true (show e + 1 ≤ 60 by omega)
theorem wc_ltext {tab : Tab} {n : Nat} {d : Dr} {sto : List SO} {Q : RV → List Sl → List SO → Prop} {X : PV → List Sl → List SO → Prop} (tD : tab.lookup ("_law_draw" : Str) = some dDraw) (tK : tab.lookup ("_law_keys" : Str) = some dLKeys) (tM : tab.lookup ("_law_mark" : Str) = some dLMark) (tL : tab.lookup ("_law_line" : Str) = some dLLine) (tW : tab.lookup ("_law_word" : Str) = some dLWord) (hl : tab.lookup ("_law_marks_text" : Str) = some dLText) (hn : 4 ≤ n)
    (q : ∀ (t : List Nat) (l c : Nat) (f : List Mk) (d' : Dr), Pen 2000 t l c f → (∀ m ∈ f, m.ok) → Q (.sh (.tup [.str t, .lst (f.map Mk.pv)])) [.own d'.pv, .val (.int 12), .val (.int 0)] sto) : WC (callF tab n "_law_marks_text" [.own d.pv, .val (.int 12), .val (.int 0)] sto) Q X := by
  obtain ⟨n, rfl⟩ : ∃ m, n = m + 4 := ⟨n - 4, by omega⟩
  refine wc_def hl ⟨rfl, by decide⟩ ?_
  simp only [dLText]
  have t0 : txOk [] = true := rfl
  push_cast []
  refine wc_draw tD (by omega) (wd_lit (by omega)) fun r d1 h0 h1 => ?_
  push_cast []
  refine ⟨by omega, ?_⟩
  refine fr_rule (fun xs s => ∃ (j : Nat) (t : List Nat) (l c : Nat) (f : List Mk) (d' : Dr) (fr : Bool) (s5 s6 s7 s8 s9 s10 : Sl), xs.length + j ≤ 12 ∧ Pen (110 * j) t l c f ∧ (∀ m ∈ f, m.ok) ∧ (fr = true → t = []) ∧ s = ⟨[.own d'.pv, .val (.int 12), .val (.int 0), .own (.lst [.str t, .int (l : Int), .int (c : Int), .bl fr]), .own (.lst (f.map Mk.pv)), s5, s6, s7, s8, s9, s10], sto⟩) ⟨0, [], 0, 0, [], d1, true, .un, .un, .un, .un, .un, .un, by simp [rangeL]; omega, Pen.start, (fun _ h => nomatch h), fun _ => rfl, rfl⟩ ?_ ?_
  · rintro s ⟨j, t, l, c, f, d', fr, s5, s6, s7, s8, s9, s10, e1, e2, e3, e4, rfl⟩
    push_cast []
    refine wc_draw tD (by omega) (wd_lit (by omega)) fun r2 d2 h2 h3 => ?_
    push_cast [-TP.wS_expr, pm_eqI]
    refine ⟨fun hr => ?_, fun hr => ?_⟩
    · push_cast []
      refine wc_draw tD (by omega) (wd_lit (by omega)) fun r3 d3 h4 h5 => ?_
      obtain ⟨col, rfl⟩ : ∃ m : Nat, r3 = (m : Int) := ⟨r3.toNat, by omega⟩
      push_cast []
      refine wc_lline tD tL (by omega) (e2.mono (show 110 * j ≤ 1900 by omega)) (by omega) (by omega) fun t' l' d' g1 g2 => ?_
      push_cast []
      exact q _ _ _ _ _ (g1.mono (by omega)) e3
    · push_cast []
      exact q _ _ _ _ _ (e2.mono (by omega)) e3
  · rintro x rest s ⟨j, t, l, c, f, d', fr, s5, s6, s7, s8, s9, s10, e1, e2, e3, e4, rfl⟩
    simp only [List.length_cons] at e1
    push_cast []
    refine wc_lmark tD tK tM (by omega) fun k w d2 hk => ?_
    push_cast [-TP.wS_ite]
    have tl := e2.len
    have tlS : t.length ≤ szL := by unfold szL; omega
    have wl := hk.len
    have wlS : w.length ≤ szL := by unfold szL; omega
    obtain ⟨b, w', hb⟩ : ∃ b w', w = b :: w' := by
      cases w with
      | nil => exact absurd rfl hk.ne
      | cons b w' => exact ⟨b, w', rfl⟩
    have hi0 : L2.atI w 0 = some b := by rw [hb]; exact atI_c0
    have hh : w.head? = some b := by rw [hb]; rfl
    refine wS_split (fun s => ∃ (t' : List Nat) (c' : Nat), Pen (110 * j + 1) t' l c' f ∧ (∀ a b, t'.getLast? = some a → w.head? = some b → ¬ (a ∈ SGNs ∧ b ∈ SGNs)) ∧ (fr = true → t' = []) ∧ s = ⟨[.own d2.pv, .val (.int 12), .val (.int 0), .own (.lst [.str t', .int (l : Int), .int (c' : Int), .bl fr]), .own (.lst (f.map Mk.pv)), .val x, .val (.str k), .val (.str w), .val (.str SGNs), s9, s10], sto⟩) ?_ ?_
    · rcases List.eq_nil_or_concat t with e | ⟨t', a, e⟩
      · rw [e]
        push_cast [cut_last0, pm_neS, pm_eqI]
        rw [e] at e2
        exact ⟨[], c, e2.mono (by omega), (fun _ _ h => nomatch h), fun _ => rfl, rfl⟩
      · rw [List.concat_eq_append] at e
        have ha : a < 128 := e2.ch a (by rw [e]; simp)
        have ta := tx1 ha
        rw [e] at tlS
        have gl : t.getLast? = some a := by rw [e]; simp
        have hfr : fr = true → t = [] := e4
        have tne : t ≠ [] := by rw [e]; simp
        have l1 : t.length + [32].length ≤ szL := by simp only [List.length_cons, List.length_nil]; unfold szL; omega
        have cl : cutL t (some (-1)) none = [a] := by rw [e]; exact cut_last1
        rw [← e] at tlS
        by_cases h1 : a ∈ SGNs <;> by_cases h2 : b ∈ SGNs <;> push_cast [-TP.pm_isinS, cl, pm_neS, pm_eqI, isinG, hi0, h1, h2, pm_addS l1]
        · refine ⟨t ++ [32], c + 1, (e2.blanks 1), ?_, fun h => absurd (hfr h) tne, rfl⟩
          intro a' b' ha' hb' hs
          rw [List.getLast?_append] at ha'
          cases ha'
          exact absurd hs.1 (by decide)
        · exact ⟨t, c, e2.mono (by omega), (fun a' b' ha' hb' hs => by rw [hh] at hb'; cases hb'; exact h2 hs.2), hfr, rfl⟩
        · exact ⟨t, c, e2.mono (by omega), (fun a' b' ha' hb' hs => by rw [gl] at ha'; cases ha'; exact h1 hs.1), hfr, rfl⟩
        · exact ⟨t, c, e2.mono (by omega), (fun a' b' ha' hb' hs => by rw [gl] at ha'; cases ha'; exact h1 hs.1), hfr, rfl⟩
    · rintro s ⟨t', c', g1, g2, g3, rfl⟩
      push_cast []
      refine wc_lword tD tL tW (by omega) g1 (by omega) hk g2 g3 fun t2 l2 c2 d3 g4 => ?_
      have fl : f.length ≤ 100000 := by
        obtain ⟨a1, a2, a3, a4, b1, b2, b3, b4, b5, b6, b7, b8⟩ := e2
        have x1 := b4.count
        have x2 := b5.count
        rw [b1, List.length_append] at b8
        rw [b6, List.length_append]
        omega
      push_cast []
      refine ⟨j + 1, t2, l2, c2 + w.length, f ++ [⟨k, w, l2, c2⟩], d3, false, _, _, _, _, _, _, by omega, g4.mono (by omega), ?_, (fun h => nomatch h), by rw [List.map_append]; rfl⟩
      intro m hm
      rcases List.mem_append.mp hm with hm | hm
      · exact e3 m hm
      · cases List.mem_singleton.mp hm
        exact hk.ok

end TP

set_option Elab.async false
set_option linter.all false
set_option maxRecDepth 100000
set_option maxHeartbeats 4000000
set_option exponentiation.threshold 20000
/-! Kk01: the law k01. -/
namespace TP
open PySem
local macro_rules
  | `(tactic| push_cast [$xs,*]) => `(tactic| simp (maxSteps := 2000000) -implicitDefEqProofs -dsimp (disch := first | assumption | (with_reducible refine TP.big_lit ?_; omega) | decide | omega | (simp only [List.length_cons, List.length_nil, List.length_map, List.length_append, TP.szL]; omega)) only [TP.oK_some, TP.varK_val, TP.varK_own, TP.BR_t, TP.BR_f, TP.BR_d, ↓TP.wE_con, ↓TP.wE_dead, ↓TP.wEs_nil, ↓TP.wEs_cons, ↓TP.wE_prim1, ↓TP.wE_prim2, TP.strK_s, ↓TP.wE_sm, TP.dixK_s, ↓TP.wE_didx, TP.TS_bl, ↓TP.wE_not, ↓TP.wE_and1, ↓TP.wE_and, ↓TP.wE_or1, ↓TP.wE_or, ↓TP.wE_ite, ↓TP.wE_chain, ↓TP.KPs_nil, TP.keep_sh, TP.keep_fr, TP.keep_hd, TP.keepH_val, TP.keepH_own, ↓TP.wE_tup, ↓TP.wE_list, ↓TP.wE_call, ↓TP.wE_callK, TP.gloK_v, ↓TP.wE_callL, ↓TP.wE_mut, ↓TP.wE_slice, ↓TP.wE_lc, TP.itK_s, ↓TP.wI_of, TP.rgK_i, ↓TP.wI_range1, TP.rg2K_i, ↓TP.wI_range2, ↓TP.wI_enum, ↓TP.wI_rev, ↓TP.wI_zip, ↓TP.nxt_nx, ↓TP.nxt_br, ↓TP.nxt_ct, ↓TP.nxt_rt, ↓TP.lpQ_nx, ↓TP.lpQ_ct, ↓TP.lpQ_br, ↓TP.lpQ_rt, TP.BT_nm, TP.BT_tup, TP.BT_lst, TP.BTs_nil, TP.BTs_cons, TP.AG_sh, TP.AG_fr, TP.AG_frT, TP.AG_hd, TP.RT_sh, TP.RT_fr, TP.RT_hd, TP.rtH_val, TP.rtH_own, TP.rtH_par, ↓TP.wS_nil, ↓TP.wS_asg, ↓TP.wS_ret, ↓TP.wS_retN, ↓TP.wS_pass, ↓TP.wS_brk, ↓TP.wS_cont, ↓TP.wS_dead, ↓TP.wS_expr, ↓TP.wS_apc, ↓TP.wS_apn, ↓TP.wS_ite, ↓TP.wS_setix, ↓TP.wS_augU, TP.AU_v, ↓TP.wS_par, ↓TP.wS_asgR, ↓TP.wS_for, ↓TP.wS_while, ↓TP.dfQ_nx, ↓TP.dfQ_rt, ↓TP.wE_var', TP.cont_sh, TP.cont_fr, TP.cont_hd, TP.contH_val, TP.contH_own, TP.boxC_nl, TP.boxC_non, TP.boxC_bl, TP.boxC_int, TP.boxC_str, TP.boxC_tup, TP.boxC_lst, TP.boxC_rol, TP.boxC_ty, TP.boxC_glo, TP.putBack_hd, TP.pbH_own, TP.argsOf_nil, TP.argsOf_sh, TP.argsOf_fr, TP.argsOf_hd, TP.argH_val, TP.argH_own, TP.backE_nil, TP.backE_sh, TP.backE_fr, TP.backE_own, TP.backE_val, TP.permR_nil, TP.permR_inl, TP.permR_inr, TP.finA_nil, TP.finA_cons, TP.frzA_nil, TP.frzA_cons, TP.frz1_eq, TP.frH_own, TP.frH_val, TP.itemsOf_lst, TP.itemsOf_tup, TP.itemsOf_rol, TP.itemsOf_str, TP.enumOf_lst, TP.revOf_lst, TP.revOf_tup, TP.zipOf_lst, TP.zipOf_tup, TP.P1_s, TP.P2_s, TP.SM_s, TP.MU_s, TP.SX_s, TP.C2_s, TP.C2k_t, TP.C2k_f, TP.C2k_d, TP.BR_nd, TP.pm_add, TP.pm_sub, TP.pm_neg, TP.pm_addS, TP.pm_addT, TP.pm_addL, TP.pm_mul, TP.pm_fdiv, TP.pm_mod, TP.pm_pow, TP.pm_lt, TP.pm_le, TP.pm_gt, TP.pm_ge, TP.pm_isN, TP.pm_notN, TP.pm_isB, TP.pm_notB, TP.pm_idx_lst, TP.pm_len_lst, TP.pm_idx_tup, TP.pm_len_tup, TP.pm_idx_rol, TP.pm_len_rol, TP.pm_idx_str, TP.pm_len_str, TP.pm_abs, TP.pm_min2, TP.pm_max2, TP.pm_toIntI, TP.pm_toIntB, TP.pm_toTupL, TP.pm_toTupT, TP.pm_toList_lst, TP.pm_toList_tup, TP.pm_toList_rol, TP.pm_all, TP.pm_any, TP.pm_sum, TP.pm_revs, TP.pm_toStrI, TP.pm_joinL, TP.jnK_s, TP.pm_split, TP.pm_mulS, TP.pm_mulL, TP.pm_mulT, TP.pm_isinT, TP.pm_isinL, TP.pm_notinT, TP.pm_notinL, TP.pm_isinS, TP.pm_notinS, TP.pm_isi_non_int, TP.pm_isi_non_bool, TP.pm_isi_non_str, TP.pm_isi_non_tuple, TP.pm_isi_non_list, TP.pm_isi_non_dict, TP.pm_isi_bl_int, TP.pm_isi_bl_bool, TP.pm_isi_bl_str, TP.pm_isi_bl_tuple, TP.pm_isi_bl_list, TP.pm_isi_bl_dict, TP.pm_isi_int_int, TP.pm_isi_int_bool, TP.pm_isi_int_str, TP.pm_isi_int_tuple, TP.pm_isi_int_list, TP.pm_isi_int_dict, TP.pm_isi_str_int, TP.pm_isi_str_bool, TP.pm_isi_str_str, TP.pm_isi_str_tuple, TP.pm_isi_str_list, TP.pm_isi_str_dict, TP.pm_isi_tup_int, TP.pm_isi_tup_bool, TP.pm_isi_tup_str, TP.pm_isi_tup_tuple, TP.pm_isi_tup_list, TP.pm_isi_tup_dict, TP.pm_isi_lst_int, TP.pm_isi_lst_bool, TP.pm_isi_lst_str, TP.pm_isi_lst_tuple, TP.pm_isi_lst_list, TP.pm_isi_lst_dict, TP.mu_app, TP.mu_clear, TP.mu_reverse, TP.mutTy_s, TP.set_lst, TP.aug_add, TP.aug_sub, TP.sl_lst, TP.sl_tup, TP.sl_str, TP.bnd_abs, TP.bnd_int, TP.isAbs_non, TP.isAbs_int, TP.isAbs_var, TP.isAbs_prim, TP.isAbs_call, TP.bools_map, TP.ints_map, TP.strs_map, TP.ixN_0, TP.ixN_1, TP.atI_c0, TP.atI_nat, TP.atI_c1, TP.atI_c2, TP.atI_c3, TP.atI_c4, TP.atI_c5, TP.atI_c6, TP.atI_c7, TP.pm_eqI, TP.pm_neI, TP.tx_ok, TP.pm_eqS, TP.pm_neS, TP.any_str, TP.all_flat_str, TP.pm_isinT_s, TP.pm_notinT_s, TP.pm_isinL_s, TP.pm_notinL_s, TP.WC_ok, ↓TP.KPs_cons, List.getElem?_cons_succ, List.getElem?_cons_zero, List.set_cons_succ, List.set_cons_zero, List.cons_append, List.nil_append, List.length_cons, List.length_nil, Option.map_some, Option.bind_some, List.append_nil, List.getD_cons_zero, List.getD_cons_succ, List.replicate_succ, List.replicate_zero, TP.wipeS_nil, TP.wipeS_cons, TP.restS_nil, TP.restS_cons, TP.ownSlots_nil, TP.ownSlots_cons, TP.owH_val, TP.owH_un, Bool.or_false, Bool.false_or, Bool.or_true, Bool.true_or, Bool.and_true, Bool.true_and, Bool.and_false, Bool.false_and, Bool.not_true, Bool.not_false, List.not_mem_nil, if_true, if_false, ite_true, ite_false, and_true, true_and, forall_const, true_implies, false_implies, not_true, not_false, decide_true, decide_false, decide_eq_true_eq, Bool.false_eq_true, Bool.true_eq_false, and_self, not_true_eq_false, not_false_eq_true, ↓TP.CS_nil, ↓TP.CS_one, Int.reduceAdd, Int.reduceSub, Int.reduceMul, Int.reduceNeg, Int.reduceLT, Int.reduceLE, Int.reduceToNat, Int.reducePow, Nat.reduceAdd, Nat.reduceSub, Nat.reduceEqDiff, Int.reduceEq, Int.reduceFDiv, Int.reduceFMod, List.cons.injEq, reduceCtorEq, List.mem_cons, or_false, or_true, false_or, true_or, false_and, and_false, ne_eq, $xs,*])

def dLaw01 : Fd := ⟨1, 6, [], [.for (.nm 1) (.range [(.prim .max2 [(.con (.int (1))), (.prim .min2 [(.con (.int (30))), (.prim .len [(.var 0)])])])]) [.asg (.nm 2) (.call "_law_draws" [(.var 0), (.var 1)]), .asg (.tp [(.nm 3), (.nm 4)]) (.call "_law_marks_text" [(.var 2), (.con (.int (12))), (.con (.int (0)))]), .asg (.nm 5) (.call "marks" [(.var 3)]), .ite (.or [(.not (.prim .isi [(.var 5), (.con (.ty "list"))])), (.prim .ne [(.var 5), (.var 4)])]) [.ret (.con (.bl false))] [], .ite (.or [(.prim .ne [(.call "marks" [(.prim .add [(.var 3), (.con (.str [32, 35, 32, 55, 32, 33, 10]))])]), (.var 4)]), (.prim .ne [(.call "marks" [(.con (.str [10, 32, 35, 32, 40, 32, 97, 98, 99, 100, 101, 102, 103, 104, 105, 106, 107, 10, 32, 32, 32]))]), (.list [])])]) [.ret (.con (.bl false))] []], .ret (.con (.bl true))]⟩
theorem k01_law {tab : Tab} (tD : tab.lookup ("_law_draw" : Str) = some dDraw) (tDs : tab.lookup ("_law_draws" : Str) = some dDraws) (tr : tab.lookup ("run_of" : Str) = some dRunOf) (tm : tab.lookup ("mark_at" : Str) = some dMarkAt) (tma : tab.lookup ("marks" : Str) = some dMarks) (tK : tab.lookup ("_law_keys" : Str) = some dLKeys) (tM : tab.lookup ("_law_mark" : Str) = some dLMark) (tL : tab.lookup ("_law_line" : Str) = some dLLine) (tW : tab.lookup ("_law_word" : Str) = some dLWord) (tT : tab.lookup ("_law_marks_text" : Str) = some dLText) (tlaw : tab.lookup ("law" : Str) = some dLaw01) (ns : List Int) (hns : ns.length ≤ 63) :
    WC (callF tab 100 "law" [.val (.rol (ns.map PV.int))] []) (fun r _ _ => r = .sh (.bl true)) fun _ _ _ => False := by
  refine wc_def tlaw ⟨rfl, by decide⟩ ?_
  simp only [dLaw01]
  push_cast [List.length_map]
  refine ⟨by split <;> (try split) <;> omega, ?_⟩
  refine fr_rule (fun xs s => (∀ x ∈ xs, ∃ k : Nat, k < 64 ∧ x = .int k) ∧ ∃ a1 a2 a3 a4 a5 : Sl, s = ⟨[.val (.rol (ns.map PV.int)), a1, a2, a3, a4, a5], []⟩) ⟨?_, _, _, _, _, _, rfl⟩ ?_ ?_
  · intro x hx
    obtain ⟨k, hk, rfl⟩ := List.mem_map.mp hx
    refine ⟨k, ?_, by simp⟩
    have := List.mem_range.mp hk
    split at this <;> (try split at this) <;> omega
  · rintro s ⟨_, a1, a2, a3, a4, a5, rfl⟩
    push_cast []
  · rintro x rest s ⟨hx, a1, a2, a3, a4, a5, rfl⟩
    obtain ⟨k, hk, rfl⟩ := hx x (List.mem_cons_self ..)
    have hrest : ∀ x ∈ rest, ∃ k : Nat, k < 64 ∧ x = .int k := fun y hy => hx y (List.mem_cons_of_mem _ hy)
    push_cast []
    refine wc_draws tDs hk fun d0 => ?_
    push_cast []
    refine wc_ltext tD tK tM tL tW tT (by omega) fun t l c f d1 hp hok => ?_
    have mk : ∀ (B : Nat) (t : List Nat) (l c : Nat) (f : List Mk), Pen B t l c f → B ≤ 100000 → callF tab 99 "marks" [.val (.str t)] [] = .ok (.fr (.lst (f.map Mk.pv))) [.val (.str t)] [] := by
      intro B t l c f h hB
      obtain ⟨rows, h1, h2, h3, h4⟩ := h.marks hB
      have := h.len
      exact wc_marks tr tm tma (by omega) (by omega) h1 h2 h3 h4
    have e1 := mk _ _ _ _ _ hp (by omega)
    have p2 := hp.rowG (r := [32, 35, 32, 55, 32, 33]) ⟨fun _ => sep_bl (.inl rfl), fun _ _ => .blank .rem, by decide⟩
    rw [List.append_assoc] at p2
    have e2 := mk _ _ _ _ _ p2 (by simp)
    have p3 := ((Pen.start.rowG (r := []) ⟨fun _ => sep_nil, fun _ _ => .nil, fun _ h => (nomatch h)⟩).rowG (r := [32, 35, 32, 40, 32, 97, 98, 99, 100, 101, 102, 103, 104, 105, 106, 107]) ⟨fun _ => sep_bl (.inl rfl), fun _ _ => .blank .rem, by decide⟩).blanks 3
    have e3 := mk _ _ _ _ _ p3 (by decide)
    simp only [List.nil_append, List.cons_append, List.append_nil, List.replicate_succ, List.replicate_zero, List.map_nil] at e2 e3
    have ne : primSem .ne [.lst (f.map Mk.pv), .lst (f.map Mk.pv)] = some (.sh (.bl false)) := (pm_ne (mks_ok hok) (mks_ok hok)).trans (by rw [eqv_refl (mks_ok hok)]; rfl)
    have ne0 : primSem .ne [.lst [], .lst []] = some (.sh (.bl false)) := (pm_ne rfl rfl).trans rfl
    have ll := hp.len
    have l1 : t.length + [32, 35, 32, 55, 32, 33, 10].length ≤ szL := by simp only [List.length_cons, List.length_nil]; unfold szL; omega
    push_cast [e1, ne, pm_addS l1, e2, e3, ne0]
    exact ⟨hrest, _, _, _, _, _, rfl⟩
end TP

set_option Elab.async false
set_option linter.all false
set_option maxRecDepth 100000
set_option maxHeartbeats 0
namespace Lk01
open TP PySem PyProof.Rows TP.PV
def top (i : Nat) : Stmt := PySem.Challenge.pw_tierpile_k01_marks_of_a_text.main.body.getD i (.Pass ⟨0, 0, 0, 0⟩)
def d_run_of : Fd := ⟨3, 3, [1], [.while (.and [(.prim .lt [(.var 1), (.prim .len [(.var 0)])]), (.prim .isin [(.prim .idx [(.var 0), (.var 1)]), (.var 2)])]) [.aug 1 .add (.con (.int (1)))], .ret (.var 1)]⟩
def d_mark_at : Fd := ⟨3, 5, [], [.asg (.nm 3) (.slice (.var 0) (.var 1) (.call "run_of" [(.var 0), (.var 1), (.con (.str [97, 98, 99, 100, 101, 102, 103, 104, 105, 106, 107, 108, 109, 110, 111, 112, 113, 114, 115, 116, 117, 118, 119, 120, 121, 122]))])), .ite (.prim .ne [(.var 3), (.con (.str []))]) [.ite (.prim .gt [(.prim .len [(.var 3)]), (.con (.int (8)))]) [.dead] [], .ret (.tup [(.ite (.prim .isin [(.var 3), (.con (.tup [.str [108, 101, 116], .str [105, 102], .str [116, 104, 101, 110], .str [101, 108, 115, 101], .str [99, 97, 115, 101], .str [111, 102], .str [100, 105, 118], .str [109, 111, 100], .str [97, 110, 100], .str [111, 114]]))]) (.con (.str [107, 101, 121])) (.con (.str [110, 97, 109, 101]))), (.var 3), (.var 2), (.var 1)])] [], .asg (.nm 3) (.slice (.var 0) (.var 1) (.call "run_of" [(.var 0), (.var 1), (.con (.str [48, 49, 50, 51, 52, 53, 54, 55, 56, 57]))])), .ite (.prim .ne [(.var 3), (.con (.str []))]) [.ite (.or [(.prim .gt [(.prim .len [(.var 3)]), (.con (.int (9)))]), (.and [(.prim .gt [(.prim .len [(.var 3)]), (.con (.int (1)))]), (.prim .eq [(.prim .idx [(.var 3), (.con (.int (0)))]), (.con (.str [48]))])])]) [.dead] [], .ret (.tup [(.con (.str [110, 117, 109, 98, 101, 114])), (.var 3), (.var 2), (.var 1)])] [], .for (.nm 4) (.of (.con (.tup [.str [61, 61], .str [45, 62], .str [91, 93], .str [40], .str [41], .str [43], .str [45], .str [42], .str [60], .str [61], .str [58]]))) [.ite (.prim .eq [(.slice (.var 0) (.var 1) (.prim .add [(.var 1), (.prim .len [(.var 4)])])), (.var 4)]) [.ret (.tup [(.con (.str [115, 105, 103, 110])), (.var 4), (.var 2), (.var 1)])] []], .dead]⟩
def d_marks : Fd := ⟨1, 6, [], [.asg (.nm 1) (.list []), .for (.tp [(.nm 2), (.nm 3)]) (.enum (.sm .split (.var 0) (.con (.str [10])))) [.asg (.nm 4) (.con (.int (0))), .while (.and [(.prim .lt [(.var 4), (.prim .len [(.var 3)])]), (.prim .ne [(.prim .idx [(.var 3), (.var 4)]), (.con (.str [35]))])]) [.ite (.prim .eq [(.prim .idx [(.var 3), (.var 4)]), (.con (.str [32]))]) [.aug 4 .add (.con (.int (1)))] [.asg (.nm 5) (.call "mark_at" [(.var 3), (.var 4), (.var 2)]), .expr (.mut .append (.var 1) [(.var 5)]), .aug 4 .add (.prim .len [(.prim .idx [(.var 5), (.con (.int (1)))])])]]], .ret (.var 1)]⟩
def d_law_draws : Fd := ⟨2, 3, [], [.asg (.nm 2) (.prim .mul [(.con (.int (15485863))), (.var 1)]), .ite (.prim .lt [(.var 1), (.prim .len [(.var 0)])]) [.asg (.nm 2) (.prim .mod [(.prim .idx [(.var 0), (.var 1)]), (.prim .mul [(.prim .mul [(.prim .mul [(.prim .mul [(.prim .pow [(.con (.int (10))), (.con (.int (60)))]), (.prim .pow [(.con (.int (10))), (.con (.int (60)))])]), (.prim .pow [(.con (.int (10))), (.con (.int (60)))])]), (.prim .pow [(.con (.int (10))), (.con (.int (60)))])]), (.prim .pow [(.con (.int (10))), (.con (.int (60)))])])])] [.ite (.prim .gt [(.prim .len [(.var 0)]), (.con (.int (0)))]) [.asg (.nm 2) (.prim .add [(.prim .mod [(.prim .idx [(.var 0), (.prim .mod [(.var 1), (.prim .len [(.var 0)])])]), (.prim .pow [(.con (.int (10))), (.con (.int (15)))])]), (.prim .mul [(.con (.int (15485863))), (.var 1)])])] []], .ret (.list [(.prim .mul [(.var 2), (.prim .toInt [(.prim .ge [(.var 2), (.prim .pow [(.con (.int (10))), (.con (.int (18)))])])])]), (.prim .add [(.con (.int (1))), (.prim .mod [(.prim .add [(.prim .mul [(.var 2), (.con (.int (69621)))]), (.prim .mul [(.con (.int (86028121))), (.prim .add [(.var 1), (.con (.int (1)))])])]), (.con (.int (2147483646)))])])])]⟩
def d_law_draw : Fd := ⟨2, 4, [], [.ite (.prim .gt [(.prim .idx [(.var 0), (.con (.int (0)))]), (.con (.int (0)))]) [.asg (.nm 2) (.prim .mod [(.prim .idx [(.var 0), (.con (.int (0)))]), (.var 1)]), .setix (.var 0) (.con (.int (0))) (.prim .fdiv [(.prim .idx [(.var 0), (.con (.int (0)))]), (.var 1)]), .ret (.var 2)] [], .asg (.nm 2) (.con (.int (0))), .asg (.nm 3) (.con (.int (1))), .while (.prim .lt [(.var 3), (.var 1)]) [.setix (.var 0) (.con (.int (1))) (.prim .mod [(.prim .mul [(.prim .idx [(.var 0), (.con (.int (1)))]), (.con (.int (69621)))]), (.con (.int (2147483647)))]), .asg (.nm 2) (.prim .add [(.prim .mul [(.var 2), (.con (.int (268435456)))]), (.prim .fdiv [(.prim .mod [(.prim .mul [(.prim .idx [(.var 0), (.con (.int (1)))]), (.prim .add [(.prim .fdiv [(.prim .idx [(.var 0), (.con (.int (1)))]), (.con (.int (128)))]), (.con (.int (3)))])]), (.con (.int (2147483629)))]), (.con (.int (8)))])]), .asg (.nm 3) (.prim .mul [(.var 3), (.con (.int (268435456)))])], .ret (.prim .mod [(.var 2), (.var 1)])]⟩
def d_law_keys : Fd := ⟨0, 0, [], [.ret (.list [(.con (.str [108, 101, 116])), (.con (.str [105, 102])), (.con (.str [116, 104, 101, 110])), (.con (.str [101, 108, 115, 101])), (.con (.str [99, 97, 115, 101])), (.con (.str [111, 102])), (.con (.str [100, 105, 118])), (.con (.str [109, 111, 100])), (.con (.str [97, 110, 100])), (.con (.str [111, 114]))])]⟩
def d_law_mark : Fd := ⟨1, 7, [], [.asg (.nm 1) (.con (.str [97, 98, 99, 100, 101, 102, 103, 104, 105, 106, 107, 108, 109, 110, 111, 112, 113, 114, 115, 116, 117, 118, 119, 120, 121, 122])), .asg (.nm 2) (.call "_law_draw" [(.var 0), (.con (.int (6)))]), .ite (.prim .lt [(.var 2), (.con (.int (2)))]) [.asg (.nm 3) (.sm .join (.con (.str [])) (.lc (.prim .idx [(.var 1), (.call "_law_draw" [(.var 0), (.con (.int (26)))])]) (.nm 6) (.range [(.prim .idx [(.list [(.con (.int (1))), (.con (.int (2))), (.con (.int (8))), (.con (.int (3))), (.con (.int (5)))]), (.call "_law_draw" [(.var 0), (.con (.int (5)))])])]) [] [6])), .ret (.tup [(.ite (.prim .isin [(.var 3), (.call "_law_keys" [])]) (.con (.str [107, 101, 121])) (.con (.str [110, 97, 109, 101]))), (.var 3)])] [], .ite (.prim .eq [(.var 2), (.con (.int (2)))]) [.ret (.tup [(.con (.str [107, 101, 121])), (.prim .idx [(.call "_law_keys" []), (.call "_law_draw" [(.var 0), (.con (.int (10)))])])])] [], .ite (.prim .eq [(.var 2), (.con (.int (3)))]) [.asg (.nm 4) (.lc (.prim .toStr [(.call "_law_draw" [(.var 0), (.con (.int (10)))])]) (.nm 6) (.range [(.prim .idx [(.list [(.con (.int (0))), (.con (.int (1))), (.con (.int (8))), (.con (.int (4)))]), (.call "_law_draw" [(.var 0), (.con (.int (4)))])])]) [] [6]), .asg (.nm 5) (.call "_law_draw" [(.var 0), (.con (.int (10)))]), .ret (.tup [(.con (.str [110, 117, 109, 98, 101, 114])), (.ite (.prim .eq [(.var 4), (.list [])]) (.prim .toStr [(.var 5)]) (.prim .add [(.prim .toStr [(.prim .add [(.con (.int (1))), (.prim .mod [(.var 5), (.con (.int (9)))])])]), (.sm .join (.con (.str [])) (.var 4))]))])] [], .ret (.tup [(.con (.str [115, 105, 103, 110])), (.prim .idx [(.list [(.con (.str [61, 61])), (.con (.str [45, 62])), (.con (.str [91, 93])), (.con (.str [40])), (.con (.str [41])), (.con (.str [43])), (.con (.str [45])), (.con (.str [42])), (.con (.str [60])), (.con (.str [61])), (.con (.str [58]))]), (.call "_law_draw" [(.var 0), (.con (.int (11)))])])])]⟩
def d_law_line : Fd := ⟨3, 5, [], [.asg (.nm 3) (.list [(.con (.str [])), (.con (.str [])), (.con (.str [])), (.con (.str [32, 35, 32, 108, 101, 116, 32, 40, 32, 55, 120])), (.con (.str [35])), (.con (.str [32, 32]))]), .for (.nm 4) (.range [(.prim .idx [(.list [(.con (.int (1))), (.con (.int (1))), (.con (.int (1))), (.con (.int (2))), (.con (.int (3)))]), (.call "_law_draw" [(.var 0), (.con (.int (5)))])])]) [.setix (.var 1) (.con (.int (0))) (.prim .add [(.prim .add [(.prim .idx [(.var 1), (.con (.int (0)))]), (.prim .idx [(.var 3), (.call "_law_draw" [(.var 0), (.con (.int (6)))])])]), (.con (.str [10]))]), .setix (.var 1) (.con (.int (1))) (.prim .add [(.prim .idx [(.var 1), (.con (.int (1)))]), (.con (.int (1)))])], .setix (.var 1) (.con (.int (0))) (.prim .add [(.prim .idx [(.var 1), (.con (.int (0)))]), (.prim .mul [(.con (.str [32])), (.var 2)])]), .setix (.var 1) (.con (.int (2))) (.var 2)]⟩
def d_law_word : Fd := ⟨5, 12, [], [.asg (.nm 5) (.con (.str [97, 98, 99, 100, 101, 102, 103, 104, 105, 106, 107, 108, 109, 110, 111, 112, 113, 114, 115, 116, 117, 118, 119, 120, 121, 122])), .asg (.nm 6) (.con (.str [48, 49, 50, 51, 52, 53, 54, 55, 56, 57])), .asg (.nm 7) (.slice (.prim .idx [(.var 1), (.con (.int (0)))]) (.prim .neg [(.con (.int (1)))]) (.con (.non))), .asg (.nm 8) (.and [(.prim .ne [(.var 7), (.con (.str []))]), (.prim .isin [(.var 7), (.var 5)]), (.prim .isin [(.prim .idx [(.var 2), (.con (.int (0)))]), (.var 5)])]), .ite (.and [(.prim .ne [(.var 7), (.con (.str []))]), (.prim .isin [(.var 7), (.var 6)]), (.prim .isin [(.prim .idx [(.var 2), (.con (.int (0)))]), (.var 6)])]) [.asg (.nm 8) (.con (.bl true))] [], .asg (.nm 9) (.call "_law_draw" [(.var 0), (.con (.int (10)))]), .ite (.prim .idx [(.var 1), (.con (.int (3)))]) [.setix (.var 1) (.con (.int (3))) (.con (.bl false))] [.ite (.prim .eq [(.var 9), (.con (.int (0)))]) [.expr (.call "_law_line" [(.var 0), (.var 1), (.prim .add [(.prim .idx [(.list [(.prim .add [(.var 3), (.con (.int (1)))]), (.con (.int (0)))]), (.prim .toInt [(.var 4)])]), (.call "_law_draw" [(.var 0), (.con (.int (6)))])])])] [.ite (.or [(.prim .lt [(.var 9), (.con (.int (7)))]), (.var 8)]) [.asg (.nm 10) (.prim .idx [(.list [(.con (.int (1))), (.con (.int (1))), (.con (.int (2))), (.con (.int (5)))]), (.call "_law_draw" [(.var 0), (.con (.int (4)))])]), .setix (.var 1) (.con (.int (0))) (.prim .add [(.prim .idx [(.var 1), (.con (.int (0)))]), (.prim .mul [(.con (.str [32])), (.var 10)])]), .setix (.var 1) (.con (.int (2))) (.prim .add [(.prim .idx [(.var 1), (.con (.int (2)))]), (.var 10)])] []]], .asg (.nm 11) (.tup [(.prim .idx [(.var 1), (.con (.int (1)))]), (.prim .idx [(.var 1), (.con (.int (2)))])]), .setix (.var 1) (.con (.int (0))) (.prim .add [(.prim .idx [(.var 1), (.con (.int (0)))]), (.var 2)]), .setix (.var 1) (.con (.int (2))) (.prim .add [(.prim .idx [(.var 1), (.con (.int (2)))]), (.prim .len [(.var 2)])]), .ret (.var 11)]⟩
def d_law_marks_text : Fd := ⟨3, 11, [], [.asg (.nm 3) (.list [(.con (.str [])), (.con (.int (0))), (.con (.int (0))), (.con (.bl true))]), .asg (.nm 4) (.list []), .for (.nm 5) (.range [(.call "_law_draw" [(.var 0), (.prim .add [(.var 1), (.con (.int (1)))])])]) [.asg (.tp [(.nm 6), (.nm 7)]) (.call "_law_mark" [(.var 0)]), .asg (.nm 8) (.con (.str [61, 45, 62, 91, 93, 40, 41, 43, 42, 60, 58])), .ite (.or [(.prim .eq [(.var 2), (.con (.int (1)))]), (.and [(.prim .ne [(.slice (.prim .idx [(.var 3), (.con (.int (0)))]) (.prim .neg [(.con (.int (1)))]) (.con (.non))), (.con (.str []))]), (.prim .isin [(.slice (.prim .idx [(.var 3), (.con (.int (0)))]) (.prim .neg [(.con (.int (1)))]) (.con (.non))), (.var 8)]), (.prim .isin [(.prim .idx [(.var 7), (.con (.int (0)))]), (.var 8)])])]) [.setix (.var 3) (.con (.int (0))) (.prim .add [(.prim .idx [(.var 3), (.con (.int (0)))]), (.con (.str [32]))]), .setix (.var 3) (.con (.int (2))) (.prim .add [(.prim .idx [(.var 3), (.con (.int (2)))]), (.con (.int (1)))])] [], .asg (.tp [(.nm 9), (.nm 10)]) (.call "_law_word" [(.var 0), (.var 3), (.var 7), (.prim .neg [(.con (.int (1)))]), (.con (.bl true))]), .expr (.mut .append (.var 4) [(.tup [(.var 6), (.var 7), (.var 9), (.var 10)])])], .ite (.prim .eq [(.call "_law_draw" [(.var 0), (.con (.int (3)))]), (.con (.int (0)))]) [.expr (.call "_law_line" [(.var 0), (.var 3), (.call "_law_draw" [(.var 0), (.con (.int (3)))])])] [], .ret (.tup [(.prim .idx [(.var 3), (.con (.int (0)))]), (.var 4)])]⟩
def d_law : Fd := ⟨1, 6, [], [.for (.nm 1) (.range [(.prim .max2 [(.con (.int (1))), (.prim .min2 [(.con (.int (30))), (.prim .len [(.var 0)])])])]) [.asg (.nm 2) (.call "_law_draws" [(.var 0), (.var 1)]), .asg (.tp [(.nm 3), (.nm 4)]) (.call "_law_marks_text" [(.var 2), (.con (.int (12))), (.con (.int (0)))]), .asg (.nm 5) (.call "marks" [(.var 3)]), .ite (.or [(.not (.prim .isi [(.var 5), (.con (.ty "list"))])), (.prim .ne [(.var 5), (.var 4)])]) [.ret (.con (.bl false))] [], .ite (.or [(.prim .ne [(.call "marks" [(.prim .add [(.var 3), (.con (.str [32, 35, 32, 55, 32, 33, 10]))])]), (.var 4)]), (.prim .ne [(.call "marks" [(.con (.str [10, 32, 35, 32, 40, 32, 97, 98, 99, 100, 101, 102, 103, 104, 105, 106, 107, 10, 32, 32, 32]))]), (.list [])])]) [.ret (.con (.bl false))] []], .ret (.con (.bl true))]⟩
def md : Md := ⟨[("KEYS", .tup [.str [108, 101, 116], .str [105, 102], .str [116, 104, 101, 110], .str [101, 108, 115, 101], .str [99, 97, 115, 101], .str [111, 102], .str [100, 105, 118], .str [109, 111, 100], .str [97, 110, 100], .str [111, 114]]), ("LETTERS", .str [97, 98, 99, 100, 101, 102, 103, 104, 105, 106, 107, 108, 109, 110, 111, 112, 113, 114, 115, 116, 117, 118, 119, 120, 121, 122]), ("FIGURES", .str [48, 49, 50, 51, 52, 53, 54, 55, 56, 57]), ("SIGNS", .tup [.str [61, 61], .str [45, 62], .str [91, 93], .str [40], .str [41], .str [43], .str [45], .str [42], .str [60], .str [61], .str [58]])], [], [], []⟩
def ds : List Df := [⟨"run_of", top 9, ["row", "at", "signs"], d_run_of⟩,
  ⟨"mark_at", top 10, ["row", "at", "line", "word", "sign"], d_mark_at⟩,
  ⟨"marks", top 11, ["text", "found", "line", "row", "at", "mark"], d_marks⟩,
  ⟨"_law_draws", top 13, ["script", "k", "cell"], d_law_draws⟩,
  ⟨"_law_draw", top 14, ["draws", "many", "found", "wide"], d_law_draw⟩,
  ⟨"_law_keys", top 15, [], d_law_keys⟩,
  ⟨"_law_mark", top 16, ["draws", "letters", "way", "word", "figures", "first", "k"], d_law_mark⟩,
  ⟨"_law_line", top 17, ["draws", "pen", "column", "remarks", "k"], d_law_line⟩,
  ⟨"_law_word", top 18, ["draws", "pen", "word", "least", "free", "letters", "figures", "last", "near", "way", "many", "place"], d_law_word⟩,
  ⟨"_law_marks_text", top 19, ["draws", "most", "many", "pen", "found", "k", "kind", "word", "signs", "line", "column"], d_law_marks_text⟩,
  ⟨"law", top 20, ["script", "k", "draws", "text", "due", "found"], d_law⟩]
abbrev tab : Tab := tabOf ds

abbrev R : PySem.W.OpenRow := PySem.W.OpenLaw.row PySem.Challenge.rw_tierpile_k01_marks_of_a_text
abbrev hk : PySem.W.Hook := hookC 4 (facts ds) (ds.map Df.defD) md.con md.dcs
def loose : List Str := ["TierError", "BadText", "NoMark", "KEYS", "LETTERS", "FIGURES", "SIGNS", "run_of", "mark_at", "marks", "_law_draws", "_law_draw", "_law_keys", "_law_mark", "_law_line", "_law_word", "_law_marks_text"]
def ob (s : PySem.W.SharedT) : AlC := obsCG 4 (facts ds) (ds.map Df.defD) md.con md.dcs (HandSHeadRun.getT s)
theorem ob_eq (s : PySem.W.SharedT) : ob s = hk.obs s.abs := obsCG_eq (HandSHeadRun.getT_eq s)
theorem run (w : World) : HandSHeadRun.RunEq R (PySem.W.view R.prog [20]) hk ob 3000 loose w := by
  refine PySem.W.byRow2 "special-get-raises" (P := fun w => HandSHeadRun.RunEq R (PySem.W.view R.prog [20]) hk ob 3000 loose w) ?_ ?_ w
  · intro w os
    kernel_rfl
  · intro w os
    kernel_rfl
theorem okAll : (ds.all fun d => d.ok (cgOf ds md)) = true := by kernel_rfl
theorem ndAll : (ds.map (·.name)).Nodup := by decide +kernel
theorem cAll : ∀ d ∈ ds, cSs (cgOf ds md) d.N (okOf d.fd.np d.fd.asg) 60 d.scope d.body = some d.fd.body := by
  simp only [ds, List.forall_mem_cons]
  refine ⟨?_, ?_, ?_, ?_, ?_, ?_, ?_, ?_, ?_, ?_, ?_, fun _ h => nomatch h⟩
  all_goals kernel_rfl
theorem client (ns : List Int) (h : ns.length ≤ 63) : ∃ fin sto, callF tab 100 "law" [.val (.rol (ns.map PV.int))] [] = .ok (.sh (.bl true)) fin sto := by
  exact wc_ex (k01_law (tab := tab) (by kernel_rfl) (by kernel_rfl) (by kernel_rfl) (by kernel_rfl) (by kernel_rfl) (by kernel_rfl) (by kernel_rfl) (by kernel_rfl) (by kernel_rfl) (by kernel_rfl) (by kernel_rfl) ns h)
theorem kpAll : ∀ p ∈ md.kps, ∀ d ∈ ds, p.f = d.name → KpOk d.args (d.N.take d.fd.np) p := by
  intro p hp
  exact nomatch hp
end Lk01
open PySem PySem.W PySem.Calls PyProof.Rows
theorem PySem.Challenge.cw_tierpile_k01_marks_of_a_text_holds : PySem.Challenge.rw_tierpile_k01_marks_of_a_text.Holds := by
  w_on; o_law
  refine HandSHeadRun.head_any (r := OpenLaw.row PySem.Challenge.rw_tierpile_k01_marks_of_a_text) (q := view (OpenLaw.row PySem.Challenge.rw_tierpile_k01_marks_of_a_text).prog [20]) (H := Lk01.hk) (ob := Lk01.ob) (M := 3000) (loose := Lk01.loose) (d := HandSHeadRun.topDef (OpenLaw.row PySem.Challenge.rw_tierpile_k01_marks_of_a_text).prog 20) (kwd := []) Lk01.ob_eq
    (by kernel_rfl) (fun s => by kernel_rfl) Lk01.run (by kernel_rfl) (by kernel_rfl) (by kernel_rfl) (by rfl) (by first | assumption | decide +kernel) (by decide +kernel) ⟨rfl, rfl, rfl, rfl, rfl, by decide +kernel⟩ ?hw ?hc
  case hw => w_witness2
  case hc =>
    exact TP.end_ok (l := PySem.Challenge.rw_tierpile_k01_marks_of_a_text) (n := 100) (k := 60) (dL := Lk01.ds.getD 10 ⟨"", .Pass ⟨0, 0, 0, 0⟩, [], ⟨0, 0, [], []⟩⟩) rfl (by kernel_rfl) (by kernel_rfl) (by simp [Lk01.ds]) ⟨rfl, by decide, by decide⟩ Lk01.okAll Lk01.ndAll Lk01.cAll Lk01.kpAll Lk01.client
