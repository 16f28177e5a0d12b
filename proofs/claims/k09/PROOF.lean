import PyProof.Rows.All
import Wide.All
import OpenK.AllK
import Wide.FinOn
import HandS.ForMost
import HandS.ForExc
import HandS.Wide
import HandS.TupMul
import HandS.TupAny
import HandS.Deep
import HandS.Defaults
import HandS.IsInst
import HandS.Zip
import HandS.Rev
import PyProof.StrBlock2
import KE.DatumOrd
import HandS.SortKw
import HandS.SortInts
import HandS.RaiseMore
import HandS.Style
import HandS.More
import HandS.CallSlots
import KE.KDictZip
import PyProof.ListNew
import HandS.NoneIn
import KE.KUnpackStar
import HandS.Small
import KE.KStateDown
import HandS.Ends
import HandS.Head0
import HandS.Head1
import HandS.Head2
import HandS.HeadEnd
import HandS.HeadHook1
import HandS.HeadHook2
import HandS.HeadHook3
import PySem.Challenge.RW_tierpile_k09_bare_and_deep
set_option Elab.async false
set_option linter.all false
set_option maxRecDepth 100000
/-! Sal1: values, a small tree language, its plain meaning as a total function. -/
namespace TP
open PySem

/-- a value, seen by itself: texts are their codes; lst, dct: a list or dict that nobody changes any more; rol: a list that came from without -/
inductive PV where
  | non
  | bl (b : Bool)
  | int (i : Int)
  | str (x : List Nat)
  | tup (xs : List PV)
  | lst (xs : List PV)
  | rol (xs : List PV)
  | dct (ks : List L2.Key) (vs : List PV)
  | ref (l : Nat)
  | glo (x : Str)
  | ty (n : String)
  deriving Inhabited

/-- a slot of a frame: not bound; a value; a list or dict that is the slot's own -/
inductive Sl where
  | un
  | val (v : PV)
  | own (o : PV)
  deriving Inhabited

/-- what an expression gives: a value; a new list or dict that nobody else has; what a slot holds -/
inductive RV where
  | sh (v : PV)
  | fr (o : PV)
  | hd (i : Nat)
  deriving Inhabited

/-- an object of the store -/
inductive SO where
  | ins (c : Str) (fs : List (Str × PV))
  | box (o : PV)
  deriving Inhabited

structure SS where
  env : List Sl
  sto : List SO
  deriving Inhabited

inductive Res (α : Type) where
  | ok (a : α) (s : SS)
  | exc (x : PV) (s : SS)
  | bad
def Res.bind {α β : Type} (r : Res α) (f : α → SS → Res β) : Res β :=
  match r with
  | .ok a s => f a s
  | .exc x s => .exc x s
  | .bad => .bad

/-- operations on contents -/
inductive P where
  | add | sub | mul | fdiv | mod | pow | neg
  | eq | ne | lt | le | gt | ge
  | isin | notin
  | isN | notN
  | idx
  | len | abs | min2 | max2 | toInt | toTup | toList
  | all | any | sum
  | isi
  | isB (b : Bool) | notB (b : Bool)
  | join | split | starts | toStr
  | maxL | minL | sortd | revs | maxD | zipL
  | dnew
  deriving Inhabited

/-- deeds that change a list or dict -/
inductive M where
  | append | pop | insert | popAt | clear | reverse
  deriving Inhabited

/-- targets -/
inductive T where
  | nm (i : Nat)
  | tp (ts : List T)
  deriving Inhabited

mutual
inductive E where
  | var (i : Nat)
  | con (v : PV)
  | prim (p : P) (es : List E)
  | chain (p q : P) (a b c : E)
  | not (a : E)
  | and (es : List E)
  | or (es : List E)
  | ite (c a b : E)
  | tup (es : List E)
  | list (es : List E)
  | call (f : Str) (es : List E)
  | mut (m : M) (t : E) (es : List E)
  | slice (a lo hi : E)
  | lc (elt : E) (t : T) (it : I) (cs : List E) (own : List Nat)
  | dead
  | didx (x : Str) (tb : List (List Nat × PV)) (e : E)
  | callK (f : Str) (es : List E) (pm : List (Sum Nat PV))
  | callL (i : Nat) (fs : List Str) (es : List E)
  | sm (p : P) (t e : E)
  | dget (t k x : E)
  | disp (es : List E)
  | lc2 (elt : E) (t : T) (it : I) (cs : List E) (t1 : T) (it1 : I) (cs1 : List E) (own own1 : List Nat)
inductive I where
  | of (e : E)
  | range (es : List E)
  | enum (e : E)
  | zip (a b : E)
  | rev (e : E)
end

inductive S where
  | asg (t : T) (e : E)
  | asgR (is : List Nat) (j : Nat) (e : E)
  | par (is : List Nat) (es : List E)
  | aug (i : Nat) (p : P) (e : E)
  | setix (a i e : E)
  | expr (e : E)
  | ret (e : E)
  | retN
  | pass
  | brk
  | cont
  | ite (c : E) (a b : List S)
  | while (c : E) (b : List S)
  | for (t : T) (it : I) (b : List S)
  | dead

/-- a def: how many params, slots, which params are stored, its body -/
structure Fd where
  np : Nat
  ns : Nat
  asg : List Nat
  body : List S

/-! ### contents -/
/-- a mutable object of the store stands for its content -/
def boxC (sto : List SO) : PV → PV
  | .ref l => (match sto[l]? with
    | some (.box o) => o
    | _ => .ref l)
  | v => v
def cont (s : SS) : RV → Option PV
  | .sh v => some (boxC s.sto v)
  | .fr o => some o
  | .hd i => (match s.env[i]? with
    | some (.val v) => some (boxC s.sto v)
    | some (.own o) => some o
    | _ => none)
def conts (s : SS) : List RV → Option (List PV)
  | [] => some []
  | r :: rs => match cont s r with
    | none => none
    | some c => match conts s rs with
      | none => none
      | some cs => some (c :: cs)
/-- a value that may be kept: the slot's own thing is from now on nobody's to change -/
def keep (s : SS) : RV → Option (PV × SS)
  | .sh v => some (v, s)
  | .fr o => some (o, s)
  | .hd i => (match s.env[i]? with
    | some (.val v) => some (v, s)
    | some (.own o) => some (o, { s with env := s.env.set i (.val o) })
    | _ => none)
def keeps (s : SS) : List RV → Option (List PV × SS)
  | [] => some ([], s)
  | r :: rs => match keep s r with
    | none => none
    | some (v, s1) => match keeps s1 rs with
      | none => none
      | some (vs, s2) => some (v :: vs, s2)

/-! ### operations -/
def szL : Nat := 16777216
mutual
/-- how deep data is; none: no data -/
def PV.deep : PV → Option Nat
  | .non => some 0
  | .bl _ => some 0
  | .int _ => some 0
  | .str x => if (x.all fun c => decide (c < 1114112)) then some 0 else none
  | .tup xs => (deeps xs).map (· + 1)
  | .lst xs => (deeps xs).map (· + 1)
  | _ => none
def deeps : List PV → Option Nat
  | [] => some 0
  | x :: xs => match x.deep, deeps xs with
    | some a, some b => some (max a b)
    | _, _ => none
end
mutual
def PV.eqv : PV → PV → Bool
  | .non, .non => true
  | .bl a, .bl b => a == b
  | .bl a, .int j => (if a then 1 else 0) == j
  | .int i, .bl b => i == (if b then 1 else 0)
  | .int i, .int j => i == j
  | .str x, .str y => x == y
  | .lst xs, .lst ys => eqvs xs ys
  | .tup xs, .tup ys => eqvs xs ys
  | _, _ => false
def eqvs : List PV → List PV → Bool
  | [], [] => true
  | x :: xs, y :: ys => x.eqv y && eqvs xs ys
  | _, _ => false
end
def dataOk (v : PV) : Bool := match v.deep with
  | some n => decide (n ≤ 60)
  | none => false
def intBig (i : Int) : Bool := decide (i.natAbs < 2 ^ 8000)
def cutL {α : Type} (xs : List α) (lo hi : Option Int) : List α := (xs.drop (HT.sIx xs.length 0 lo)).take (HT.sIx xs.length xs.length hi - HT.sIx xs.length 0 lo)
def tyName : PV → Option String
  | .non => some "NoneType"
  | .bl _ => some "bool"
  | .int _ => some "int"
  | .str _ => some "str"
  | .tup _ => some "tuple"
  | .lst _ => some "list"
  | .rol _ => some "list"
  | _ => none
def tyKnown (t : String) : Bool := t == "int" || t == "bool" || t == "str" || t == "tuple" || t == "list" || t == "dict"
def tySub (a b : String) : Bool := a == b || (a == "bool" && b == "int")
def tysOf : List PV → Option (List String)
  | [] => some []
  | .ty t :: r => if tyKnown t then (tysOf r).map (t :: ·) else none
  | _ => none
def bools : List PV → Option (List Bool)
  | [] => some []
  | .bl b :: xs => (bools xs).map (b :: ·)
  | _ => none
def intsL : List PV → Option (List Int)
  | [] => some []
  | .int i :: xs => (intsL xs).map (i :: ·)
  | _ => none
def small63 (i : Int) : Bool := decide (-(2 ^ 63) ≤ i) && decide (i < 2 ^ 63)
/-- a slice's bound: left out, or a number -/
def isAbs : E → Bool
  | .con .non => true
  | _ => false
def bndOf (s : SS) (ab : Bool) (r : RV) : Option (Option Int) := if ab then some none else match cont s r with
  | some (.int i) => some (some i)
  | _ => none
def PV.flat : PV → Bool
  | .non => true
  | .bl _ => true
  | .int _ => true
  | .str _ => true
  | _ => false
def keyPV : PV → Option L2.Key
  | .int i => some (.inl i)
  | .str x => some (.inr ⟨x.toArray⟩)
  | _ => none
def isinB (x : PV) : PV → Option Bool
  | .dct ks _ => (keyPV x).map fun q => ks.any fun k => decide (k = q)
  | .tup xs => if x.flat && xs.all PV.flat then some (xs.any fun y => y.eqv x) else none
  | .lst xs => if x.flat && xs.all PV.flat then some (xs.any fun y => y.eqv x) else none
  | .str z => (match x with
    | .str [c] => some (decide (c ∈ z))
    | _ => none)
  | _ => none
def addSem : PV → PV → Option RV
  | .int i, .int j => some (.sh (.int (i + j)))
  | .str x, .str y => if x.length + y.length ≤ szL then some (.sh (.str (x ++ y))) else none
  | .tup xs, .tup ys => if xs.length + ys.length ≤ szL then some (.sh (.tup (xs ++ ys))) else none
  | .lst xs, .lst ys => if xs.length + ys.length ≤ szL then some (.fr (.lst (xs ++ ys))) else none
  | _, _ => none
def subSem : PV → PV → Option RV
  | .int i, .int j => some (.sh (.int (i - j)))
  | _, _ => none
def mulSem : PV → PV → Option RV
  | .int i, .int j => if intBig i && intBig j then some (.sh (.int (i * j))) else none
  | .lst xs, .int j => if small63 j && decide (xs.length * j.toNat ≤ szL) then some (.fr (.lst (List.replicate j.toNat xs).flatten)) else none
  | .str x, .int j => if small63 j && decide (x.length * j.toNat ≤ szL) then some (.sh (.str (List.replicate j.toNat x).flatten)) else none
  | .tup xs, .int j => if decide (-1000 ≤ j) && decide (j ≤ 1000) && decide (xs.length ≤ 1000) then some (.sh (.tup (List.replicate j.toNat xs).flatten)) else none
  | _, _ => none
def fdivSem : PV → PV → Option RV
  | .int i, .int j => if j ≠ 0 ∧ intBig j = true then some (.sh (.int (i.fdiv j))) else none
  | _, _ => none
def modSem : PV → PV → Option RV
  | .int i, .int j => if j ≠ 0 then some (.sh (.int (i.fmod j))) else none
  | _, _ => none
def powSem : PV → PV → Option RV
  | .int i, .int j => if 0 ≤ j ∧ j ≤ 1000000 ∧ i.natAbs < 2 ^ 64 then some (.sh (.int (i ^ j.toNat))) else none
  | _, _ => none
def negSem : PV → Option RV
  | .int i => some (.sh (.int (-i)))
  | _ => none
def eqSem (x y : PV) : Option RV := if dataOk x && dataOk y then some (.sh (.bl (x.eqv y))) else none
def neSem (x y : PV) : Option RV := if dataOk x && dataOk y then some (.sh (.bl (!x.eqv y))) else none
def ordSem (f : Int → Int → Bool) : PV → PV → Option RV
  | .int i, .int j => some (.sh (.bl (f i j)))
  | _, _ => none
def isNon : PV → Bool
  | .non => true
  | _ => false
/-! dicts of ints and texts -/
def pvKey : L2.Key → PV
  | .inl i => .int i
  | .inr x => .str x.cps.toList
def lkD : List L2.Key → List PV → L2.Key → Option PV
  | k :: ks, v :: vs, q => if k = q then some v else lkD ks vs q
  | _, _, _ => none
def repD : List L2.Key → List PV → L2.Key → PV → List PV
  | k :: ks, v :: vs, q, x => (if k = q then x else v) :: repD ks vs q x
  | _, _, _, _ => []
def putD (ks : List L2.Key) (vs : List PV) (q : L2.Key) (x : PV) : PV := if ks.any (fun k => decide (k = q)) then .dct ks (repD ks vs q x) else .dct (ks ++ [q]) (vs ++ [x])
def pairsD : List PV → Option (List (L2.Key × PV))
  | [] => some []
  | k :: v :: r => (match keyPV k, pairsD r with
    | some q, some ps => some ((q, v) :: ps)
    | _, _ => none)
  | _ => none
def mergeD : List L2.Key → List PV → List (L2.Key × PV) → PV
  | ks, vs, [] => .dct ks vs
  | ks, vs, (q, x) :: r => if ks.any (fun k => decide (k = q)) then mergeD ks (repD ks vs q x) r else mergeD (ks ++ [q]) (vs ++ [x]) r
def idxSem : PV → PV → Option RV
  | .dct ks vs, k => (match keyPV k with
    | some q => (lkD ks vs q).map .sh
    | none => none)
  | .lst xs, .int i => (L2.atI xs i).map .sh
  | .tup xs, .int i => (L2.atI xs i).map .sh
  | .rol xs, .int i => (L2.atI xs i).map .sh
  | .str xs, .int i => if xs.length ≤ szL then (L2.atI xs i).map (fun c => .sh (.str [c])) else none
  | _, _ => none
def slSem (l h : Option Int) : PV → Option RV
  | .lst xs => some (.fr (.lst (cutL xs l h)))
  | .tup xs => some (.sh (.tup (cutL xs l h)))
  | .str x => if x.length ≤ szL then some (.sh (.str (cutL x l h))) else none
  | _ => none
def lenSem : PV → Option RV
  | .dct ks _ => some (.sh (.int ks.length))
  | .lst xs => some (.sh (.int xs.length))
  | .tup xs => some (.sh (.int xs.length))
  | .rol xs => some (.sh (.int xs.length))
  | .str x => if x.length ≤ szL then some (.sh (.int x.length)) else none
  | _ => none
def toIntSem : PV → Option RV
  | .int i => some (.sh (.int i))
  | .bl b => some (.sh (.int (if b then 1 else 0)))
  | .str x => if x.length ≤ 640 then (intText? ⟨x.toArray⟩).map fun n => .sh (.int n) else none
  | _ => none
def toTupSem : PV → Option RV
  | .lst xs => some (.sh (.tup xs))
  | .tup xs => some (.sh (.tup xs))
  | _ => none
def toListSem : PV → Option RV
  | .lst xs => some (.fr (.lst xs))
  | .tup xs => some (.fr (.lst xs))
  | .rol xs => some (.fr (.lst xs))
  | _ => none
def absSem : PV → Option RV
  | .int i => some (.sh (.int (if i < 0 then -i else i)))
  | _ => none
def mmSem (f : Int → Int → Int) : PV → PV → Option RV
  | .int i, .int j => some (.sh (.int (f i j)))
  | _, _ => none
def allSem : PV → Option RV
  | .lst xs => (bools xs).map fun bs => .sh (.bl (bs.all id))
  | _ => none
def anySem : PV → Option RV
  | .lst xs => (bools xs).map fun bs => .sh (.bl (bs.any id))
  | _ => none
def sumSem : PV → Option RV
  | .lst xs => (intsL xs).map fun ns => .sh (.int ns.sum)
  | _ => none
def isiSem (x : PV) : PV → Option RV
  | .ty t => if tyKnown t then (tyName x).map fun a => .sh (.bl (tySub a t)) else none
  | .tup ts => (match tysOf ts with
    | some ns => (tyName x).map fun a => .sh (.bl (ns.any (tySub a)))
    | none => none)
  | _ => none
def strsL : List PV → Option (List (List Nat))
  | [] => some []
  | .str x :: xs => (strsL xs).map (x :: ·)
  | _ => none
def isBSem (b : Bool) : PV → Option RV
  | .bl c => some (.sh (.bl (decide (c = b))))
  | _ => none
def notBSem (b : Bool) : PV → Option RV
  | .bl c => some (.sh (.bl (!decide (c = b))))
  | _ => none
def joinOk (s : List Nat) (ys : List (List Nat)) : Bool := decide ((ys.map List.length).sum + ys.length * s.length ≤ szL)
def joinSem : PV → PV → Option RV
  | .str s, .lst xs => (match strsL xs with
    | some ys => if joinOk s ys then some (.sh (.str (TL.joinL s ys))) else none
    | none => none)
  | .str s, .tup xs => (match strsL xs with
    | some ys => if joinOk s ys then some (.sh (.str (TL.joinL s ys))) else none
    | none => none)
  | _, _ => none
def splitSem : PV → PV → Option RV
  | .str x, .str [c] => if x.length + 2 ≤ szL ∧ c < 256 then some (.fr (.lst ((TL.spl [c] 0 [] x).map .str))) else none
  | _, _ => none
def startsSem : PV → PV → Option RV
  | .str x, .str y => some (.sh (.bl (x.take y.length == y)))
  | _, _ => none
def toStrSem : PV → Option RV
  | .int i => if decide (i.natAbs < 2 ^ 1900) then some (.sh (.str (toString i : Str).cps.toList)) else none
  | .str x => some (.sh (.str x))
  | _ => none
def maxI : Int → List Int → Int
  | m, [] => m
  | m, x :: r => maxI (if m < x then x else m) r
def minI : Int → List Int → Int
  | m, [] => m
  | m, x :: r => minI (if x < m then x else m) r
def maxLSem : PV → Option RV
  | .lst xs => (match intsL xs with
    | some (n :: ns) => some (.sh (.int (maxI n ns)))
    | _ => none)
  | _ => none
def maxDSem : PV → PV → Option RV
  | .lst xs, .int d => (match intsL xs with
    | some [] => some (.sh (.int d))
    | some (n :: ns) => some (.sh (.int (maxI n ns)))
    | none => none)
  | _, _ => none
def zipPs (xs ys : List PV) : List PV := (xs.zip ys).map fun p => .tup [p.1, p.2]
def zipLSem : PV → PV → Option RV
  | .lst xs, .lst ys => if min xs.length ys.length ≤ szL then some (.fr (.lst (zipPs xs ys))) else none
  | _, _ => none
def minLSem : PV → Option RV
  | .lst xs => (match intsL xs with
    | some (n :: ns) => some (.sh (.int (minI n ns)))
    | _ => none)
  | _ => none
def leS (x y : List Nat) : Bool := !decide (y < x)
def sortdSem : PV → Option RV
  | .lst xs => (match intsL xs with
    | some ns => some (.fr (.lst ((ns.mergeSort fun a b => decide (a ≤ b)).map .int)))
    | none => match strsL xs with
      | some ys => if ys.length < 64 then some (.fr (.lst ((ys.mergeSort leS).map .str))) else none
      | none => none)
  | _ => none
def revsSem : PV → Option RV
  | .lst xs => some (.fr (.lst xs.reverse))
  | _ => none
def primSem : P → List PV → Option RV
  | .add, [x, y] => addSem x y
  | .sub, [x, y] => subSem x y
  | .mul, [x, y] => mulSem x y
  | .fdiv, [x, y] => fdivSem x y
  | .mod, [x, y] => modSem x y
  | .pow, [x, y] => powSem x y
  | .neg, [x] => negSem x
  | .eq, [x, y] => eqSem x y
  | .ne, [x, y] => neSem x y
  | .lt, [x, y] => ordSem (fun i j => decide (i < j)) x y
  | .le, [x, y] => ordSem (fun i j => decide (i ≤ j)) x y
  | .gt, [x, y] => ordSem (fun i j => decide (j < i)) x y
  | .ge, [x, y] => ordSem (fun i j => decide (j ≤ i)) x y
  | .isin, [x, y] => (isinB x y).map fun b => .sh (.bl b)
  | .notin, [x, y] => (isinB x y).map fun b => .sh (.bl (!b))
  | .isN, [x] => some (.sh (.bl (isNon x)))
  | .notN, [x] => some (.sh (.bl (!isNon x)))
  | .idx, [x, y] => idxSem x y
  | .len, [x] => lenSem x
  | .abs, [x] => absSem x
  | .min2, [x, y] => mmSem (fun i j => if j < i then j else i) x y
  | .max2, [x, y] => mmSem (fun i j => if j > i then j else i) x y
  | .toInt, [x] => toIntSem x
  | .toTup, [x] => toTupSem x
  | .toList, [x] => toListSem x
  | .all, [x] => allSem x
  | .any, [x] => anySem x
  | .sum, [x] => sumSem x
  | .isi, [x, y] => isiSem x y
  | .isB b, [x] => isBSem b x
  | .notB b, [x] => notBSem b x
  | .join, [x, y] => joinSem x y
  | .split, [x, y] => splitSem x y
  | .starts, [x, y] => startsSem x y
  | .toStr, [x] => toStrSem x
  | .maxL, [x] => maxLSem x
  | .maxD, [x, y] => maxDSem x y
  | .zipL, [x, y] => zipLSem x y
  | .minL, [x] => minLSem x
  | .sortd, [x] => sortdSem x
  | .revs, [x] => revsSem x
  | .dnew, [] => some (.fr (.dct [] []))
  | _, _ => none

/-- the kind of thing that it changes -/
def mutTy (_ : M) (o : Option PV) : Bool := match o with
  | some (.lst _) => true
  | _ => false
def appSem : PV → List PV → Option (PV × PV)
  | .lst xs, [v] => if xs.length < szL then some (.lst (xs ++ [v]), .non) else none
  | _, _ => none
def popSem : PV → List PV → Option (PV × PV)
  | .lst xs, [] => (match xs.getLast? with
    | some v => some (.lst xs.dropLast, v)
    | none => none)
  | _, _ => none
def insSem : PV → List PV → Option (PV × PV)
  | .lst xs, [.int i, v] => if xs.length < szL ∧ 0 ≤ i ∧ i < 2 ^ 63 then some (.lst (xs.take i.toNat ++ [v] ++ xs.drop i.toNat), .non) else none
  | _, _ => none
def popASem : PV → List PV → Option (PV × PV)
  | .lst xs, [.int i] => if 0 ≤ i ∧ i < 2 ^ 63 then (match xs[i.toNat]? with
    | some v => some (.lst (xs.eraseIdx i.toNat), v)
    | none => none) else none
  | _, _ => none
def clrSem : PV → List PV → Option (PV × PV)
  | .lst _, [] => some (.lst [], .non)
  | _, _ => none
def rvsSem : PV → List PV → Option (PV × PV)
  | .lst xs, [] => some (.lst xs.reverse, .non)
  | _, _ => none
def mutSem (m : M) (o : PV) (vs : List PV) : Option (PV × PV) := match m with
  | .append => appSem o vs
  | .pop => popSem o vs
  | .insert => insSem o vs
  | .popAt => popASem o vs
  | .clear => clrSem o vs
  | .reverse => rvsSem o vs

/-- a[i] = v -/
def setSem : PV → PV → PV → Option PV
  | .lst xs, .int i, v => (match L2.ixN xs.length i with
    | some k => some (.lst (xs.set k v))
    | none => none)
  | .dct ks vs, k, v => (match keyPV k with
    | some q => if ks.length < szL then some (putD ks vs q v) else none
    | none => none)
  | _, _, _ => none

/-! ### targets -/
mutual
/-- a value is bound to a target -/
def bindT : T → PV → SS → Option SS
  | .nm i, v, s => if i < s.env.length then some { s with env := s.env.set i (.val v) } else none
  | .tp ts, .tup xs, s => bindTs ts xs s
  | .tp ts, .lst xs, s => bindTs ts xs s
  | _, _, _ => none
def bindTs : List T → List PV → SS → Option SS
  | [], [], s => some s
  | t :: ts, x :: xs, s => (match bindT t x s with
    | some s1 => bindTs ts xs s1
    | none => none)
  | _, _, _ => none
end
/-- target = what an expression gave -/
def asgT : T → RV → SS → Option SS
  | .nm i, .fr o, s => if i < s.env.length then some { s with env := s.env.set i (.own o) } else none
  | t, r, s => (match keep s r with
    | some (v, s1) => bindT t v s1
    | none => none)

/-- what is unpacked -/
def seqOf : PV → Option (List PV)
  | .tup xs => some xs
  | .lst xs => some xs
  | _ => none
/-- what is stored at once into several names -/
def slsOf (s : SS) : List RV → Option (List Sl × SS)
  | [] => some ([], s)
  | .fr o :: rs => (match slsOf s rs with
    | some (as, s1) => some (.own o :: as, s1)
    | none => none)
  | r :: rs => (match keep s r with
    | some (v, s1) => (match slsOf s1 rs with
      | some (as, s2) => some (.val v :: as, s2)
      | none => none)
    | none => none)
def putSls : List Nat → List Sl → SS → Option SS
  | [], [], s => some s
  | i :: is, a :: as, s => if i < s.env.length then putSls is as { s with env := s.env.set i a } else none
  | _, _, _ => none
/-- a, b, *c = v -/
def asgRS (is : List Nat) (j : Nat) (v : PV) (s : SS) : Option SS := match seqOf v with
  | some xs => if is.length ≤ xs.length ∧ xs.length ≤ 16384 then putSls (is ++ [j]) ((xs.take is.length ++ [PV.lst (xs.drop is.length)]).map Sl.val) s else none
  | none => none
/-- an int, by itself -/
def augSem : P → PV → PV → Option PV
  | .add, .int i, .int j => some (.int (i + j))
  | .sub, .int i, .int j => some (.int (i - j))
  | _, _, _ => none

/-! ### calls -/
inductive CR where
  /-- what it gives, what its params hold at the end, the store -/
  | ok (r : RV) (fin : List Sl) (sto : List SO)
  | exc (x : PV) (fin : List Sl) (sto : List SO)
  | bad
abbrev CF := Str → List Sl → List SO → CR

/-- arguments: a slot's own thing is lent, once -/
def argOf (s : SS) (lent : List Nat) : RV → Option (Sl × List Nat)
  | .sh v => some (.val v, lent)
  | .fr o => some (.own o, lent)
  | .hd i => (match s.env[i]? with
    | some (.val v) => some (.val v, lent)
    | some (.own o) => if i ∈ lent then none else some (.own o, i :: lent)
    | _ => none)
def argsOf (s : SS) : List Nat → List RV → Option (List Sl)
  | _, [] => some []
  | lent, r :: rs => match argOf s lent r with
    | none => none
    | some (a, l) => match argsOf s l rs with
      | none => none
      | some as => some (a :: as)
/-- behind a call: what was lent comes back as it is then -/
def backE : List Sl → List RV → List Sl → List Sl → List Sl
  | env, [], _, _ => env
  | env, r :: rs, as, fs => match as, fs with
    | a :: as', f :: fs' => (match r, a with
      | .hd i, .own _ => backE (env.set i f) rs as' fs'
      | _, _ => backE env rs as' fs')
    | _, _ => env
def callE (cf : CF) (f : Str) (rs : List RV) (s : SS) : Res RV :=
  match argsOf s [] rs with
  | none => .bad
  | some as => match cf f as s.sto with
    | .ok r fin sto => .ok r ⟨backE s.env rs as fin, sto⟩
    | .exc x fin sto => .exc x ⟨backE s.env rs as fin, sto⟩
    | .bad => .bad

/-- arguments by their params -/
def permR (rs : List RV) : List (Sum Nat PV) → Option (List RV)
  | [] => some []
  | .inl i :: pm => match rs[i]?, permR rs pm with
    | some r, some q => some (r :: q)
    | _, _ => none
  | .inr v :: pm => (permR rs pm).map (.sh v :: ·)
/-- each is used once -/
def permIx : List (Sum Nat PV) → List Nat
  | [] => []
  | .inl i :: r => i :: permIx r
  | .inr _ :: r => permIx r
def permOk (pm : List (Sum Nat PV)) : Bool := decide (permIx pm).Nodup
/-! ### expressions -/
/-- a list or dict behind a deed, where it stood -/
def putBack (r : RV) (o : PV) (s : SS) : Option SS := match r with
  | .hd i => (match s.env[i]? with
    | some (.own _) => some { s with env := s.env.set i (.own o) }
    | some (.val (.ref l)) => (match s.sto[l]? with
      | some (.box _) => some { s with sto := s.sto.set l (.box o) }
      | _ => none)
    | _ => none)
  | .sh (.ref l) => (match s.sto[l]? with
    | some (.box _) => some { s with sto := s.sto.set l (.box o) }
    | _ => none)
  | _ => none
def ownSlots (env : List Sl) (own : List Nat) : Bool := own.any fun i => match env[i]? with
  | some (.own _) => true
  | some _ => false
  | none => true
def wipeS : List Sl → List Nat → List Sl
  | env, [] => env
  | env, v :: vs => (wipeS env vs).set v .un
def restS (old : List Sl) : List Sl → List Nat → List Sl
  | env, [] => env
  | env, v :: vs => (restS old env vs).set v (old.getD v .un)
/-- the turns of a comprehension -/
def lcLoop (own : List Nat) (turn : PV → SS → Res (Option PV)) : List PV → List PV → SS → Res (List PV)
  | [], acc, s => .ok acc s
  | x :: xs, acc, s => (turn x { s with env := wipeS s.env own }).bind fun r s1 => match r with
    | some v => if acc.length < szL then lcLoop own turn xs (acc ++ [v]) s1 else .bad
    | none => lcLoop own turn xs acc s1

/-- the turns of the first walk of two -/
def lc2Loop (own : List Nat) (turn : PV → List PV → SS → Res (List PV)) : List PV → List PV → SS → Res (List PV)
  | [], acc, s => .ok acc s
  | x :: xs, acc, s => (turn x acc { s with env := wipeS s.env own }).bind fun acc' s1 => lc2Loop own turn xs acc' s1

/-- what is raised within a comprehension is not followed -/
def noExc {α : Type} : Res α → Res α
  | .exc _ _ => .bad
  | r => r
def testR (s : SS) (r : RV) : Option Bool := match cont s r with
  | some (.bl b) => some b
  | _ => none
def rangeL (a : Int) (n : Nat) : List PV := (List.range n).map fun (k : Nat) => .int (a + (k : Int))
def enumL : Nat → List PV → List PV
  | _, [] => []
  | k, x :: xs => .tup [.int k, x] :: enumL (k + 1) xs
def itemsOf : PV → Option (List PV)
  | .lst xs => some xs
  | .rol xs => some xs
  | .tup xs => some xs
  | .str x => some (x.map fun c => .str [c])
  | .dct ks _ => some (ks.map pvKey)
  | _ => none

mutual
def evalE (cf : CF) : E → SS → Res RV
  | .var i, s => (match s.env[i]? with
    | some (.val v) => .ok (.sh v) s
    | some (.own _) => .ok (.hd i) s
    | _ => .bad)
  | .con v, s => .ok (.sh v) s
  | .prim p es, s => (evalEs cf es s).bind fun rs s1 => match conts s1 rs with
    | some cs => (match primSem p cs with
      | some r => .ok r s1
      | none => .bad)
    | none => .bad
  | .chain p q a b c, s => (evalE cf a s).bind fun ra s1 => (evalE cf b s1).bind fun rb s2 => match conts s2 [ra, rb] with
    | some cs => (match primSem p cs with
      | some (.sh (.bl true)) => (evalE cf c s2).bind fun rc s3 => (match conts s3 [rb, rc] with
        | some cs => (match primSem q cs with
          | some r => .ok r s3
          | none => .bad)
        | none => .bad)
      | some (.sh (.bl false)) => .ok (.sh (.bl false)) s2
      | _ => .bad)
    | none => .bad
  | .not a, s => (evalE cf a s).bind fun r s1 => match testR s1 r with
    | some b => .ok (.sh (.bl (!b))) s1
    | none => .bad
  | .and es, s => evalAnd cf es s
  | .or es, s => evalOr cf es s
  | .ite c a b, s => (evalE cf c s).bind fun r s1 => match testR s1 r with
    | some true => evalE cf a s1
    | some false => evalE cf b s1
    | none => .bad
  | .tup es, s => (evalEs cf es s).bind fun rs s1 => if rs.length ≤ szL then (match keeps s1 rs with
    | some (vs, s2) => .ok (.sh (.tup vs)) s2
    | none => .bad) else .bad
  | .list es, s => (evalEs cf es s).bind fun rs s1 => if rs.length ≤ szL then (match keeps s1 rs with
    | some (vs, s2) => .ok (.fr (.lst vs)) s2
    | none => .bad) else .bad
  | .call f es, s => (evalEs cf es s).bind fun rs s1 => callE cf f rs s1
  | .mut m t es, s => (evalE cf t s).bind fun r s1 => if mutTy m (cont s1 r) = false then .bad else (evalEs cf es s1).bind fun rs s2 => match keeps s2 rs with
    | some (vs, s3) => (match cont s3 r with
      | some o => (match mutSem m o vs with
        | some (o', v) => (match putBack r o' s3 with
          | some s4 => .ok (.sh v) s4
          | none => .bad)
        | none => .bad)
      | none => .bad)
    | none => .bad
  | .slice a lo hi, s => (evalE cf a s).bind fun ra s1 => (evalE cf lo s1).bind fun rl s2 => match bndOf s2 (isAbs lo) rl with
    | some l => (evalE cf hi s2).bind fun rh s3 => (match bndOf s3 (isAbs hi) rh with
      | some h => (match cont s3 ra with
        | some c => (match slSem l h c with
          | some r => .ok r s3
          | none => .bad)
        | none => .bad)
      | none => .bad)
    | none => .bad
  | .lc elt t it cs own, s => (evalI cf it s).bind fun xs s1 => if ownSlots s1.env own then .bad else
    (noExc (lcLoop own (fun x s2 => match bindT t x s2 with
      | some s3 => (evalCs cf cs s3).bind fun b s4 => if b then (evalE cf elt s4).bind fun r s5 => (match keep s5 r with
          | some (v, s6) => .ok (some v) s6
          | none => .bad)
        else .ok none s4
      | none => .bad) xs [] s1)).bind fun ys s7 => .ok (.fr (.lst ys)) { s7 with env := restS s1.env s7.env own }
  | .lc2 elt t it cs t1 it1 cs1 own own1, s => (evalI cf it s).bind fun xs s1 => if ownSlots s1.env own then .bad else
    (noExc (lc2Loop own (fun x acc s2 => match bindT t x s2 with
      | some s3 => (evalCs cf cs s3).bind fun b s4 => if b then (evalI cf it1 s4).bind fun ys s5 => lcLoop own1 (fun y s6 => match bindT t1 y s6 with
          | some s7 => (evalCs cf cs1 s7).bind fun b1 s8 => if b1 then (evalE cf elt s8).bind fun r s9 => (match keep s9 r with
              | some (v, s10) => .ok (some v) s10
              | none => .bad)
            else .ok none s8
          | none => .bad) ys acc s5
        else .ok acc s4
      | none => .bad) xs [] s1)).bind fun ys s7 => .ok (.fr (.lst ys)) { s7 with env := restS s1.env s7.env own }
  | .dead, _ => .bad
  | .disp es, s => (evalEs cf es s).bind fun rs s1 => match keeps s1 rs with
    | some (vs, s2) => (match pairsD vs with
      | some ps => if ps.length ≤ 15 then .ok (.fr (mergeD [] [] ps)) s2 else .bad
      | none => .bad)
    | none => .bad
  | .dget t k x, s => (evalE cf t s).bind fun r s1 => match cont s1 r with
    | some (.dct _ _) => (evalE cf k s1).bind fun rk s2 => (evalE cf x s2).bind fun rx s3 => (match cont s3 r, cont s3 rk, keep s3 rx with
      | some (.dct ks vs), some ck, some (vx, s4) => (match keyPV ck with
        | some q => .ok (.sh ((lkD ks vs q).getD vx)) s4
        | none => .bad)
      | _, _, _ => .bad)
    | _ => .bad
  | .sm p t e, s => (evalE cf t s).bind fun r s1 => match cont s1 r with
    | some (.str z) => (evalE cf e s1).bind fun r2 s2 => (match cont s2 r2 with
      | some d => (match primSem p [.str z, d] with
        | some x => .ok x s2
        | none => .bad)
      | none => .bad)
    | _ => .bad
  | .didx _ tb e, s => (evalE cf e s).bind fun r s1 => match cont s1 r with
    | some (.str z) => (match tb.lookup z with
      | some v => .ok (.sh v) s1
      | none => .bad)
    | _ => .bad
  | .callK f es pm, s => (evalEs cf es s).bind fun rs s1 => match permR rs pm with
    | some qs => callE cf f qs s1
    | none => .bad
  | .callL i fs es, s => (match s.env[i]? with
    | some (.val (.glo f)) => if fs.contains f then (evalEs cf es s).bind fun rs s1 => callE cf f rs s1 else .bad
    | _ => .bad)
def evalEs (cf : CF) : List E → SS → Res (List RV)
  | [], s => .ok [] s
  | e :: es, s => (evalE cf e s).bind fun r s1 => (evalEs cf es s1).bind fun rs s2 => .ok (r :: rs) s2
def evalAnd (cf : CF) : List E → SS → Res RV
  | [], _ => .bad
  | [e], s => evalE cf e s
  | e :: es, s => (evalE cf e s).bind fun r s1 => match testR s1 r with
    | some true => evalAnd cf es s1
    | some false => .ok (.sh (.bl false)) s1
    | none => .bad
def evalOr (cf : CF) : List E → SS → Res RV
  | [], _ => .bad
  | [e], s => evalE cf e s
  | e :: es, s => (evalE cf e s).bind fun r s1 => match testR s1 r with
    | some true => .ok (.sh (.bl true)) s1
    | some false => evalOr cf es s1
    | none => .bad
/-- the tests of a comprehension -/
def evalCs (cf : CF) : List E → SS → Res Bool
  | [], s => .ok true s
  | [e], s => (evalE cf e s).bind fun r s1 => match testR s1 r with
    | some b => .ok b s1
    | none => .bad
  | _, _ => .bad
/-- what a loop goes through -/
def evalI (cf : CF) : I → SS → Res (List PV)
  | .of e, s => (evalE cf e s).bind fun r s1 => match keep s1 r with
    | some (v, s2) => (match itemsOf v with
      | some xs => .ok xs s2
      | none => .bad)
    | none => .bad
  | .range es, s => (evalEs cf es s).bind fun rs s1 => match conts s1 rs with
    | some [.int n] => if -(2 ^ 62) ≤ n ∧ n < 2 ^ 62 then .ok (rangeL 0 n.toNat) s1 else .bad
    | some [.int a, .int b] => if (-(2 ^ 62) ≤ a ∧ a < 2 ^ 62) ∧ (-(2 ^ 62) ≤ b ∧ b < 2 ^ 62) then .ok (rangeL a (b - a).toNat) s1 else .bad
    | _ => .bad
  | .enum e, s => (evalE cf e s).bind fun r s1 => match keep s1 r with
    | some (.lst xs, s2) => .ok (enumL 0 xs) s2
    | _ => .bad
  | .zip a b, s => (evalE cf a s).bind fun ra s1 => (evalE cf b s1).bind fun rb s2 => match keeps s2 [ra, rb] with
    | some ([.lst xs, .lst ys], s3) => .ok ((xs.zip ys).map fun p => .tup [p.1, p.2]) s3
    | some ([.tup xs, .tup ys], s3) => .ok ((xs.zip ys).map fun p => .tup [p.1, p.2]) s3
    | _ => .bad
  | .rev e, s => (evalE cf e s).bind fun r s1 => match keep s1 r with
    | some (.lst xs, s2) => .ok xs.reverse s2
    | some (.tup xs, s2) => .ok xs.reverse s2
    | _ => .bad
end

/-! ### statements -/
inductive Fl where
  | nx | br | ct
  | rt (r : RV)
/-- so many turns of a while -/
def whileN (c : SS → Res Bool) (b : SS → Res Fl) : Nat → SS → Res Fl
  | 0, _ => .bad
  | n + 1, s => (c s).bind fun t s1 => match t with
    | true => (b s1).bind fun f s2 => (match f with
      | .nx => whileN c b n s2
      | .ct => whileN c b n s2
      | .br => .ok .nx s2
      | .rt r => .ok (.rt r) s2)
    | false => .ok .nx s1
def forN (turn : PV → SS → Res Fl) : List PV → SS → Res Fl
  | [], s => .ok .nx s
  | x :: xs, s => (turn x s).bind fun f s1 => match f with
    | .nx => forN turn xs s1
    | .ct => forN turn xs s1
    | .br => .ok .nx s1
    | .rt r => .ok (.rt r) s1
/-- enough turns for every while -/
def turns : Nat := 18446744073709551616
/-- return: a param's own thing stays the caller's -/
def retR (np : Nat) (r : RV) (s : SS) : Option (RV × SS) := match r with
  | .hd i => (match s.env[i]? with
    | some (.val v) => some (.sh v, s)
    | some (.own o) => if i < np then some (.sh o, { s with env := s.env.set i (.val o) }) else some (.fr o, { s with env := s.env.set i .un })
    | _ => none)
  | r => some (r, s)
mutual
def execS (cf : CF) (np : Nat) : S → SS → Res Fl
  | .asg t e, s => (evalE cf e s).bind fun r s1 => match asgT t r s1 with
    | some s2 => .ok .nx s2
    | none => .bad
  | .asgR is j e, s => (evalE cf e s).bind fun r s1 => match keep s1 r with
    | some (v, s2) => (match asgRS is j v s2 with
      | some s3 => .ok .nx s3
      | none => .bad)
    | none => .bad
  | .par is es, s => (evalEs cf es s).bind fun rs s1 => match slsOf s1 rs with
    | some (as, s2) => (match putSls is as s2 with
      | some s3 => .ok .nx s3
      | none => .bad)
    | none => .bad
  | .aug i p e, s => (match s.env[i]? with
    | some (.val v) => (evalE cf e s).bind fun r s1 => (match cont s1 r with
      | some w => (match augSem p v w with
        | some z => .ok .nx { s1 with env := s1.env.set i (.val z) }
        | none => .bad)
      | none => .bad)
    | _ => .bad)
  | .setix a i e, s => (evalE cf e s).bind fun r s1 => match keep s1 r with
    | some (v, s2) => (evalE cf a s2).bind fun ra s3 => (evalE cf i s3).bind fun ri s4 => (match cont s4 ra, cont s4 ri with
      | some o, some k => (match setSem o k v with
        | some o' => (match putBack ra o' s4 with
          | some s5 => .ok .nx s5
          | none => .bad)
        | none => .bad)
      | _, _ => .bad)
    | none => .bad
  | .expr e, s => (evalE cf e s).bind fun _ s1 => .ok .nx s1
  | .ret e, s => (evalE cf e s).bind fun r s1 => match retR np r s1 with
    | some (r', s2) => .ok (.rt r') s2
    | none => .bad
  | .retN, s => .ok (.rt (.sh .non)) s
  | .pass, s => .ok .nx s
  | .brk, s => .ok .br s
  | .cont, s => .ok .ct s
  | .ite c a b, s => (evalE cf c s).bind fun r s1 => match testR s1 r with
    | some true => execSs cf np a s1
    | some false => execSs cf np b s1
    | none => .bad
  | .while c b, s => whileN (fun s => (evalE cf c s).bind fun r s1 => match testR s1 r with
      | some t => .ok t s1
      | none => .bad) (fun s => execSs cf np b s) turns s
  | .for t it b, s => (evalI cf it s).bind fun xs s1 => forN (fun x s2 => match bindT t x s2 with
      | some s3 => execSs cf np b s3
      | none => .bad) xs s1
  | .dead, _ => .bad
def execSs (cf : CF) (np : Nat) : List S → SS → Res Fl
  | [], s => .ok .nx s
  | st :: r, s => (execS cf np st s).bind fun f s1 => match f with
    | .nx => execSs cf np r s1
    | f => .ok f s1
end

/-! ### defs -/
/-- a param that the body stores can not be lent -/
def frz1 (as : List Sl) (i : Nat) : List Sl := match as[i]? with
  | some (.own o) => as.set i (.val o)
  | _ => as
def frzA : List Nat → List Sl → List Sl
  | [], as => as
  | i :: is, as => frzA is (frz1 as i)
def finA (asg : List Nat) : Nat → List Sl → List Sl → List Sl
  | k, a :: r, env => (if k ∈ asg then a else env.getD k .un) :: finA asg (k + 1) r env
  | _, [], _ => []
def runFd (cf : CF) (d : Fd) (as : List Sl) (sto : List SO) : CR :=
  if as.length = d.np ∧ d.np ≤ d.ns then
    let as' := frzA d.asg as
    match execSs cf d.np d.body ⟨as' ++ List.replicate (d.ns - d.np) .un, sto⟩ with
    | .ok .nx s => .ok (.sh .non) (finA d.asg 0 as' s.env) s.sto
    | .ok (.rt r) s => .ok r (finA d.asg 0 as' s.env) s.sto
    | .ok _ _ => .bad
    | .exc x s => .exc x (finA d.asg 0 as' s.env) s.sto
    | .bad => .bad
  else .bad
abbrev Tab := List (Str × Fd)
def callF (tab : Tab) : Nat → CF
  | 0 => fun _ _ _ => .bad
  | n + 1 => fun f as sto => match tab.lookup f with
    | some d => runFd (callF tab n) d as sto
    | none => .bad
end TP

set_option Elab.async false
set_option linter.all false
set_option maxRecDepth 100000
set_option maxHeartbeats 4000000
/-! Sal2: what the values stand for over the abstract heap. -/
namespace TP
open PySem PySem.Spec PyProof.Rows
open L2 (V Hp HO Key upd upd_same upd_ne SqL SqT Rd)

/-- whose an address is: nobody's we know of; frozen; held by somebody around; a slot's own; the store's -/
inductive Tag where
  | free | fz | hold | slot (i : Nat) | loc (l : Nat)
  deriving DecidableEq
abbrev Gh := Addr → Tag
def tg (G : Gh) (a : Addr) (t : Tag) : Gh := fun b => if b = a then t else G b
theorem tg_same {G : Gh} {a : Addr} {t : Tag} : tg G a t a = t := if_pos rfl
theorem tg_ne {G : Gh} {a b : Addr} {t : Tag} (h : b ≠ a) : tg G a t b = G b := if_neg h

section
variable (K : PySem.W.Frag) (mg : Str → Option Value)
def KLst (a : Addr) (xs : List V) : Prop := ∃ (o : Obj) (its : Array Value) (n : Nat), K.lookup a = some o ∧ o.cls = .type "list" ∧ o.dict = none ∧ o.data = .seq its n ∧ its.size ≤ sizeLine ∧ L2.Vals xs its.toList
/-- a list from without: it stays as it is -/
def RdZ (H : Hp) (a : Addr) (xs : List V) : Prop := (∃ o, H a = some (.frz o (.lst xs))) ∨ KLst K a xs
mutual
inductive PVR (G : Gh) (H : Hp) : PV → V → Prop where
  | non : PVR G H .non .non
  | bl (b : Bool) : PVR G H (.bl b) (.bl b)
  | int (i : Int) : PVR G H (.int i) (.int i)
  | str (x : List Nat) : PVR G H (.str x) (.str ⟨x.toArray⟩)
  | tup {a : Addr} {xs : List PV} {Vs : List V} : SqT K H a Vs → PVRs G H xs Vs → PVR G H (.tup xs) (.ref a)
  | lst {a : Addr} {xs : List PV} {Vs : List V} : H a = some (.lst Vs) → G a = .fz → PVRs G H xs Vs → PVR G H (.lst xs) (.ref a)
  | rol {a : Addr} {xs : List PV} {Vs : List V} : RdZ K H a Vs → PVRs G H xs Vs → PVR G H (.rol xs) (.ref a)
  | dct {a : Addr} {ks : List Key} {vs : List PV} {kvs : List (Key × V)} : Rd H a (.dK kvs) → G a = .fz → kvs.map (·.1) = ks → PVRs G H vs (kvs.map (·.2)) → PVR G H (.dct ks vs) (.ref a)
  | ref {l : Nat} {a : Addr} : G a = .loc l → PVR G H (.ref l) (.ref a)
  | glo {x : Str} {a : Addr} : mg x = some (.ref a) → PVR G H (.glo x) (.ref a)
  | ty (n : String) : PVR G H (.ty n) (.ty n)
inductive PVRs (G : Gh) (H : Hp) : List PV → List V → Prop where
  | nil : PVRs G H [] []
  | cons {x : PV} {v : V} {xs : List PV} {vs : List V} : PVR G H x v → PVRs G H xs vs → PVRs G H (x :: xs) (v :: vs)
end
/-- the content of an object at a -/
def ObR (G : Gh) (H : Hp) (a : Addr) : PV → Prop
  | .lst xs => ∃ Vs, H a = some (.lst Vs) ∧ PVRs K mg G H xs Vs
  | .dct ks vs => ∃ kvs, H a = some (.dK kvs) ∧ kvs.map (·.1) = ks ∧ PVRs K mg G H vs (kvs.map (·.2))
  | _ => False
def SoR (G : Gh) (H : Hp) (a : Addr) : SO → Prop
  | .ins _ _ => False
  | .box o => ObR K mg G H a o
/-- a slot -/
def SlR (G : Gh) (H : Hp) (i : Nat) (o : Option V) : Sl → Prop
  | .un => True
  | .val v => ∃ x, o = some x ∧ PVR K mg G H v x
  | .own c => ∃ a, o = some (.ref a) ∧ G a = .slot i ∧ ObR K mg G H a c
structure Rel (G : Gh) (s : SS) (σ : L2.St) (H : Hp) : Prop where
  len : s.env.length = σ.length
  slots : ∀ i sl, s.env[i]? = some sl → SlR K mg G H i (σ[i]?).join sl
  sto : ∀ l so, s.sto[l]? = some so → ∃ a, G a = .loc l ∧ SoR K mg G H a so
  uniq : ∀ a b l, G a = .loc l → G b = .loc l → a = b
  trk : ∀ a, G a ≠ .free → H a ≠ none
  lim : ∀ a l, G a = .loc l → l < s.sto.length
/-- what an expression gave: G0 as it was ahead -/
def RVR (G0 G : Gh) (H : Hp) (σ : L2.St) : RV → V → Prop
  | .sh v, x => PVR K mg G H v x
  | .fr o, x => ∃ a, x = .ref a ∧ G a = .hold ∧ G0 a ≠ .hold ∧ ObR K mg G H a o
  | .hd i, x => σ[i]? = some (some x)
inductive RVRs (G0 G : Gh) (H : Hp) (σ : L2.St) : List RV → List V → Prop where
  | nil : RVRs G0 G H σ [] []
  | cons {r : RV} {x : V} {rs : List RV} {xs : List V} : RVR K mg G0 G H σ r x → (∀ o, r = .fr o → ∀ o' (j : Nat), rs[j]? = some (.fr o') → xs[j]? ≠ some x) → RVRs G0 G H σ rs xs → RVRs G0 G H σ (r :: rs) (x :: xs)
end

/-- as it was, or a dict that is locked from now on -/
def FzH (o o' : Option HO) : Prop := o' = o ∨ ∃ ob kvs, o = some (.dK kvs) ∧ o' = some (.frz ob (.dK kvs))
theorem FzH.trans {a b c : Option HO} (h : FzH a b) (k : FzH b c) : FzH a c := by
  rcases h with rfl | ⟨ob, kvs, rfl, rfl⟩
  · exact k
  · rcases k with rfl | ⟨_, _, z, _⟩
    · exact .inr ⟨ob, kvs, rfl, rfl⟩
    · cases z
theorem FzH.lst {a b : Option HO} {xs : List V} (h : FzH a b) (e : a = some (.lst xs)) : b = some (.lst xs) := by
  rcases h with rfl | ⟨ob, kvs, rfl, rfl⟩
  · exact e
  · cases e
theorem FzH.dk {H H' : Hp} {a : Addr} {kvs : List (Key × V)} (h : FzH (H a) (H' a)) (e : Rd H a (.dK kvs)) : Rd H' a (.dK kvs) := by
  rcases h with h | ⟨ob, k2, h1, h2⟩
  · rcases e with e | ⟨o, e⟩
    · exact .inl (h.trans e)
    · exact .inr ⟨o, h.trans e⟩
  · rcases e with e | ⟨o, e⟩
    · rw [h1] at e; cases e; exact .inr ⟨ob, h2⟩
    · rw [h1] at e; cases e
/-- what is frozen, the store's, a tuple stays: values stay values -/
structure Mono (G : Gh) (H : Hp) (G' : Gh) (H' : Hp) : Prop where
  fz : ∀ a, G a = .fz → G' a = .fz ∧ FzH (H a) (H' a)
  loc : ∀ a l, G a = .loc l → G' a = .loc l
  tup : ∀ a xs, H a = some (.tup xs) → H' a = some (.tup xs)
  frz : ∀ a o u, H a = some (.frz o u) → H' a = some (.frz o u)
/-- and what is held stays -/
structure Step (G : Gh) (H : Hp) (G' : Gh) (H' : Hp) : Prop where
  mono : Mono G H G' H'
  hold : ∀ a, G a = .hold → G' a = .hold ∧ H' a = H a
theorem Mono.refl {G : Gh} {H : Hp} : Mono G H G H := ⟨fun _ e => ⟨e, .inl rfl⟩, fun _ _ e => e, fun _ _ e => e, fun _ _ _ e => e⟩
theorem Mono.trans {G G1 G2 : Gh} {H H1 H2 : Hp} (a : Mono G H G1 H1) (b : Mono G1 H1 G2 H2) : Mono G H G2 H2 where
  fz := fun c e => let ⟨e1, h1⟩ := a.fz c e; let ⟨e2, h2⟩ := b.fz c e1; ⟨e2, FzH.trans h1 h2⟩
  loc := fun c l e => b.loc c l (a.loc c l e)
  tup := fun c xs e => b.tup c xs (a.tup c xs e)
  frz := fun c o u e => b.frz c o u (a.frz c o u e)
theorem Step.refl {G : Gh} {H : Hp} : Step G H G H := ⟨.refl, fun _ e => ⟨e, rfl⟩⟩
theorem Step.trans {G G1 G2 : Gh} {H H1 H2 : Hp} (a : Step G H G1 H1) (b : Step G1 H1 G2 H2) : Step G H G2 H2 where
  mono := a.mono.trans b.mono
  hold := fun c e => let ⟨e1, h1⟩ := a.hold c e; let ⟨e2, h2⟩ := b.hold c e1; ⟨e2, h2.trans h1⟩
theorem Step.fz {G G1 : Gh} {H H1 : Hp} (a : Step G H G1 H1) : ∀ a, G a = .fz → G1 a = .fz ∧ FzH (H a) (H1 a) := a.mono.fz
theorem Step.loc {G G1 : Gh} {H H1 : Hp} (a : Step G H G1 H1) : ∀ a l, G a = .loc l → G1 a = .loc l := a.mono.loc
theorem Step.tup {G G1 : Gh} {H H1 : Hp} (a : Step G H G1 H1) : ∀ a xs, H a = some (.tup xs) → H1 a = some (.tup xs) := a.mono.tup
theorem Step.frz {G G1 : Gh} {H H1 : Hp} (a : Step G H G1 H1) : ∀ a o u, H a = some (.frz o u) → H1 a = some (.frz o u) := a.mono.frz

section
variable {K : PySem.W.Frag} {mg : Str → Option Value} {G G' : Gh} {H H' : Hp}
theorem SqT.step {a : Addr} {xs : List V} (h : SqT K H a xs) (st : Mono G H G' H') : SqT K H' a xs := by
  rcases h with (h | ⟨o, h⟩) | h
  · exact .inl (.inl (st.tup a xs h))
  · exact .inl (.inr ⟨o, st.frz a o _ h⟩)
  · exact .inr h
theorem RdZ.step {a : Addr} {xs : List V} (h : RdZ K H a xs) (st : Mono G H G' H') : RdZ K H' a xs := by
  rcases h with ⟨o, h⟩ | h
  · exact .inl ⟨o, st.frz a o _ h⟩
  · exact .inr h
theorem RdZ.sq {a : Addr} {xs : List V} (h : RdZ K H a xs) : SqL K H a xs := by
  rcases h with ⟨o, h⟩ | h
  · exact .inl (.inr ⟨o, h⟩)
  · exact .inr h
mutual
theorem PVR.step : ∀ {v : PV} {x : V}, PVR K mg G H v x → Mono G H G' H' → PVR K mg G' H' v x
  | _, _, .non, _ => .non
  | _, _, .bl b, _ => .bl b
  | _, _, .int i, _ => .int i
  | _, _, .str x, _ => .str x
  | _, _, .tup h hs, st => .tup (SqT.step h st) (PVRs.step hs st)
  | _, _, .lst h g hs, st => .lst ((st.fz _ g).2.lst h) (st.fz _ g).1 (PVRs.step hs st)
  | _, _, .rol h hs, st => .rol (h.step st) (PVRs.step hs st)
  | _, _, .dct h g e hs, st => .dct ((st.fz _ g).2.dk h) (st.fz _ g).1 e (PVRs.step hs st)
  | _, _, .ref g, st => .ref (st.loc _ _ g)
  | _, _, .glo e, _ => .glo e
  | _, _, .ty n, _ => .ty n
theorem PVRs.step : ∀ {vs : List PV} {xs : List V}, PVRs K mg G H vs xs → Mono G H G' H' → PVRs K mg G' H' vs xs
  | _, _, .nil, _ => .nil
  | _, _, .cons h t, st => .cons (PVR.step h st) (PVRs.step t st)
end
theorem PVRs.length : ∀ {vs : List PV} {xs : List V}, PVRs K mg G H vs xs → vs.length = xs.length
  | _, _, .nil => rfl
  | _, _, .cons _ t => congrArg Nat.succ (PVRs.length t)
theorem PVRs.get : ∀ {vs : List PV} {xs : List V} {i : Nat} {v : PV}, PVRs K mg G H vs xs → vs[i]? = some v → ∃ x, xs[i]? = some x ∧ PVR K mg G H v x
  | _, _, _, _, .nil, e => by simp at e
  | _, _, 0, _, .cons h _, e => by simp at e; subst e; exact ⟨_, rfl, h⟩
  | _, _, i + 1, _, .cons _ t, e => by
    obtain ⟨x, h1, h2⟩ := PVRs.get (i := i) t (by simpa using e)
    exact ⟨x, by simpa using h1, h2⟩
theorem PVRs.append : ∀ {vs ws : List PV} {xs ys : List V}, PVRs K mg G H vs xs → PVRs K mg G H ws ys → PVRs K mg G H (vs ++ ws) (xs ++ ys)
  | _, _, _, _, .nil, s => s
  | _, _, _, _, .cons h t, s => .cons h (PVRs.append t s)
theorem PVRs.set {v : PV} {x : V} (r : PVR K mg G H v x) : ∀ {vs : List PV} {xs : List V} (i : Nat), PVRs K mg G H vs xs → PVRs K mg G H (vs.set i v) (xs.set i x)
  | _, _, _, .nil => .nil
  | _, _, 0, .cons _ t => .cons r t
  | _, _, i + 1, .cons q t => .cons q (PVRs.set r i t)
theorem PVRs.take : ∀ {vs : List PV} {xs : List V} (n : Nat), PVRs K mg G H vs xs → PVRs K mg G H (vs.take n) (xs.take n)
  | _, _, 0, _ => .nil
  | _, _, _ + 1, .nil => .nil
  | _, _, n + 1, .cons h t => .cons h (PVRs.take n t)
theorem PVRs.drop : ∀ {vs : List PV} {xs : List V} (n : Nat), PVRs K mg G H vs xs → PVRs K mg G H (vs.drop n) (xs.drop n)
  | _, _, 0, h => h
  | _, _, _ + 1, .nil => .nil
  | _, _, n + 1, .cons _ t => PVRs.drop n t
theorem PVRs.dropLast {vs : List PV} {xs : List V} (h : PVRs K mg G H vs xs) : PVRs K mg G H vs.dropLast xs.dropLast := by
  rw [List.dropLast_eq_take, List.dropLast_eq_take, h.length]
  exact h.take _
theorem PVRs.replicate {vs : List PV} {xs : List V} (h : PVRs K mg G H vs xs) : ∀ n : Nat, PVRs K mg G H (List.replicate n vs).flatten (List.replicate n xs).flatten
  | 0 => .nil
  | n + 1 => by
    rw [List.replicate_succ, List.replicate_succ, List.flatten_cons, List.flatten_cons]
    exact h.append (PVRs.replicate h n)
theorem PVRs.reverse : ∀ {vs : List PV} {xs : List V}, PVRs K mg G H vs xs → PVRs K mg G H vs.reverse xs.reverse
  | _, _, .nil => .nil
  | _, _, .cons h t => by
    rw [List.reverse_cons, List.reverse_cons]
    exact (PVRs.reverse t).append (.cons h .nil)
theorem ObR.step {a : Addr} : ∀ {o : PV}, ObR K mg G H a o → H' a = H a → Mono G H G' H' → ObR K mg G' H' a o
  | .lst xs, ⟨Vs, h, r⟩, e, st => ⟨Vs, e.trans h, r.step st⟩
  | .dct ks vs, ⟨kvs, h, q, r⟩, e, st => ⟨kvs, e.trans h, q, r.step st⟩
  | .non, h, _, _ => h.elim
  | .bl _, h, _, _ => h.elim
  | .int _, h, _, _ => h.elim
  | .str _, h, _, _ => h.elim
  | .tup _, h, _, _ => h.elim
  | .rol _, h, _, _ => h.elim
  | .ref _, h, _, _ => h.elim
  | .glo _, h, _, _ => h.elim
  | .ty _, h, _, _ => h.elim
/-- a frozen object's content is a value -/
theorem ObR.pvr {a : Addr} : ∀ {o : PV}, ObR K mg G H a o → G a = .fz → PVR K mg G H o (.ref a)
  | .lst xs, ⟨Vs, h, r⟩, g => .lst h g r
  | .dct ks vs, ⟨kvs, h, q, r⟩, g => .dct (.inl h) g q r
  | .non, h, _ => h.elim
  | .bl _, h, _ => h.elim
  | .int _, h, _ => h.elim
  | .str _, h, _ => h.elim
  | .tup _, h, _ => h.elim
  | .rol _, h, _ => h.elim
  | .ref _, h, _ => h.elim
  | .glo _, h, _ => h.elim
  | .ty _, h, _ => h.elim
theorem ObR.there {a : Addr} {o : PV} (h : ObR K mg G H a o) : H a ≠ none := by
  cases o <;> first
    | exact h.elim
    | (obtain ⟨_, e, _⟩ := h; rw [e]; exact fun z => nomatch z)
theorem SoR.step {a : Addr} : ∀ {so : SO}, SoR K mg G H a so → H' a = H a → Mono G H G' H' → SoR K mg G' H' a so
  | .ins _ _, h, _, _ => h.elim
  | .box o, h, e, st => ObR.step (o := o) h e st
/-- the tags of slots, of the store and their objects stay -/
structure Same (G : Gh) (H : Hp) (G' : Gh) (H' : Hp) : Prop where
  st : Step G H G' H'
  slot : ∀ a i, G a = .slot i → G' a = .slot i ∧ H' a = H a
  locs : ∀ a l, G a = .loc l → H' a = H a
  back : ∀ a l, G' a = .loc l → G a = .loc l
  trk : ∀ a, G' a ≠ .free → H' a ≠ none
theorem Rel.same {s : SS} {σ : L2.St} (r : Rel K mg G s σ H) (q : Same G H G' H') : Rel K mg G' s σ H' where
  len := r.len
  slots := fun i sl e => by
    have h := r.slots i sl e
    cases sl with
    | un => trivial
    | val v => obtain ⟨x, e1, h1⟩ := h; exact ⟨x, e1, h1.step q.st.mono⟩
    | own c => obtain ⟨a, e1, g, h1⟩ := h; exact ⟨a, e1, (q.slot a i g).1, h1.step (q.slot a i g).2 q.st.mono⟩
  sto := fun l so e => let ⟨a, g, h⟩ := r.sto l so e; ⟨a, q.st.loc a l g, h.step (q.locs a l g) q.st.mono⟩
  uniq := fun a b l h1 h2 => r.uniq a b l (q.back a l h1) (q.back b l h2)
  trk := q.trk
  lim := fun a l h => r.lim a l (q.back a l h)
theorem Rel.free {s : SS} {σ : L2.St} (r : Rel K mg G s σ H) {p : Addr} (hp : H p = none) : G p = .free := by
  cases e : G p with
  | free => rfl
  | _ => exact absurd hp (r.trk p (by rw [e]; exact fun z => nomatch z))
/-- a new object -/
theorem Same.new {p : Addr} {o : HO} {t : Tag} (ht : ∀ a, G a ≠ .free → H a ≠ none) (hp : H p = none) (hl : ∀ l, t ≠ .loc l) : Same G H (tg G p t) (upd H p o) := by
  have gp : G p = .free := by
    cases e : G p with
    | free => rfl
    | _ => exact absurd hp (ht p (by rw [e]; exact fun z => nomatch z))
  have ne : ∀ a, G a ≠ .free → a ≠ p := fun a h e => h (e ▸ gp)
  have neH : ∀ a o, H a = some o → a ≠ p := fun a o h e => by rw [e, hp] at h; cases h
  refine ⟨⟨⟨fun a e => ?_, fun a l e => ?_, fun a xs e => ?_, fun a o u e => ?_⟩, fun a e => ?_⟩, fun a i e => ?_, fun a l e => ?_, fun a l e => ?_, fun a e => ?_⟩
  · have n := ne a (by rw [e]; exact fun z => nomatch z)
    exact ⟨(tg_ne n).trans e, .inl (upd_ne n)⟩
  · have n := ne a (by rw [e]; exact fun z => nomatch z)
    exact (tg_ne n).trans e
  · rw [upd_ne (neH a _ e)]; exact e
  · rw [upd_ne (neH a _ e)]; exact e
  · have n := ne a (by rw [e]; exact fun z => nomatch z)
    exact ⟨(tg_ne n).trans e, upd_ne n⟩
  · have n := ne a (by rw [e]; exact fun z => nomatch z)
    exact ⟨(tg_ne n).trans e, upd_ne n⟩
  · have n := ne a (by rw [e]; exact fun z => nomatch z)
    exact upd_ne n
  · by_cases n : a = p
    · subst n; rw [tg_same] at e; exact absurd e (hl l)
    · rw [tg_ne n] at e; exact e
  · by_cases n : a = p
    · subst n; rw [upd_same]; exact fun z => nomatch z
    · rw [tg_ne n] at e; rw [upd_ne n]; exact ht a e
/-- a held thing is let go or frozen -/
theorem Same.refl (ht : ∀ a, G a ≠ .free → H a ≠ none) : Same G H G H := ⟨.refl, fun _ _ e => ⟨e, rfl⟩, fun _ _ _ => rfl, fun _ _ e => e, ht⟩
theorem Rel.trks {s : SS} {σ : L2.St} (r : Rel K mg G s σ H) : ∀ a, G a ≠ .free → H a ≠ none := r.trk

/-! ### tags change -/
/-- the step ahead of a change of tags: what changes was not held, frozen or the store's ahead -/
theorem Step.tag {G0 : Gh} {H0 : Hp} {a : Addr} {t : Tag} (st : Step G0 H0 G H) (h1 : G0 a ≠ .hold) (h2 : G0 a ≠ .fz) (h3 : ∀ l, G0 a ≠ .loc l) : Step G0 H0 (tg G a t) H where
  mono := ⟨fun b e => by
    have n : b ≠ a := fun z => h2 (z ▸ e)
    rw [tg_ne n]; exact st.fz b e, fun b l e => by
    have n : b ≠ a := fun z => h3 l (z ▸ e)
    rw [tg_ne n]; exact st.loc b l e, st.tup, st.frz⟩
  hold := fun b e => by
    have n : b ≠ a := fun z => h1 (z ▸ e)
    rw [tg_ne n]; exact st.hold b e
theorem Step.notFz {G0 : Gh} {H0 : Hp} {a : Addr} (st : Step G0 H0 G H) (h : G a ≠ .fz) : G0 a ≠ .fz := fun e => h (st.fz a e).1
theorem Step.notLoc {G0 : Gh} {H0 : Hp} {a : Addr} (st : Step G0 H0 G H) (h : ∀ l, G a ≠ .loc l) : ∀ l, G0 a ≠ .loc l := fun l e => h l (st.loc a l e)
theorem Step.notHold {G0 : Gh} {H0 : Hp} {a : Addr} (st : Step G0 H0 G H) (h : G a ≠ .hold) : G0 a ≠ .hold := fun e => h (st.hold a e).1
theorem Mono.tag {a : Addr} {t : Tag} (h2 : G a ≠ .fz) (h3 : ∀ l, G a ≠ .loc l) : Mono G H (tg G a t) H :=
  ⟨fun b e => by
    have n : b ≠ a := fun z => h2 (z ▸ e)
    rw [tg_ne n]; exact ⟨e, .inl rfl⟩, fun b l e => by
    have n : b ≠ a := fun z => h3 l (z ▸ e)
    rw [tg_ne n]; exact e, fun _ _ e => e, fun _ _ _ e => e⟩
/-- what the change of a tag leaves -/
theorem Rel.tagged {s s' : SS} {σ σ' : L2.St} {a : Addr} {t : Tag} (r : Rel K mg G s σ H) (hs : s'.sto = s.sto) (h2 : G a ≠ .fz) (h3 : ∀ l, G a ≠ .loc l) (ht : ∀ l, t ≠ .loc l) (ha : H a ≠ none) (hl : s'.env.length = σ'.length)
    (hsl : ∀ i sl, s'.env[i]? = some sl → SlR K mg (tg G a t) H i (σ'[i]?).join sl) : Rel K mg (tg G a t) s' σ' H where
  len := hl
  slots := hsl
  sto := fun l so e => by
    rw [hs] at e
    obtain ⟨b, g, h⟩ := r.sto l so e
    have n : b ≠ a := fun z => h3 l (z ▸ g)
    exact ⟨b, (tg_ne n).trans g, h.step rfl (.tag h2 h3)⟩
  uniq := fun b c l h1 h2 => by
    have n1 : b ≠ a := fun z => by rw [z, tg_same] at h1; exact ht l h1
    have n2 : c ≠ a := fun z => by rw [z, tg_same] at h2; exact ht l h2
    rw [tg_ne n1] at h1
    rw [tg_ne n2] at h2
    exact r.uniq b c l h1 h2
  trk := fun b h => by
    by_cases n : b = a
    · subst n; exact ha
    · rw [tg_ne n] at h; exact r.trk b h
  lim := fun b l h => by
    rw [hs]
    have n1 : b ≠ a := fun z => by rw [z, tg_same] at h; exact ht l h
    rw [tg_ne n1] at h
    exact r.lim b l h
/-- a slot that is not the one at a, behind a change of a's tag -/
theorem SlR.tag {i : Nat} {o : Option V} {a : Addr} {t : Tag} (h2 : G a ≠ .fz) (h3 : ∀ l, G a ≠ .loc l) {sl : Sl} (h4 : G a = .slot i → ∀ c, sl ≠ .own c) (h : SlR K mg G H i o sl) : SlR K mg (tg G a t) H i o sl := by
  cases sl with
  | un => trivial
  | val v => obtain ⟨x, e1, h1⟩ := h; exact ⟨x, e1, h1.step (.tag h2 h3)⟩
  | own c =>
    obtain ⟨b, e1, g, h1⟩ := h
    have n : b ≠ a := fun z => h4 (z ▸ g) c rfl
    exact ⟨b, e1, (tg_ne n).trans g, h1.step rfl (.tag h2 h3)⟩
theorem fz_of {a : Addr} {t : Tag} (e : G a = t) (h : t ≠ .fz) : G a ≠ .fz := fun z => h (e.symm.trans z)
theorem loc_of {a : Addr} {t : Tag} (e : G a = t) (h : ∀ l, t ≠ .loc l) : ∀ l, G a ≠ .loc l := fun l z => h l (e.symm.trans z)
/-- a held thing is frozen -/
theorem Rel.frzHold {s : SS} {σ : L2.St} {a : Addr} (r : Rel K mg G s σ H) (g : G a = .hold) : Rel K mg (tg G a .fz) s σ H :=
  have h2 : G a ≠ .fz := fz_of g (fun z => nomatch z)
  have h3 : ∀ l, G a ≠ .loc l := loc_of g (fun _ z => nomatch z)
  r.tagged rfl h2 h3 (fun _ z => nomatch z) (r.trk a (by rw [g]; exact fun z => nomatch z)) r.len fun i sl e => SlR.tag h2 h3 (fun z => by rw [g] at z; cases z) (r.slots i sl e)
theorem join_get {σ : L2.St} {i : Nat} {x : V} (h : (σ[i]?).join = some x) : σ[i]? = some (some x) := by
  cases e : σ[i]? with
  | none => rw [e] at h; cases h
  | some o => rw [e] at h; exact congrArg some h
theorem get_join {σ : L2.St} {i : Nat} {x : V} (h : σ[i]? = some (some x)) : (σ[i]?).join = some x := by rw [h]; rfl
/-- a slot's own thing is frozen -/
theorem Rel.frzSlot {s : SS} {σ : L2.St} {a : Addr} {i : Nat} {o : PV} (r : Rel K mg G s σ H) (e : s.env[i]? = some (.own o)) (ea : σ[i]? = some (some (.ref a))) (g : G a = .slot i) (ob : ObR K mg G H a o) :
    Rel K mg (tg G a .fz) { s with env := s.env.set i (.val o) } σ H := by
  have h2 : G a ≠ .fz := fz_of g (fun z => nomatch z)
  have h3 : ∀ l, G a ≠ .loc l := loc_of g (fun _ z => nomatch z)
  refine r.tagged rfl h2 h3 (fun _ z => nomatch z) ob.there (by simp [r.len]) fun j sl ej => ?_
  by_cases hj : j = i
  · subst hj
    have hlt := (List.getElem?_eq_some_iff.mp e).1
    rw [List.getElem?_set_self hlt] at ej
    cases ej
    exact ⟨_, get_join ea, (ob.step rfl (.tag h2 h3)).pvr tg_same⟩
  · rw [List.getElem?_set_ne (Ne.symm hj)] at ej
    exact SlR.tag h2 h3 (fun z => by rw [g] at z; cases z; exact absurd rfl hj) (r.slots j sl ej)
theorem Rel.own {s : SS} {σ : L2.St} {i : Nat} {o : PV} (r : Rel K mg G s σ H) (e : s.env[i]? = some (.own o)) : ∃ a, σ[i]? = some (some (.ref a)) ∧ G a = .slot i ∧ ObR K mg G H a o :=
  let ⟨a, h1, h2, h3⟩ := r.slots i _ e
  ⟨a, join_get h1, h2, h3⟩
theorem Rel.val {s : SS} {σ : L2.St} {i : Nat} {v : PV} (r : Rel K mg G s σ H) (e : s.env[i]? = some (.val v)) : ∃ x, σ[i]? = some (some x) ∧ PVR K mg G H v x :=
  let ⟨a, h1, h2⟩ := r.slots i _ e
  ⟨a, join_get h1, h2⟩
/-- a slot is stored: a value -/
theorem Rel.setVal {s : SS} {σ : L2.St} {i : Nat} {v : PV} {x : V} (r : Rel K mg G s σ H) (h : PVR K mg G H v x) (hi : i < s.env.length) : Rel K mg G { s with env := s.env.set i (.val v) } (σ.set i (some x)) H where
  len := by simp [r.len]
  slots := fun j sl e => by
    by_cases hj : j = i
    · subst hj
      rw [List.getElem?_set_self hi] at e
      cases e
      rw [List.getElem?_set_self (by rw [← r.len]; exact hi)]
      exact ⟨x, rfl, h⟩
    · rw [List.getElem?_set_ne (Ne.symm hj)] at e
      rw [List.getElem?_set_ne (Ne.symm hj)]
      exact r.slots j sl e
  sto := r.sto
  uniq := r.uniq
  trk := r.trk
  lim := r.lim
/-- a slot is stored: a new thing of its own -/
theorem Rel.setOwn {s : SS} {σ : L2.St} {i : Nat} {o : PV} {a : Addr} (r : Rel K mg G s σ H) (g : G a = .hold) (h : ObR K mg G H a o) (hi : i < s.env.length) :
    Rel K mg (tg G a (.slot i)) { s with env := s.env.set i (.own o) } (σ.set i (some (.ref a))) H := by
  have h2 : G a ≠ .fz := fz_of g (fun z => nomatch z)
  have h3 : ∀ l, G a ≠ .loc l := loc_of g (fun _ z => nomatch z)
  refine r.tagged rfl h2 h3 (fun _ z => nomatch z) h.there (by simp [r.len]) fun j sl ej => ?_
  by_cases hj : j = i
  · subst hj
    rw [List.getElem?_set_self hi] at ej
    cases ej
    rw [List.getElem?_set_self (by rw [← r.len]; exact hi)]
    exact ⟨a, rfl, tg_same, h.step rfl (.tag h2 h3)⟩
  · rw [List.getElem?_set_ne (Ne.symm hj)] at ej
    rw [List.getElem?_set_ne (Ne.symm hj)]
    exact SlR.tag h2 h3 (fun z => by rw [g] at z; cases z) (r.slots j sl ej)
/-- a slot is forgotten -/
theorem Rel.unset {s : SS} {σ σ' : L2.St} {env' : List Sl} (r : Rel K mg G s σ H) (hl : env'.length = σ'.length) (h : ∀ (i : Nat) (sl : Sl), env'[i]? = some sl → sl = Sl.un ∨ (s.env[i]? = some sl ∧ (σ'[i]?).join = (σ[i]?).join)) : Rel K mg G { s with env := env' } σ' H :=
  ⟨hl, fun i sl e => by
    rcases h i sl e with z | ⟨z, q⟩
    · subst z; trivial
    · rw [q]; exact r.slots i sl z, r.sto, r.uniq, r.trk, r.lim⟩

/-! ### what expressions gave, kept -/
theorem RVR.mono {G0 : Gh} {σ : L2.St} {r : RV} {x : V} (h : RVR K mg G0 G H σ r x) (st : Step G H G' H') : RVR K mg G0 G' H' σ r x := by
  cases r with
  | sh v => exact PVR.step h st.mono
  | fr o =>
    obtain ⟨a, e, g, n, ob⟩ := h
    obtain ⟨g', e'⟩ := st.hold a g
    exact ⟨a, e, g', n, ob.step e' st.mono⟩
  | hd i => exact h
theorem RVR.back {G0 G1 : Gh} {H0 H1 : Hp} {σ : L2.St} {r : RV} {x : V} (h : RVR K mg G1 G H σ r x) (st : Step G0 H0 G1 H1) : RVR K mg G0 G H σ r x := by
  cases r with
  | sh v => exact h
  | fr o =>
    obtain ⟨a, e, g, n, ob⟩ := h
    exact ⟨a, e, g, st.notHold n, ob⟩
  | hd i => exact h
theorem RVRs.mono {G0 : Gh} {σ : L2.St} : ∀ {rs : List RV} {xs : List V}, RVRs K mg G0 G H σ rs xs → Step G H G' H' → RVRs K mg G0 G' H' σ rs xs
  | _, _, .nil, _ => .nil
  | _, _, .cons h d t, st => .cons (h.mono st) d (RVRs.mono t st)
theorem RVRs.back {G0 G1 : Gh} {H0 H1 : Hp} {σ : L2.St} : ∀ {rs : List RV} {xs : List V}, RVRs K mg G1 G H σ rs xs → Step G0 H0 G1 H1 → RVRs K mg G0 G H σ rs xs
  | _, _, .nil, _ => .nil
  | _, _, .cons h d t, st => .cons (h.back st) d (RVRs.back t st)
theorem RVRs.length {G0 : Gh} {σ : L2.St} : ∀ {rs : List RV} {xs : List V}, RVRs K mg G0 G H σ rs xs → rs.length = xs.length
  | _, _, .nil => rfl
  | _, _, .cons _ _ t => congrArg Nat.succ (RVRs.length t)
theorem RVRs.get {G0 : Gh} {σ : L2.St} : ∀ {rs : List RV} {xs : List V} {i : Nat} {r : RV}, RVRs K mg G0 G H σ rs xs → rs[i]? = some r → ∃ x, xs[i]? = some x ∧ RVR K mg G0 G H σ r x
  | _, _, _, _, .nil, e => by simp at e
  | _, _, 0, _, .cons h _ _, e => by simp at e; subst e; exact ⟨_, rfl, h⟩
  | _, _, i + 1, _, .cons _ _ t, e => by
    obtain ⟨x, h1, h2⟩ := RVRs.get (i := i) t (by simpa using e)
    exact ⟨x, by simpa using h1, h2⟩
/-- one more, from the left -/
theorem RVRs.push {G0 G1 : Gh} {H0 H1 : Hp} {σ : L2.St} {r : RV} {x : V} {rs : List RV} {xs : List V} (s0 : Step G0 H0 G1 H1) (h : RVR K mg G0 G1 H1 σ r x) (st : Step G1 H1 G H) (t : RVRs K mg G1 G H σ rs xs) : RVRs K mg G0 G H σ (r :: rs) (x :: xs) := by
  refine .cons (h.mono st) (fun o e o' j ej ex => ?_) (t.back s0)
  subst e
  obtain ⟨a, e1, g, _, _⟩ := h
  obtain ⟨y, e2, b, e3, _, n, _⟩ := t.get ej
  rw [ex] at e2
  cases e2
  rw [e1] at e3
  cases e3
  exact n g
/-- the others behind a change of tag -/
theorem RVRs.tag {G0 : Gh} {σ : L2.St} {a : Addr} {t : Tag} (h2 : G a ≠ .fz) (h3 : ∀ l, G a ≠ .loc l) : ∀ {rs : List RV} {xs : List V}, RVRs K mg G0 G H σ rs xs → (∀ o (j : Nat), rs[j]? = some (.fr o) → xs[j]? ≠ some (.ref a)) → RVRs K mg G0 (tg G a t) H σ rs xs
  | _, _, .nil, _ => .nil
  | _, _, .cons (r := r) (x := x) h d q, ha => by
    refine .cons ?_ d (RVRs.tag h2 h3 q fun o j e => by simpa using ha o (j + 1) (by simpa using e))
    cases r with
    | sh v => exact PVR.step h (.tag h2 h3)
    | fr o =>
      obtain ⟨b, e, g, n, ob⟩ := h
      have nb : b ≠ a := fun z => by
        have := ha o 0 rfl
        rw [e, z] at this
        exact this rfl
      exact ⟨b, e, (tg_ne nb).trans g, n, ob.step rfl (.tag h2 h3)⟩
    | hd i => exact h
theorem keep_ok {G0 : Gh} {H0 : Hp} {s s' : SS} {σ : L2.St} {r : RV} {v : PV} {x : V} (R : Rel K mg G s σ H) (st : Step G0 H0 G H) (h : RVR K mg G0 G H σ r x) (e : keep s r = some (v, s')) :
    ∃ G', Rel K mg G' s' σ H ∧ Step G0 H0 G' H ∧ Mono G H G' H ∧ PVR K mg G' H v x ∧ s'.env.length = s.env.length ∧ s'.sto = s.sto ∧
      ∀ {rs : List RV} {xs : List V}, RVRs K mg G0 G H σ rs xs → (∀ o, r = .fr o → ∀ o' (j : Nat), rs[j]? = some (.fr o') → xs[j]? ≠ some x) → RVRs K mg G0 G' H σ rs xs := by
  cases r with
  | sh w =>
    simp only [keep, Option.some.injEq, Prod.mk.injEq] at e
    obtain ⟨rfl, rfl⟩ := e
    exact ⟨G, R, st, .refl, h, rfl, rfl, fun q _ => q⟩
  | fr o =>
    simp only [keep, Option.some.injEq, Prod.mk.injEq] at e
    obtain ⟨rfl, rfl⟩ := e
    obtain ⟨a, rfl, g, n, ob⟩ := h
    have h2 : G a ≠ .fz := fz_of g (fun z => nomatch z)
    have h3 : ∀ l, G a ≠ .loc l := loc_of g (fun _ z => nomatch z)
    exact ⟨_, R.frzHold g, st.tag n (st.notFz h2) (st.notLoc h3), .tag h2 h3, (ob.step rfl (.tag h2 h3)).pvr tg_same, rfl, rfl, fun q d => q.tag h2 h3 fun o' j ej => d o rfl o' j ej⟩
  | hd i =>
    have hx : σ[i]? = some (some x) := h
    simp only [keep] at e
    cases ei : s.env[i]? with
    | none => rw [ei] at e; cases e
    | some sl =>
      rw [ei] at e
      cases sl with
      | un => cases e
      | val w =>
        simp only [Option.some.injEq, Prod.mk.injEq] at e
        obtain ⟨rfl, rfl⟩ := e
        obtain ⟨y, e1, p⟩ := R.val ei
        rw [hx] at e1
        cases e1
        exact ⟨G, R, st, .refl, p, rfl, rfl, fun q _ => q⟩
      | own o =>
        simp only [Option.some.injEq, Prod.mk.injEq] at e
        obtain ⟨rfl, rfl⟩ := e
        obtain ⟨a, e1, g, ob⟩ := R.own ei
        rw [hx] at e1
        cases e1
        have h2 : G a ≠ .fz := fz_of g (fun z => nomatch z)
        have h3 : ∀ l, G a ≠ .loc l := loc_of g (fun _ z => nomatch z)
        refine ⟨_, R.frzSlot ei hx g ob, st.tag (st.notHold (by rw [g]; exact fun z => nomatch z)) (st.notFz h2) (st.notLoc h3), .tag h2 h3, (ob.step rfl (.tag h2 h3)).pvr tg_same, by simp, rfl, fun q _ => q.tag h2 h3 fun o' j ej ex => ?_⟩
        obtain ⟨y, e2, b, e3, g', _⟩ := q.get ej
        rw [ex] at e2
        cases e2
        cases e3
        rw [g] at g'
        cases g'
theorem keeps_ok {G0 : Gh} {H0 : Hp} {σ : L2.St} : ∀ {rs : List RV} {G : Gh} {s s' : SS} {vs : List PV} {xs : List V}, Rel K mg G s σ H → Step G0 H0 G H → RVRs K mg G0 G H σ rs xs → keeps s rs = some (vs, s') →
    ∃ G', Rel K mg G' s' σ H ∧ Step G0 H0 G' H ∧ Mono G H G' H ∧ PVRs K mg G' H vs xs ∧ s'.env.length = s.env.length ∧ s'.sto = s.sto
  | [], G, s, s', vs, xs, R, st, h, e => by
    cases h
    simp only [keeps, Option.some.injEq, Prod.mk.injEq] at e
    obtain ⟨rfl, rfl⟩ := e
    exact ⟨G, R, st, .refl, .nil, rfl, rfl⟩
  | r :: rs, G, s, s', vs, xs, R, st, h, e => by
    cases h with
    | cons h d t =>
      unfold keeps at e
      cases e1 : keep s r with
      | none => rw [e1] at e; cases e
      | some p =>
        obtain ⟨v, s1⟩ := p
        rw [e1] at e
        simp only at e
        cases e2 : keeps s1 rs with
        | none => rw [e2] at e; cases e
        | some p =>
          obtain ⟨ws, s2⟩ := p
          rw [e2] at e
          simp only [Option.some.injEq, Prod.mk.injEq] at e
          obtain ⟨rfl, rfl⟩ := e
          obtain ⟨G1, R1, st1, m1, p1, l1, o1, k1⟩ := keep_ok R st h e1
          obtain ⟨G2, R2, st2, m2, p2, l2, o2⟩ := keeps_ok R1 st1 (k1 t d) e2
          exact ⟨G2, R2, st2, m1.trans m2, .cons (p1.step m2) p2, l2.trans l1, o2.trans o1⟩

/-! ### contents -/
/-- a content: a value, or an object's that may still be changed -/
def CnR (K : PySem.W.Frag) (mg : Str → Option Value) (G : Gh) (H : Hp) (c : PV) (x : V) : Prop := PVR K mg G H c x ∨ ∃ a, x = .ref a ∧ ObR K mg G H a c
theorem boxC_ok {s : SS} {σ : L2.St} {v : PV} {x : V} (R : Rel K mg G s σ H) (p : PVR K mg G H v x) : CnR K mg G H (boxC s.sto v) x := by
  cases v with
  | ref l =>
    simp only [boxC]
    split
    · rename_i o es
      obtain ⟨a, g, ob⟩ := R.sto l _ es
      cases p with
      | ref g' =>
        have := R.uniq _ _ l g g'
        subst this
        exact .inr ⟨_, rfl, ob⟩
    · exact .inl p
  | _ => exact .inl p
theorem cont_ok {G0 : Gh} {s : SS} {σ : L2.St} {r : RV} {c : PV} {x : V} (R : Rel K mg G s σ H) (h : RVR K mg G0 G H σ r x) (e : cont s r = some c) : CnR K mg G H c x := by
  cases r with
  | sh v =>
    simp only [cont, Option.some.injEq] at e
    subst e
    exact boxC_ok R h
  | fr o =>
    simp only [cont, Option.some.injEq] at e
    subst e
    obtain ⟨a, rfl, _, _, ob⟩ := h
    exact .inr ⟨a, rfl, ob⟩
  | hd i =>
    have hx : σ[i]? = some (some x) := h
    simp only [cont] at e
    cases ei : s.env[i]? with
    | none => rw [ei] at e; cases e
    | some sl =>
      rw [ei] at e
      cases sl with
      | un => cases e
      | val v =>
        simp only [Option.some.injEq] at e
        subst e
        obtain ⟨y, e1, p⟩ := R.val ei
        rw [hx] at e1
        cases e1
        exact boxC_ok R p
      | own o =>
        simp only [Option.some.injEq] at e
        subst e
        obtain ⟨a, e1, g, ob⟩ := R.own ei
        rw [hx] at e1
        cases e1
        exact .inr ⟨a, rfl, ob⟩
inductive CnRs (K : PySem.W.Frag) (mg : Str → Option Value) (G : Gh) (H : Hp) : List PV → List V → Prop where
  | nil : CnRs K mg G H [] []
  | cons {c : PV} {x : V} {cs : List PV} {xs : List V} : CnR K mg G H c x → CnRs K mg G H cs xs → CnRs K mg G H (c :: cs) (x :: xs)
theorem conts_ok {G0 : Gh} {s : SS} {σ : L2.St} (R : Rel K mg G s σ H) : ∀ {rs : List RV} {cs : List PV} {xs : List V}, RVRs K mg G0 G H σ rs xs → conts s rs = some cs → CnRs K mg G H cs xs
  | [], cs, xs, h, e => by
    cases h
    cases e
    exact .nil
  | r :: rs, cs, xs, h, e => by
    cases h with
    | cons h d t =>
      unfold conts at e
      cases e1 : cont s r with
      | none => rw [e1] at e; cases e
      | some c =>
        rw [e1] at e
        simp only at e
        cases e2 : conts s rs with
        | none => rw [e2] at e; cases e
        | some cs' =>
          rw [e2] at e
          cases e
          exact .cons (cont_ok R h e1) (conts_ok R t e2)
end
end TP

set_option Elab.async false
set_option linter.all false
set_option maxRecDepth 100000
set_option maxHeartbeats 4000000
/-! Sal3: each operation does over the abstract heap what it does to contents. -/
namespace TP
open PySem PySem.Spec PyProof.Rows
open L2 (V Hp HO Key upd upd_same upd_ne SqL SqT Rd OpR UnR CallR IxR Vals Inv)

section
variable {K : PySem.W.Frag} {mg : Str → Option Value} {G : Gh} {H : Hp}
/-- what an operation hands back -/
inductive Out (K : PySem.W.Frag) (mg : Str → Option Value) (G : Gh) (H : Hp) : RV → V → Hp → Prop where
  | same {v : PV} {x : V} : PVR K mg G H v x → Out K mg G H (.sh v) x H
  | tup {xs : List PV} {Vs : List V} {p : Addr} : H p = none → PVRs K mg G H xs Vs → Out K mg G H (.sh (.tup xs)) (.ref p) (upd H p (.tup Vs))
  | lst {xs : List PV} {Vs : List V} {p : Addr} : H p = none → PVRs K mg G H xs Vs → Out K mg G H (.fr (.lst xs)) (.ref p) (upd H p (.lst Vs))
  | gen {o : PV} {x : V} {H' : Hp} : (∀ (s : SS) (σ : L2.St), Rel K mg G s σ H → ∃ G', Rel K mg G' s σ H' ∧ Step G H G' H' ∧ RVR K mg G G' H' σ (.fr o) x) → Out K mg G H (.fr o) x H'
theorem Out.rel {s : SS} {σ : L2.St} {r : RV} {x : V} {H' : Hp} (R : Rel K mg G s σ H) (o : Out K mg G H r x H') : ∃ G', Rel K mg G' s σ H' ∧ Step G H G' H' ∧ RVR K mg G G' H' σ r x := by
  cases o with
  | same h => exact ⟨G, R, .refl, h⟩
  | @tup _ Vs _ hp h =>
    have q := Same.new (t := .free) (o := .tup Vs) R.trk hp (fun _ z => nomatch z)
    exact ⟨_, R.same q, q.st, .tup (.inl (.inl upd_same)) (h.step q.st.mono)⟩
  | @lst _ Vs _ hp h =>
    have q := Same.new (t := .hold) (o := .lst Vs) R.trk hp (fun _ z => nomatch z)
    exact ⟨_, R.same q, q.st, _, rfl, tg_same, (by rw [R.free hp]; exact (fun z => nomatch z)), _, upd_same, h.step q.st.mono⟩
  | gen h => exact h s σ R

/-! ### inversions -/
theorem CnR.int {i : Int} {x : V} (h : CnR K mg G H (.int i) x) : x = .int i := by
  rcases h with h | ⟨_, _, h⟩
  · cases h; rfl
  · exact h.elim
theorem CnR.bl {b : Bool} {x : V} (h : CnR K mg G H (.bl b) x) : x = .bl b := by
  rcases h with h | ⟨_, _, h⟩
  · cases h; rfl
  · exact h.elim
theorem CnR.non {x : V} (h : CnR K mg G H .non x) : x = .non := by
  rcases h with h | ⟨_, _, h⟩
  · cases h; rfl
  · exact h.elim
theorem CnR.str {y : List Nat} {x : V} (h : CnR K mg G H (.str y) x) : x = .str ⟨y.toArray⟩ := by
  rcases h with h | ⟨_, _, h⟩
  · cases h; rfl
  · exact h.elim
theorem CnR.ty {n : String} {x : V} (h : CnR K mg G H (.ty n) x) : x = .ty n := by
  rcases h with h | ⟨_, _, h⟩
  · cases h; rfl
  · exact h.elim
theorem CnR.tup {xs : List PV} {x : V} (h : CnR K mg G H (.tup xs) x) : ∃ a Vs, x = .ref a ∧ SqT K H a Vs ∧ PVRs K mg G H xs Vs := by
  rcases h with h | ⟨_, _, h⟩
  · cases h with
    | tup h hs => exact ⟨_, _, rfl, h, hs⟩
  · exact h.elim
theorem CnR.lst {xs : List PV} {x : V} (h : CnR K mg G H (.lst xs) x) : ∃ a Vs, x = .ref a ∧ H a = some (.lst Vs) ∧ PVRs K mg G H xs Vs := by
  rcases h with h | ⟨_, e, Vs, h, hs⟩
  · cases h with
    | lst h g hs => exact ⟨_, _, rfl, h, hs⟩
  · exact ⟨_, _, e, h, hs⟩
theorem CnR.dct {ks : List Key} {vs : List PV} {x : V} (h : CnR K mg G H (.dct ks vs) x) : ∃ a kvs, x = .ref a ∧ Rd H a (.dK kvs) ∧ kvs.map (·.1) = ks ∧ PVRs K mg G H vs (kvs.map (·.2)) := by
  rcases h with h | ⟨a, rfl, ob⟩
  · cases h with
    | dct h1 _ h2 h3 => exact ⟨_, _, rfl, h1, h2, h3⟩
  · obtain ⟨kvs, h1, h2, h3⟩ := ob
    exact ⟨a, kvs, rfl, .inl h1, h2, h3⟩
theorem dget_k {H : Hp} {a : Addr} {kvs : List (Key × V)} {k : Key} (e : Rd H a (.dK kvs)) : L2.DGet H a (L2.kV k) (L2.valV kvs k) := .inl ⟨kvs, k, e, rfl, rfl⟩
theorem CnR.key {c : PV} {x : V} {q : Key} (h : CnR K mg G H c x) (e : keyPV c = some q) : x = L2.kV q := by
  unfold keyPV at e
  split at e <;> cases e
  · rw [h.int]; rfl
  · rw [h.str]; rfl
theorem lk_ok {q : Key} : ∀ {kvs : List (Key × V)} {ks : List Key} {vs : List PV}, kvs.map (·.1) = ks → PVRs K mg G H vs (kvs.map (·.2)) →
    (∀ c, lkD ks vs q = some c → ∃ x, L2.valV kvs q = some x ∧ PVR K mg G H c x) ∧ ((L2.valV kvs q).isSome = ks.any fun k => decide (k = q))
  | [], _, _, rfl, p => by
    cases p
    exact ⟨fun c e => (by cases e), rfl⟩
  | (k, y) :: kvs, _, _, rfl, p => by
    cases p with
    | @cons v _ vs _ h t =>
    have ih := lk_ok (q := q) rfl t
    by_cases e : k = q
    · refine ⟨fun c ec => ?_, ?_⟩
      · simp only [List.map_cons, lkD, if_pos e] at ec
        cases ec
        exact ⟨y, by rw [L2.valV_pos (p := (k, y)) e], h⟩
      · rw [L2.valV_pos (p := (k, y)) e, List.map_cons, List.any_cons, decide_eq_true e]
        rfl
    · refine ⟨fun c ec => ?_, ?_⟩
      · simp only [List.map_cons, lkD, if_neg e] at ec
        obtain ⟨x, e1, p1⟩ := ih.1 c ec
        exact ⟨x, by rw [L2.valV_neg (p := (k, y)) e]; exact e1, p1⟩
      · rw [L2.valV_neg (p := (k, y)) e, List.map_cons, List.any_cons, decide_eq_false e, Bool.false_or]
        exact ih.2
theorem lk_no {q : Key} : ∀ {kvs : List (Key × V)} {ks : List Key} {vs : List PV}, kvs.map (·.1) = ks → PVRs K mg G H vs (kvs.map (·.2)) → lkD ks vs q = none → L2.valV kvs q = none
  | [], _, _, _, _, _ => rfl
  | (k, y) :: kvs, _, _, rfl, p, e => by
    cases p with
    | @cons v _ vs _ h t =>
    by_cases eq : k = q
    · simp only [List.map_cons, lkD, if_pos eq] at e
      cases e
    · simp only [List.map_cons, lkD, if_neg eq] at e
      rw [L2.valV_neg (p := (k, y)) eq]
      exact lk_no rfl t e
theorem rep_ok {q : Key} {c : PV} {x : V} (r : PVR K mg G H c x) : ∀ {kvs : List (Key × V)} {vs : List PV}, PVRs K mg G H vs (kvs.map (·.2)) →
    (kvs.map fun kv => if kv.1 = q then (kv.1, x) else kv).map (·.1) = kvs.map (·.1) ∧ PVRs K mg G H (repD (kvs.map (·.1)) vs q c) ((kvs.map fun kv => if kv.1 = q then (kv.1, x) else kv).map (·.2))
  | [], _, p => by
    cases p
    exact ⟨rfl, .nil⟩
  | (k, y) :: kvs, _, p => by
    cases p with
    | @cons v _ vs _ h t =>
    have ih := rep_ok (q := q) r t
    by_cases e : k = q
    · simp only [List.map_cons, repD, if_pos e]
      exact ⟨by rw [ih.1], .cons r ih.2⟩
    · simp only [List.map_cons, repD, if_neg e]
      exact ⟨by rw [ih.1], .cons h ih.2⟩
theorem put_ok {q : Key} {c : PV} {x : V} (r : PVR K mg G H c x) {kvs : List (Key × V)} {vs : List PV} (p : PVRs K mg G H vs (kvs.map (·.2))) :
    ∃ ks' vs', putD (kvs.map (·.1)) vs q c = .dct ks' vs' ∧ (L2.putK kvs q x).map (·.1) = ks' ∧ PVRs K mg G H vs' ((L2.putK kvs q x).map (·.2)) := by
  have e : ((kvs.map (·.1)).any fun k => decide (k = q)) = kvs.any fun kv => decide (kv.1 = q) := by rw [List.any_map]; rfl
  unfold putD L2.putK
  rw [e]
  by_cases h : (kvs.any fun kv => decide (kv.1 = q)) = true
  · rw [if_pos h, if_pos h]
    have := rep_ok (q := q) r p
    exact ⟨_, _, rfl, this.1, this.2⟩
  · rw [if_neg h, if_neg h]
    refine ⟨_, _, rfl, by simp, ?_⟩
    rw [List.map_append]
    exact p.append (.cons r .nil)
theorem merge_ok : ∀ {ps : List (Key × PV)} {more kvs : List (Key × V)} {vs : List PV}, more.map (·.1) = ps.map (·.1) → PVRs K mg G H (ps.map (·.2)) (more.map (·.2)) → PVRs K mg G H vs (kvs.map (·.2)) →
    ∃ ks' vs', mergeD (kvs.map (·.1)) vs ps = .dct ks' vs' ∧ (L2.mergeK kvs more).map (·.1) = ks' ∧ PVRs K mg G H vs' ((L2.mergeK kvs more).map (·.2))
  | [], [], kvs, vs, _, _, p => ⟨_, _, rfl, rfl, p⟩
  | [], _ :: _, _, _, e, _, _ => by cases e
  | _ :: _, [], _, _, e, _, _ => by cases e
  | (q, c) :: ps, (q', x) :: more, kvs, vs, e, pm, p => by
    simp only [List.map_cons, List.cons.injEq] at e
    obtain ⟨e1, e2⟩ := e
    subst e1
    cases pm with
    | cons r t =>
    obtain ⟨ks1, vs1, f1, f2, f3⟩ := put_ok (q := q') r p
    obtain ⟨ks2, vs2, g1, g2, g3⟩ := merge_ok (kvs := L2.putK kvs q' x) e2 t f3
    refine ⟨ks2, vs2, ?_, g2, g3⟩
    rw [← g1, f2]
    unfold putD at f1
    rw [mergeD]
    split at f1 <;> (rename_i hz; cases f1)
    · rw [if_pos hz]
    · rw [if_neg hz]
def flPr : List (V × V) → List V
  | [] => []
  | (x, y) :: r => x :: y :: flPr r
theorem pairs_ok : ∀ {vs : List PV} {ps : List (Key × PV)} {psV : List (V × V)}, pairsD vs = some ps → PVRs K mg G H vs (flPr psV) →
    ∃ kvs : List (Key × V), psV = kvs.map (fun kv => (L2.kV kv.1, kv.2)) ∧ kvs.map (·.1) = ps.map (·.1) ∧ PVRs K mg G H (ps.map (·.2)) (kvs.map (·.2)) ∧ kvs.length = ps.length
  | [], ps, [], e, _ => by
    cases e
    exact ⟨[], rfl, rfl, .nil, rfl⟩
  | [], ps, (x, y) :: psV, e, p => by cases p
  | [v], ps, psV, e, p => by simp [pairsD] at e
  | k :: v :: r, ps, [], e, p => by cases p
  | k :: v :: r, ps, (x, y) :: psV, e, p => by
    simp only [pairsD] at e
    split at e
    · rename_i q ps' h1 h2
      cases e
      cases p with
      | cons pk t =>
      cases t with
      | cons pv t =>
      obtain ⟨kvs, f1, f2, f3, f4⟩ := pairs_ok (psV := psV) h2 t
      have ek := CnR.key (.inl pk) h1
      subst ek
      exact ⟨(q, y) :: kvs, by rw [f1]; rfl, by simp [f2], .cons pv f3, by simp [f4]⟩
    · cases e
theorem CnR.rol {xs : List PV} {x : V} (h : CnR K mg G H (.rol xs) x) : ∃ a Vs, x = .ref a ∧ RdZ K H a Vs ∧ PVRs K mg G H xs Vs := by
  rcases h with h | ⟨_, e, h⟩
  · cases h with
    | rol h hs => exact ⟨_, _, rfl, h, hs⟩
  · exact h.elim
theorem CnRs.one {c : PV} {xs : List V} (h : CnRs K mg G H [c] xs) : ∃ x, xs = [x] ∧ CnR K mg G H c x := by
  cases h with
  | cons h t => cases t; exact ⟨_, rfl, h⟩
theorem CnRs.two {c d : PV} {xs : List V} (h : CnRs K mg G H [c, d] xs) : ∃ x y, xs = [x, y] ∧ CnR K mg G H c x ∧ CnR K mg G H d y := by
  cases h with
  | cons h t =>
    obtain ⟨y, rfl, h2⟩ := t.one
    exact ⟨_, _, rfl, h, h2⟩
theorem CnRs.length : ∀ {cs : List PV} {xs : List V}, CnRs K mg G H cs xs → cs.length = xs.length
  | _, _, .nil => rfl
  | _, _, .cons _ t => congrArg Nat.succ (CnRs.length t)
end

theorem szL_eq : szL = sizeLine := by rw [sizeLine_eq]; rfl
theorem big_log {i : Int} (h : intBig i = true) : i.natAbs.log2 < 8000 := by
  have h1 : i.natAbs < 2 ^ 8000 := of_decide_eq_true h
  exact PySem.Flt.log2_lt_of (by decide) h1

/-! ### data -/
mutual
def PV.pd : PV → PyData
  | .non => .none
  | .bl b => .bool b
  | .int i => .int i
  | .str x => .str ⟨x.toArray⟩
  | .tup xs => .tuple (pds xs)
  | .lst xs => .list (pds xs)
  | _ => .none
def pds : List PV → List PyData
  | [] => []
  | x :: xs => x.pd :: pds xs
end
theorem str_beq (x y : List Nat) : ((⟨x.toArray⟩ : Str) == ⟨y.toArray⟩) = (x == y) := by
  rw [Bool.eq_iff_iff]
  simp [Str.mk.injEq]
mutual
theorem eqv_pd : ∀ (x y : PV) {a b : Nat}, x.deep = some a → y.deep = some b → PyData.eqv x.pd y.pd = x.eqv y := by
  intro x y a b hx hy
  cases x with
  | tup xs =>
    cases y with
    | tup ys =>
      simp only [PV.deep, Option.map_eq_some_iff] at hx hy
      obtain ⟨_, hx, _⟩ := hx
      obtain ⟨_, hy, _⟩ := hy
      simp only [PV.pd, PyData.eqv, PV.eqv]
      exact eqvs_pd xs ys hx hy
    | _ => first | (simp only [PV.deep] at hy; cases hy; done) | (simp only [PV.pd, PyData.eqv, PV.eqv])
  | lst xs =>
    cases y with
    | lst ys =>
      simp only [PV.deep, Option.map_eq_some_iff] at hx hy
      obtain ⟨_, hx, _⟩ := hx
      obtain ⟨_, hy, _⟩ := hy
      simp only [PV.pd, PyData.eqv, PV.eqv]
      exact eqvs_pd xs ys hx hy
    | _ => first | (simp only [PV.deep] at hy; cases hy; done) | (simp only [PV.pd, PyData.eqv, PV.eqv])
  | str x =>
    cases y with
    | str y => simp only [PV.pd, PyData.eqv, PV.eqv]; exact str_beq x y
    | _ => first | (simp only [PV.deep] at hy; cases hy; done) | (simp only [PV.pd, PyData.eqv, PV.eqv])
  | non => cases y <;> first | (simp only [PV.deep] at hy; cases hy; done) | (simp only [PV.pd, PyData.eqv, PV.eqv])
  | bl _ => cases y <;> first | (simp only [PV.deep] at hy; cases hy; done) | (simp only [PV.pd, PyData.eqv, PV.eqv])
  | int _ => cases y <;> first | (simp only [PV.deep] at hy; cases hy; done) | (simp only [PV.pd, PyData.eqv, PV.eqv])
  | _ => simp only [PV.deep] at hx; cases hx
theorem eqvs_pd : ∀ (xs ys : List PV) {a b : Nat}, deeps xs = some a → deeps ys = some b → PyData.eqvAll (pds xs) (pds ys) = eqvs xs ys
  | [], [], _, _, _, _ => by simp only [pds, PyData.eqvAll, eqvs]
  | [], _ :: _, _, _, _, _ => by simp only [pds, PyData.eqvAll, eqvs]
  | _ :: _, [], _, _, _, _ => by simp only [pds, PyData.eqvAll, eqvs]
  | x :: xs, y :: ys, a, b, hx, hy => by
    simp only [deeps] at hx hy
    cases h1 : x.deep with
    | none => rw [h1] at hx; cases hx
    | some n1 =>
      cases h2 : deeps xs with
      | none => rw [h1, h2] at hx; cases hx
      | some n2 =>
        cases h3 : y.deep with
        | none => rw [h3] at hy; cases hy
        | some n3 =>
          cases h4 : deeps ys with
          | none => rw [h3, h4] at hy; cases hy
          | some n4 =>
            simp only [pds, PyData.eqvAll, eqvs]
            rw [eqv_pd x y h1 h3, eqvs_pd xs ys h2 h4]
end
mutual
theorem deep_pd : ∀ (x : PV) {n : Nat}, x.deep = some n → x.pd.canLay0 = true ∧ x.pd.depth = n := by
  intro x n h
  cases x with
  | non => simp only [PV.deep, Option.some.injEq] at h; subst h; exact ⟨rfl, rfl⟩
  | bl _ => simp only [PV.deep, Option.some.injEq] at h; subst h; exact ⟨rfl, rfl⟩
  | int _ => simp only [PV.deep, Option.some.injEq] at h; subst h; exact ⟨rfl, rfl⟩
  | str x =>
    simp only [PV.deep] at h
    by_cases q : (x.all fun c => decide (c < 1114112)) = true
    · rw [if_pos q] at h
      cases h
      refine ⟨?_, rfl⟩
      show (x.toArray.all fun c => decide (c < 0x110000)) = true
      simpa using q
    · rw [if_neg q] at h; cases h
  | tup xs =>
    simp only [PV.deep, Option.map_eq_some_iff] at h
    obtain ⟨m, h, rfl⟩ := h
    obtain ⟨h1, h2⟩ := deeps_pd xs h
    exact ⟨h1, congrArg (· + 1) h2⟩
  | lst xs =>
    simp only [PV.deep, Option.map_eq_some_iff] at h
    obtain ⟨m, h, rfl⟩ := h
    obtain ⟨h1, h2⟩ := deeps_pd xs h
    exact ⟨h1, congrArg (· + 1) h2⟩
  | _ => simp only [PV.deep] at h; cases h
theorem deeps_pd : ∀ (xs : List PV) {n : Nat}, deeps xs = some n → PyData.canLayAll0 (pds xs) = true ∧ PyData.depthAll (pds xs) = n
  | [], n, h => by simp only [deeps, Option.some.injEq] at h; subst h; exact ⟨rfl, rfl⟩
  | x :: xs, n, h => by
    simp only [deeps] at h
    cases h1 : x.deep with
    | none => rw [h1] at h; cases h
    | some a =>
      cases h2 : deeps xs with
      | none => rw [h1, h2] at h; cases h
      | some b =>
        rw [h1, h2] at h
        simp only [Option.some.injEq] at h
        subst h
        obtain ⟨p1, p2⟩ := deep_pd x h1
        obtain ⟨p3, p4⟩ := deeps_pd xs h2
        refine ⟨?_, ?_⟩
        · show (PyData.canLay0 x.pd && PyData.canLayAll0 (pds xs)) = true
          rw [p1, p3]; rfl
        · show max (PyData.depth x.pd) (PyData.depthAll (pds xs)) = _
          rw [p2, p4]
end
theorem shaped_pd {x : PV} (h : dataOk x = true) : SeqAt.shaped x.pd = true ∧ ∃ n, x.deep = some n := by
  unfold dataOk at h
  cases e : x.deep with
  | none => rw [e] at h; cases h
  | some n =>
    rw [e] at h
    have hn : n ≤ 60 := of_decide_eq_true h
    obtain ⟨h1, h2⟩ := deep_pd x e
    refine ⟨?_, n, rfl⟩
    unfold SeqAt.shaped
    rw [h1, h2, Bool.true_and]
    exact decide_eq_true (by omega)
section
variable {K : PySem.W.Frag} {mg : Str → Option Value} {G : Gh} {H : Hp}
mutual
theorem PVR.dp : ∀ {v : PV} {x : V} {n : Nat}, PVR K mg G H v x → v.deep = some n → L2.Dp K H x v.pd
  | _, _, _, .non, _ => .non
  | _, _, _, .bl b, _ => .bl b
  | _, _, _, .int i, _ => .int i
  | _, _, _, .str x, _ => .str _
  | _, _, _, .tup (xs := xs) h hs, e => by
    simp only [PV.deep, Option.map_eq_some_iff] at e
    obtain ⟨m, e, _⟩ := e
    exact .tup h (PVRs.dps hs e)
  | _, _, _, .lst (xs := xs) h g hs, e => by
    simp only [PV.deep, Option.map_eq_some_iff] at e
    obtain ⟨m, e, _⟩ := e
    exact .lst (.of h) (PVRs.dps hs e)
  | _, _, _, .rol _ _, e => by simp only [PV.deep] at e; cases e
  | _, _, _, .dct _ _ _ _, e => by simp only [PV.deep] at e; cases e
  | _, _, _, .ref _, e => by simp only [PV.deep] at e; cases e
  | _, _, _, .glo _, e => by simp only [PV.deep] at e; cases e
  | _, _, _, .ty _, e => by simp only [PV.deep] at e; cases e
theorem PVRs.dps : ∀ {vs : List PV} {xs : List V} {n : Nat}, PVRs K mg G H vs xs → deeps vs = some n → L2.DpAll K H xs (pds vs)
  | _, _, _, .nil, _ => .nil
  | _, _, _, .cons (x := v) (xs := vs) h t, e => by
    simp only [deeps] at e
    cases h1 : v.deep with
    | none => rw [h1] at e; cases e
    | some a =>
      cases h2 : deeps vs with
      | none => rw [h1, h2] at e; cases e
      | some b => exact .cons (PVR.dp h h1) (PVRs.dps t h2)
end
theorem CnR.dp {c : PV} {x : V} (h : CnR K mg G H c x) (d : dataOk c = true) : L2.Dp K H x c.pd ∧ SeqAt.shaped c.pd = true ∧ ∃ n, c.deep = some n := by
  obtain ⟨h1, n, h2⟩ := shaped_pd d
  refine ⟨?_, h1, n, h2⟩
  rcases h with h | ⟨a, rfl, ob⟩
  · exact h.dp h2
  · cases c with
    | lst xs =>
      obtain ⟨Vs, e, hs⟩ := ob
      simp only [PV.deep, Option.map_eq_some_iff] at h2
      obtain ⟨m, h2, _⟩ := h2
      exact .lst (.of e) (hs.dps h2)
    | dct _ _ => simp only [PV.deep] at h2; cases h2
    | _ => exact ob.elim
end

/-! ### the operations -/
/-- a two-place operation on contents, by values -/
def rP2 (K : PySem.W.Frag) (mg : Str → Option Value) (f : PV → PV → Option RV) : L2.R2 := fun x y H Q => ∃ G c d r, CnR K mg G H c x ∧ CnR K mg G H d y ∧ f c d = some r ∧ ∀ z H', Out K mg G H r z H' → Q z H'
def rP1 (K : PySem.W.Frag) (mg : Str → Option Value) (f : PV → Option RV) : V → Hp → L2.VK → Prop := fun x H Q => ∃ G c r, CnR K mg G H c x ∧ f c = some r ∧ ∀ z H', Out K mg G H r z H' → Q z H'
def rC1 (K : PySem.W.Frag) (mg : Str → Option Value) (f : PV → Option RV) : List V → Hp → L2.VK → Prop := fun xs H Q => ∃ x, xs = [x] ∧ rP1 K mg f x H Q
def rC2 (K : PySem.W.Frag) (mg : Str → Option Value) (f : PV → PV → Option RV) : List V → Hp → L2.VK → Prop := fun xs H Q => ∃ x y, xs = [x, y] ∧ rP2 K mg f x y H Q
section
variable {X : L2.Cx}
theorem str_app (x y : List Nat) : ((⟨x.toArray⟩ : Str) ++ (⟨y.toArray⟩ : Str)) = ⟨(x ++ y).toArray⟩ := by
  show Str.append _ _ = _
  unfold Str.append
  simp
theorem str_len (x : List Nat) : (⟨x.toArray⟩ : Str).length = x.length := by
  unfold Str.length
  simp
theorem opAdd : OpR X (binaryOp .Add) (rP2 X.K X.mg addSem) := by
  intro pins s σ H x y v u Q I rx ry h
  obtain ⟨G, c, d, r, hc, hd, e, q⟩ := h
  unfold addSem at e
  split at e
  · cases hc.int; cases hd.int; cases e
    exact L2.op_add pins s σ H _ _ v u Q I rx ry ⟨_, _, rfl, rfl, q _ _ (.same (.int _))⟩
  · cases hc.str; cases hd.str
    split at e <;> cases e
    rename_i hz
    refine L2.op_add_str pins s σ H _ _ v u Q I rx ry ⟨_, _, rfl, rfl, by rw [str_len, str_len, ← szL_eq]; exact hz, ?_⟩
    rw [str_app]
    exact q _ _ (.same (.str _))
  · obtain ⟨a, xs, rfl, h1, p1⟩ := hc.tup
    obtain ⟨b, ys, rfl, h2, p2⟩ := hd.tup
    split at e <;> cases e
    rename_i hz
    refine L2.op_catA pins s σ H _ _ v u Q I rx ry ⟨a, b, xs, ys, rfl, rfl, h1, h2, by rw [← p1.length, ← p2.length, ← szL_eq]; exact hz, fun z => ?_, fun z z2 => ?_, fun z z2 p hp => ?_⟩
    · subst z; cases p1
      exact q _ _ (.same (.tup h2 p2))
    · subst z2; cases p2
      rw [List.append_nil] at q
      exact q _ _ (.same (.tup h1 p1))
    · exact q _ _ (.tup hp (p1.append p2))
  · obtain ⟨a, xs, rfl, h1, p1⟩ := hc.lst
    obtain ⟨b, ys, rfl, h2, p2⟩ := hd.lst
    split at e <;> cases e
    rename_i hz
    exact L2.op_cat pins s σ H _ _ v u Q I rx ry ⟨a, b, xs, ys, rfl, rfl, h1, h2, by rw [← p1.length, ← p2.length, ← szL_eq]; exact hz, fun p hp => q _ _ (.lst hp (p1.append p2))⟩
  · cases e
theorem opSub : OpR X (binaryOp .Sub) (rP2 X.K X.mg subSem) := by
  intro pins s σ H x y v u Q I rx ry h
  obtain ⟨G, c, d, r, hc, hd, e, q⟩ := h
  unfold subSem at e
  split at e
  · cases hc.int; cases hd.int; cases e
    exact L2.op_sub pins s σ H _ _ v u Q I rx ry ⟨_, _, rfl, rfl, q _ _ (.same (.int _))⟩
  · cases e
theorem opFdiv : OpR X (binaryOp .FloorDiv) (rP2 X.K X.mg fdivSem) := by
  intro pins s σ H x y v u Q I rx ry h
  obtain ⟨G, c, d, r, hc, hd, e, q⟩ := h
  unfold fdivSem at e
  split at e
  · rename_i i j
    cases hc.int; cases hd.int
    split at e <;> cases e
    rename_i hz
    have op : OpR X (binaryOp .FloorDiv) (L2.rI (fun _ j => j ≠ 0 ∧ j.natAbs.log2 < 9000) fun i j => .int (i.fdiv j)) := L2.opI fun i j _ _ _ _ _ hc q => floordiv_int hc.1 q (.inl (PyProof.noPylong_of_log2 hc.2))
    exact op pins s σ H _ _ v u Q I rx ry ⟨i, j, rfl, rfl, ⟨hz.1, Nat.lt_trans (big_log hz.2) (by decide)⟩, q _ _ (.same (.int _))⟩
  · cases e
theorem opMod : OpR X (binaryOp .Mod) (rP2 X.K X.mg modSem) := by
  intro pins s σ H x y v u Q I rx ry h
  obtain ⟨G, c, d, r, hc, hd, e, q⟩ := h
  unfold modSem at e
  split at e
  · cases hc.int; cases hd.int
    split at e <;> cases e
    rename_i hz
    exact L2.op_modN pins s σ H _ _ v u Q I rx ry ⟨_, _, rfl, rfl, hz, q _ _ (.same (.int _))⟩
  · cases e
theorem opPow : OpR X (binaryOp .Pow) (rP2 X.K X.mg powSem) := by
  intro pins s σ H x y v u Q I rx ry h
  obtain ⟨G, c, d, r, hc, hd, e, q⟩ := h
  unfold powSem at e
  split at e
  · cases hc.int; cases hd.int
    split at e <;> cases e
    rename_i hz
    exact L2.op_pow pins s σ H _ _ v u Q I rx ry ⟨_, _, rfl, rfl, hz, q _ _ (.same (.int _))⟩
  · cases e
theorem unNeg : UnR X (unaryOp .USub) (rP1 X.K X.mg negSem) := by
  intro pins s σ H x v Q I rx h
  obtain ⟨G, c, r, hc, e, q⟩ := h
  unfold negSem at e
  split at e
  · cases hc.int; cases e
    exact L2.un_neg pins s σ H _ v Q I rx ⟨_, rfl, q _ _ (.same (.int _))⟩
  · cases e

/-! tuple * int, all counts -/
theorem tuple_mul1 (l : Addr) (items : Array Value) (n : Nat) (dd : Option Addr) (sl : Array (Option Value)) (x : Int) (u : Tok) (c0 : (decide (x < -(2 ^ 63)) || decide (x ≥ 2 ^ 63)) = false) (c1 : (items.isEmpty || x == 1) = true) :
    Meets (Builtin.«tuple.__mul__» ⟨[.ref l, .int x u], []⟩) (fun _ R s => s.heap.get? l = some { cls := .type "tuple", dict := dd, data := .seq items n, slots := sl } ∧
      R (.ok (.ret (Value.ref l))) s) :=
  .of_wp fun prog w A R s h => by
    obtain ⟨hp, g, d, tk, os⟩ := s
    obtain ⟨hl, h⟩ := h
    have f1 := AutoSeq1.idx_int
    wp_walk using wpAny_loadPart' hl
    repeat (first
      | (refine wpAny_ite_false (decide_eq_false (by rw [c0]; exact Bool.false_ne_true)) ?_; wp_walk using wpAny_loadPart' hl)
      | (refine wpAny_ite_true (decide_eq_true c1) ?_; wp_walk using wpAny_loadPart' hl))
    exact ⟨_, rfl, h⟩
theorem tuple_mul0 (l : Addr) (items : Array Value) (n : Nat) (dd : Option Addr) (sl : Array (Option Value)) (x : Int) (u : Tok) (c0 : (decide (x < -(2 ^ 63)) || decide (x ≥ 2 ^ 63)) = false) (c1 : (items.isEmpty || x == 1) = false) (c2 : (decide (x ≤ 0) || items.isEmpty) = true) :
    Meets (Builtin.«tuple.__mul__» ⟨[.ref l, .int x u], []⟩) (fun _ R s => s.heap.get? l = some { cls := .type "tuple", dict := dd, data := .seq items n, slots := sl } ∧
      R (.ok (.ret (Value.ref s.heap.objs.size))) { s with heap := s.heap.push { cls := Value.type "tuple", data := Data.seq #[] }, toks := s.toks }) :=
  .of_wp fun prog w A R s h => by
    obtain ⟨hp, g, d, tk, os⟩ := s
    obtain ⟨hl, h⟩ := h
    have f1 := AutoSeq1.idx_int
    wp_walk using wpAny_loadPart' hl
    repeat (first
      | (refine wpAny_ite_false (decide_eq_false (by rw [c0]; exact Bool.false_ne_true)) ?_; wp_walk using wpAny_loadPart' hl)
      | (refine wpAny_ite_false (decide_eq_false (by rw [c1]; exact Bool.false_ne_true)) ?_; wp_walk using wpAny_loadPart' hl)
      | (refine wpAny_ite_true (decide_eq_true c2) ?_; wp_walk using wpAny_loadPart' hl))
    exact ⟨_, rfl, h⟩
theorem opRepT : OpR X (binaryOp .Mult) (fun x y H Q => ∃ l k xs, x = .ref l ∧ y = .int k ∧ SqT X.K H l xs ∧ -1000 ≤ k ∧ k ≤ 1000 ∧ xs.length ≤ 1000 ∧ ((xs = [] ∨ k = 1) → Q (.ref l) H) ∧ (xs ≠ [] → k ≠ 1 → ∀ p, H p = none → Q (.ref p) (upd H p (.tup (List.replicate k.toNat xs).flatten)))) := by
  intro pins s σ H x y v u Q I rx ry h
  obtain ⟨l, k, xs, rfl, rfl, hT, h1, h2, hz, q1, q2⟩ := h
  by_cases c1 : xs = [] ∨ k = 1
  · cases rx
    obtain ⟨t, rfl⟩ := ry
    obtain ⟨its, r, ⟨⟨cls, dd, data, sl⟩, ho, hc, n, hd⟩, hs⟩ := I.tuple hT
    simp only at hc hd
    subst hc hd
    have c0 : (decide (k < -(2 ^ 63)) || decide (k ≥ 2 ^ 63)) = false := by
      rw [decide_eq_false (by omega), decide_eq_false (by omega)] <;> rfl
    have c1' : (its.toArray.isEmpty || k == 1) = true := by
      rcases c1 with c | c
      · subst c; cases r; rfl
      · subst c; simp
    refine wpAny_binaryOp_repeat_ref (T := "tuple") (U := "int") (by decide) ⟨_, ho, rfl⟩ (fun s' => typeIs_int s' k t) L2.noFill_tuple_mul F.fills_int_mul F.slot_int_rmul L2.repeat_tuple F.slot_int_index.lookup
      (call_meets F.slot_int_rmul (typeIs_int s k t) F.entry_int_rmul (F.args_int_rmul_2 _ _) (L2.int_rmul_tuple k t l its.toArray n dd sl)
        ⟨ho, rfl, ⟨_, ho, rfl⟩, call_meets F.slot_tuple_mul ⟨_, ho, rfl⟩ F.entry_tuple_mul (F.args_tuple_mul_2 _ _) (tuple_mul1 l its.toArray n dd sl k t c0 c1') ⟨ho, ?_⟩⟩)
    exact ⟨.ref l, H, I, rfl, q1 c1⟩
  · have hne : xs ≠ [] := fun z => c1 (.inl z)
    have hk : k ≠ 1 := fun z => c1 (.inr z)
    by_cases h3 : 2 ≤ k
    · exact L2.op_repT pins s σ H _ _ v u Q I rx ry ⟨l, k, xs, rfl, rfl, hT, hne, h3, h2, hz, q2 hne hk⟩
    · cases rx
      obtain ⟨t, rfl⟩ := ry
      obtain ⟨its, r, ⟨⟨cls, dd, data, sl⟩, ho, hc, n, hd⟩, hs⟩ := I.tuple hT
      simp only at hc hd
      subst hc hd
      have c0 : (decide (k < -(2 ^ 63)) || decide (k ≥ 2 ^ 63)) = false := by
        rw [decide_eq_false (by omega), decide_eq_false (by omega)] <;> rfl
      have hi : its.toArray.isEmpty = false := by
        cases r with
        | nil => exact absurd rfl hne
        | cons a b => rfl
      have c1' : (its.toArray.isEmpty || k == 1) = false := by
        rw [hi, Bool.false_or]
        exact beq_eq_false_iff_ne.mpr hk
      have c2 : (decide (k ≤ 0) || its.toArray.isEmpty) = true := by
        rw [decide_eq_true (by omega)]; rfl
      refine wpAny_binaryOp_repeat_ref (T := "tuple") (U := "int") (by decide) ⟨_, ho, rfl⟩ (fun s' => typeIs_int s' k t) L2.noFill_tuple_mul F.fills_int_mul F.slot_int_rmul L2.repeat_tuple F.slot_int_index.lookup
        (call_meets F.slot_int_rmul (typeIs_int s k t) F.entry_int_rmul (F.args_int_rmul_2 _ _) (L2.int_rmul_tuple k t l its.toArray n dd sl)
          ⟨ho, rfl, ⟨_, ho, rfl⟩, call_meets F.slot_tuple_mul ⟨_, ho, rfl⟩ F.entry_tuple_mul (F.args_tuple_mul_2 _ _) (tuple_mul0 l its.toArray n dd sl k t c0 c1' c2) ⟨ho, ?_⟩⟩)
      have e0 : k.toNat = 0 := by omega
      have q := q2 hne hk _ (I.hok.fresh (Nat.le_refl _))
      rw [e0] at q
      refine ⟨.ref s.heap.objs.size, _, I.laid (t' := s.toks) (o := .tup []) (fun b ob q => Heap.get?_push_of_some _ q) (Nat.le_refl _) ?_, rfl, q⟩
      exact ⟨by rw [sizeLine_eq]; exact Nat.zero_le _, [], .nil, IsTup.new _ _⟩
theorem foldl_app (x : List Nat) : ∀ (n : Nat) (a : Array Nat), (List.replicate n x.toArray).foldl (· ++ ·) a = a ++ ((List.replicate n x).flatten).toArray
  | 0, a => by simp
  | n + 1, a => by
    rw [List.replicate_succ, List.foldl_cons, foldl_app x n, List.replicate_succ, List.flatten_cons]
    simp
theorem txt_mul (x : List Nat) (n : Int) : Txt.mul ⟨x.toArray⟩ n = ⟨((List.replicate n.toNat x).flatten).toArray⟩ := by
  unfold Txt.mul
  split
  · rename_i h
    have : n.toNat = 0 := by omega
    rw [this]; rfl
  · rename_i h
    split
    · rename_i h2
      simp only [Bool.or_eq_true, beq_iff_eq] at h2
      rcases h2 with h2 | h2
      · subst h2; simp
      · have : x = [] := by
          have : x.length = 0 := by simpa [Str.length] using h2
          exact List.eq_nil_of_length_eq_zero this
        subst this
        simp
    · congr 1
      have := foldl_app x n.toNat #[]
      simpa using this
theorem opMulS : OpR X (binaryOp .Mult) (fun x y H Q => ∃ (z : List Nat) (n : Int), x = .str ⟨z.toArray⟩ ∧ y = .int n ∧ (-(2 ^ 63) ≤ n ∧ n < 2 ^ 63 ∧ z.length * n.toNat ≤ szL) ∧ Q (.str ⟨((List.replicate n.toNat z).flatten).toArray⟩) H) := by
  intro pins s σ H x y v u Q I rx ry h
  obtain ⟨z, n, rfl, rfl, ⟨h1, h2, h3⟩, q⟩ := h
  obtain ⟨t, rfl⟩ := rx
  obtain ⟨t', rfl⟩ := ry
  have hl : (⟨z.toArray⟩ : Str).length = z.length := by simp [Str.length]
  refine SB.mul ⟨?_, fun h4 h5 => ?_, fun h4 h5 => ?_⟩ fun t' k => ?_
  · rw [decide_eq_false (by omega), decide_eq_false (by omega)]; rfl
  · rw [hl]
    have h6 : z.length * n.toNat ≤ 16777216 := h3
    have h7 : (z.length : Int) * n ≤ 16777216 := by
      have e : n = (n.toNat : Int) := by omega
      rw [e]
      have h9 := Int.ofNat_le.mpr h6
      rw [Int.natCast_mul] at h9
      omega
    have h8 : (z.length : Int) ≤ (2 ^ 63 - 1) / n := by
      rw [Int.le_ediv_iff_mul_le (by omega)]
      omega
    omega
  · rw [hl]
    unfold Builtin.Str.tooLong
    rw [← szL_eq]
    exact decide_eq_false (by omega)
  · rw [txt_mul]
    exact ⟨.str _, H, I.tok _, ⟨_, rfl⟩, q⟩
theorem opMul : OpR X (binaryOp .Mult) (rP2 X.K X.mg mulSem) := by
  intro pins s σ H x y v u Q I rx ry h
  obtain ⟨G, c, d, r, hc, hd, e, q⟩ := h
  unfold mulSem at e
  split at e
  · rename_i i j
    cases hc.int; cases hd.int
    split at e <;> cases e
    rename_i hz
    rw [Bool.and_eq_true] at hz
    have h1 := big_log hz.1
    have h2 := big_log hz.2
    refine L2.op_mulW pins s σ H _ _ v u Q I rx ry ⟨i, j, rfl, rfl, ?_, q _ _ (.same (.int _))⟩
    show i.natAbs.log2 + j.natAbs.log2 < 1000000
    omega
  · obtain ⟨a, xs, rfl, h1, p1⟩ := hc.lst
    cases hd.int
    split at e <;> cases e
    rename_i hz
    simp only [small63, Bool.and_eq_true, decide_eq_true_eq] at hz
    exact L2.op_rep pins s σ H _ _ v u Q I rx ry ⟨a, _, xs, rfl, rfl, h1, hz.1.1, hz.1.2, by rw [← p1.length, ← szL_eq]; exact hz.2, fun p hp => q _ _ (.lst hp (p1.replicate _))⟩
  · cases hc.str
    cases hd.int
    split at e <;> cases e
    rename_i hz
    simp only [small63, Bool.and_eq_true, decide_eq_true_eq] at hz
    exact opMulS pins s σ H _ _ v u Q I rx ry ⟨_, _, rfl, rfl, ⟨hz.1.1, hz.1.2, hz.2⟩, q _ _ (.same (.str _))⟩
  · rename_i ps j
    obtain ⟨a, xs, rfl, h1, p1⟩ := hc.tup
    cases hd.int
    split at e <;> cases e
    rename_i hz
    simp only [Bool.and_eq_true, decide_eq_true_eq] at hz
    refine opRepT pins s σ H _ _ v u Q I rx ry ⟨a, j, xs, rfl, rfl, h1, hz.1.1, hz.1.2, by rw [← p1.length]; exact hz.2, fun z => ?_, fun _ _ p hp => q _ _ (.tup hp (p1.replicate _))⟩
    have e1 : (List.replicate j.toNat ps).flatten = ps := by
      rcases z with z | z
      · subst z; cases p1
        simp
      · subst z; simp
    rw [e1] at q
    exact q _ _ (.same (.tup h1 p1))
  · cases e

/-! comparisons -/
theorem opEq (hu : X.A.units + 64 < cLine) : OpR X (compareOp .Eq) (rP2 X.K X.mg eqSem) := by
  intro pins s σ H x y v u Q I rx ry h
  obtain ⟨G, c, d, r, hc, hd, e, q⟩ := h
  unfold eqSem at e
  split at e <;> cases e
  rename_i hz
  rw [Bool.and_eq_true] at hz
  obtain ⟨d1, s1, n1, e1⟩ := hc.dp hz.1
  obtain ⟨d2, s2, n2, e2⟩ := hd.dp hz.2
  refine L2.op_eqD hu pins s σ H _ _ v u Q I rx ry ⟨_, _, d1, d2, s1, s2, ?_⟩
  rw [eqv_pd c d e1 e2]
  exact q _ _ (.same (.bl _))
theorem opNe (hu : X.A.units + 64 < cLine) : OpR X (compareOp .NotEq) (rP2 X.K X.mg neSem) := by
  intro pins s σ H x y v u Q I rx ry h
  obtain ⟨G, c, d, r, hc, hd, e, q⟩ := h
  unfold neSem at e
  split at e <;> cases e
  rename_i hz
  rw [Bool.and_eq_true] at hz
  obtain ⟨d1, s1, n1, e1⟩ := hc.dp hz.1
  obtain ⟨d2, s2, n2, e2⟩ := hd.dp hz.2
  refine L2.op_neD hu pins s σ H _ _ v u Q I rx ry ⟨_, _, d1, d2, s1, s2, ?_⟩
  rw [eqv_pd c d e1 e2]
  exact q _ _ (.same (.bl _))
theorem opOrd {op : CmpOp} {f : Int → Int → Bool} (h : OpR X (compareOp op) (L2.rI0 fun i j => .bl (f i j))) : OpR X (compareOp op) (rP2 X.K X.mg (ordSem f)) := by
  intro pins s σ H x y v u Q I rx ry h'
  obtain ⟨G, c, d, r, hc, hd, e, q⟩ := h'
  unfold ordSem at e
  split at e
  · cases hc.int; cases hd.int; cases e
    exact h pins s σ H _ _ v u Q I rx ry ⟨_, _, rfl, rfl, q _ _ (.same (.bl _))⟩
  · cases e
theorem flat_V {K : PySem.W.Frag} {mg : Str → Option Value} {G : Gh} {H : Hp} {c : PV} {x : V} (h : PVR K mg G H c x) (f : c.flat = true) : L2.flatV x = true := by
  cases h <;> first | rfl | (exact absurd (show false = true from f) Bool.false_ne_true)
theorem flat_Vs {K : PySem.W.Frag} {mg : Str → Option Value} {G : Gh} {H : Hp} : ∀ {cs : List PV} {xs : List V}, PVRs K mg G H cs xs → cs.all PV.flat = true → xs.all L2.flatV = true
  | _, _, .nil, _ => rfl
  | _, _, .cons h t, f => by
    rw [List.all_cons, Bool.and_eq_true] at f ⊢
    exact ⟨flat_V h f.1, flat_Vs t f.2⟩
theorem eqV_pv {K : PySem.W.Frag} {mg : Str → Option Value} {G : Gh} {H : Hp} {c d : PV} {x y : V} (h : PVR K mg G H c x) (h' : PVR K mg G H d y) (f : c.flat = true) (f' : d.flat = true) : L2.eqV x y = c.eqv d := by
  cases h <;> first
    | (exact absurd (show false = true from f) Bool.false_ne_true)
    | (cases h' <;> first
        | (exact absurd (show false = true from f') Bool.false_ne_true)
        | (simp only [L2.eqV, PV.eqv]; done)
        | (simp only [L2.eqV, PV.eqv]; exact str_beq _ _))
theorem any_eqV {K : PySem.W.Frag} {mg : Str → Option Value} {G : Gh} {H : Hp} {c : PV} {x : V} (h : PVR K mg G H c x) (f : c.flat = true) : ∀ {cs : List PV} {xs : List V}, PVRs K mg G H cs xs → cs.all PV.flat = true → L2.inV x xs = cs.any fun y => y.eqv c
  | _, _, .nil, _ => rfl
  | _, _, .cons (x := c') (v := x') h' t, f' => by
    rw [List.all_cons, Bool.and_eq_true] at f'
    unfold L2.inV
    rw [List.any_cons, List.any_cons, eqV_pv h' h f'.1 f]
    exact congrArg _ (any_eqV h f t f'.2)
theorem CnR.flatP {K : PySem.W.Frag} {mg : Str → Option Value} {G : Gh} {H : Hp} {c : PV} {x : V} (h : CnR K mg G H c x) (f : c.flat = true) : PVR K mg G H c x := by
  rcases h with h | ⟨_, _, ob⟩
  · exact h
  · cases c <;> first | exact ob.elim | (exact absurd (show false = true from f) Bool.false_ne_true)
theorem op_in_dct {neg : Bool} (hu : X.A.units + 1 < cLine) {pins : List (Addr × Obj)} {s : Shared} {σ : L2.St} {H : Hp} {x y : V} {v u : Value} {Q : L2.VK} (I : Inv X pins σ H s) (rx : L2.RelV x v) (ry : L2.RelV y u) {G : Gh} {c : PV} {ks : List Key} {vs : List PV} {q : Key} (hc : CnR X.K X.mg G H c x) (hd : CnR X.K X.mg G H (.dct ks vs) y) (e : keyPV c = some q)
    (h : Q (.bl (if neg = true then !(ks.any fun k => decide (k = q)) else ks.any fun k => decide (k = q))) H) :
    wpAny (model X.prog X.w) X.A (if neg = true then compareOp .NotIn v u else compareOp .In v u) (L2.EP X pins σ Q) X.xe s := by
  obtain ⟨a, kvs, rfl, h1, h2, h3⟩ := hd.dct
  obtain rfl : u = Value.ref a := ry
  have ek := hc.key e
  subst ek
  have lk := (lk_ok (q := q) h2 h3).2
  cases neg with
  | false => exact L2.d_in hu I (dget_k h1) rx fun s' I' => ⟨_, H, I', by rw [lk]; rfl, h⟩
  | true => exact L2.d_notIn hu I (dget_k h1) rx fun s' I' => ⟨_, H, I', by rw [lk]; rfl, h⟩
theorem isin_in {x y : V} {H : Hp} {neg : Bool} {G : Gh} {c d : PV} {b : Bool} {Q : L2.VK} (hc : CnR X.K X.mg G H c x) (hd : CnR X.K X.mg G H d y) (e : isinB c d = some b) (q : Q (.bl (if neg = true then !b else b)) H) :
    (∃ ks vs k, d = .dct ks vs ∧ keyPV c = some k ∧ b = ks.any fun j => decide (j = k)) ∨ L2.rIn X.K neg x y H Q ∨ (∃ (c : Nat) (z : Str), x = .str ⟨#[c]⟩ ∧ y = .str z ∧ Q (.bl (if neg = true then !decide (c ∈ z.cps.toList) else decide (c ∈ z.cps.toList))) H) := by
  unfold isinB at e
  split at e
  · obtain ⟨k, ek, rfl⟩ := Option.map_eq_some_iff.mp e
    exact .inl ⟨_, _, k, rfl, ek, rfl⟩
  · obtain ⟨a, xs, rfl, h1, p1⟩ := hd.tup
    split at e <;> cases e
    rename_i hz
    rw [Bool.and_eq_true] at hz
    have hp := hc.flatP hz.1
    refine .inr (.inl ⟨a, xs, rfl, .inr h1, flat_V hp hz.1, flat_Vs p1 hz.2, ?_⟩)
    rw [any_eqV hp hz.1 p1 hz.2]
    exact q
  · obtain ⟨a, xs, rfl, h1, p1⟩ := hd.lst
    split at e <;> cases e
    rename_i hz
    rw [Bool.and_eq_true] at hz
    have hp := hc.flatP hz.1
    refine .inr (.inl ⟨a, xs, rfl, .inl (.of h1), flat_V hp hz.1, flat_Vs p1 hz.2, ?_⟩)
    rw [any_eqV hp hz.1 p1 hz.2]
    exact q
  · cases hd.str
    split at e <;> cases e
    rename_i z cc
    cases hc.str
    refine .inr (.inr ⟨cc, _, rfl, rfl, ?_⟩)
    simpa using q
  · cases e
theorem opIn (hu : X.A.units + 64 < cLine) : OpR X (compareOp .In) (rP2 X.K X.mg fun x y => (isinB x y).map fun b => .sh (.bl b)) := by
  intro pins s σ H x y v u Q I rx ry h
  obtain ⟨G, c, d, r, hc, hd, e, q⟩ := h
  obtain ⟨b, e', rfl⟩ := Option.map_eq_some_iff.mp e
  rcases isin_in (neg := false) hc hd e' (q _ _ (.same (.bl _))) with ⟨ks, vs, k, rfl, ek, rfl⟩ | h | ⟨c, z, e1, e2, q⟩
  · exact op_in_dct (neg := false) (by omega) I rx ry hc hd ek (q _ _ (.same (.bl _)))
  · exact L2.op_in_seq pins s σ H _ _ v u Q I rx ry h
  · exact L2.op_in_sign pins s σ H _ _ v u Q I rx ry ⟨c, z, e1, e2, q⟩
theorem opNotIn (hu : X.A.units + 64 < cLine) : OpR X (compareOp .NotIn) (rP2 X.K X.mg fun x y => (isinB x y).map fun b => .sh (.bl (!b))) := by
  intro pins s σ H x y v u Q I rx ry h
  obtain ⟨G, c, d, r, hc, hd, e, q⟩ := h
  obtain ⟨b, e', rfl⟩ := Option.map_eq_some_iff.mp e
  rcases isin_in (neg := true) hc hd e' (q _ _ (.same (.bl _))) with ⟨ks, vs, k, rfl, ek, rfl⟩ | h | ⟨c, z, e1, e2, q⟩
  · exact op_in_dct (neg := true) (by omega) I rx ry hc hd ek (q _ _ (.same (.bl _)))
  · exact L2.op_notIn_seq pins s σ H _ _ v u Q I rx ry h
  · exact L2.op_notIn_sign pins s σ H _ _ v u Q I rx ry ⟨c, z, e1, e2, q⟩
theorem isNon_V {G : Gh} {H : Hp} {c : PV} {x : V} (h : CnR X.K X.mg G H c x) : decide (x = .non) = isNon c := by
  rcases h with h | ⟨a, rfl, ob⟩
  · cases h <;> rfl
  · cases c <;> first | exact ob.elim | rfl

/-! subscripts, slices -/
theorem atI_map {α β : Type} {f : α → β} {xs : List α} {i : Int} : L2.atI (xs.map f) i = (L2.atI xs i).map f := by
  unfold L2.atI
  rw [List.length_map]
  cases L2.ixN xs.length i with
  | none => rfl
  | some k => simp
theorem atI_pv {K : PySem.W.Frag} {mg : Str → Option Value} {G : Gh} {H : Hp} {cs : List PV} {xs : List V} {i : Int} {c : PV} (p : PVRs K mg G H cs xs) (e : L2.atI cs i = some c) : ∃ x, L2.atI xs i = some x ∧ PVR K mg G H c x := by
  unfold L2.atI at e ⊢
  rw [← p.length]
  cases q : L2.ixN cs.length i with
  | none => rw [q] at e; cases e
  | some k =>
    rw [q] at e
    exact p.get e
theorem ixAny (hu : X.A.units + 1 < cLine) : IxR X (rP2 X.K X.mg idxSem) := by
  intro value slice pins s σ H x y v u Q I rx ry h hs
  obtain ⟨G, c, d, r, hc, hd, e, q⟩ := h
  unfold idxSem at e
  split at e
  · obtain ⟨a, kvs, rfl, h1, h2, h3⟩ := hc.dct
    split at e
    · rename_i k hk
      obtain ⟨c, e', rfl⟩ := Option.map_eq_some_iff.mp e
      obtain ⟨z, e1, p⟩ := (lk_ok (q := k) h2 h3).1 c e'
      have ek := hd.key hk
      subst ek
      obtain rfl : v = Value.ref a := rx
      have g : L2.DGet H a (L2.kV k) (some z) := by rw [← e1]; exact dget_k h1
      exact tail_any (L2.dict_typeIs I g) slot_dict_getitem.lookup (L2.d_getItem hu I g ry fun w' s' I' r' => ⟨_, H, I', r', q _ _ (.same p)⟩) hs
    · cases e
  · obtain ⟨a, xs, rfl, h1, p1⟩ := hc.lst
    cases hd.int
    obtain ⟨c, e', rfl⟩ := Option.map_eq_some_iff.mp e
    obtain ⟨x, e1, p⟩ := atI_pv p1 e'
    exact L2.ix_list value slice pins s σ H _ _ v u Q I rx ry ⟨a, xs, _, x, rfl, rfl, .of h1, e1, q _ _ (.same p)⟩ hs
  · obtain ⟨a, xs, rfl, h1, p1⟩ := hc.tup
    cases hd.int
    obtain ⟨c, e', rfl⟩ := Option.map_eq_some_iff.mp e
    obtain ⟨x, e1, p⟩ := atI_pv p1 e'
    exact L2.ix_tup value slice pins s σ H _ _ v u Q I rx ry ⟨a, xs, _, x, rfl, rfl, h1, e1, q _ _ (.same p)⟩ hs
  · obtain ⟨a, xs, rfl, h1, p1⟩ := hc.rol
    cases hd.int
    obtain ⟨c, e', rfl⟩ := Option.map_eq_some_iff.mp e
    obtain ⟨x, e1, p⟩ := atI_pv p1 e'
    exact L2.ix_list value slice pins s σ H _ _ v u Q I rx ry ⟨a, xs, _, x, rfl, rfl, h1.sq, e1, q _ _ (.same p)⟩ hs
  · cases hc.str; cases hd.int
    split at e
    · rename_i hz
      obtain ⟨c, e', rfl⟩ := Option.map_eq_some_iff.mp e
      exact L2.ix_str value slice pins s σ H _ _ v u Q I rx ry ⟨_, _, c, rfl, rfl, by rw [str_len, ← szL_eq]; exact hz, by simpa using e', q _ _ (.same (.str [c]))⟩ hs
    · cases e
  · cases e
def rSl (K : PySem.W.Frag) (mg : Str → Option Value) : V → Option Int → Option Int → Hp → L2.VK → Prop := fun x l h H Q => ∃ G c r, CnR K mg G H c x ∧ slSem l h c = some r ∧ ∀ z H', Out K mg G H r z H' → Q z H'
theorem slAny : L2.SlR X (rSl X.K X.mg) := by
  intro pins s σ H x v vl vu lo hi sl Q I rx hs pl pu h
  obtain ⟨G, c, r, hc, e, q⟩ := h
  unfold slSem at e
  split at e
  · cases e
    obtain ⟨a, xs, rfl, h1, p1⟩ := hc.lst
    refine L2.sl_list pins s σ H _ v vl vu lo hi sl Q I rx hs pl pu ⟨a, xs, rfl, .of h1, fun p hp => q _ _ (.lst hp ?_)⟩
    unfold cutL
    rw [p1.length]
    exact (p1.drop _).take _
  · rename_i ps
    cases e
    obtain ⟨a, xs, rfl, h1, p1⟩ := hc.tup
    refine L2.sl_tupA pins s σ H _ v vl vu lo hi sl Q I rx hs pl pu ⟨a, xs, rfl, h1, fun z => ?_, fun z p hp => q _ _ (.tup hp ?_)⟩
    · have e1 : cutL ps lo hi = ps := by
        unfold cutL
        rw [p1.length, z.1, z.2, ← p1.length]
        simp
      rw [e1] at q
      exact q _ _ (.same (.tup h1 p1))
    · unfold cutL
      rw [p1.length]
      exact (p1.drop _).take _
  · cases hc.str
    split at e <;> cases e
    rename_i y hz
    refine L2.sl_str pins s σ H _ v vl vu lo hi sl Q I rx hs pl pu ⟨_, rfl, by rw [str_len, ← szL_eq]; exact hz, ?_⟩
    have e1 : L2.cutS ⟨y.toArray⟩ lo hi = ⟨(cutL y lo hi).toArray⟩ := by
      unfold L2.cutS cutL
      rw [str_len]
    rw [e1]
    exact q _ _ (.same (.str _))
  · cases e

/-! calls of what is built in -/
theorem PVRs.bools {K : PySem.W.Frag} {mg : Str → Option Value} {G : Gh} {H : Hp} : ∀ {cs : List PV} {xs : List V} {bs : List Bool}, PVRs K mg G H cs xs → bools cs = some bs → xs = bs.map V.bl
  | [], _, bs, .nil, e => by cases e; rfl
  | c :: cs, _, bs, .cons h t, e => by
    cases c with
    | bl b =>
      simp only [TP.bools, Option.map_eq_some_iff] at e
      obtain ⟨bs', e, rfl⟩ := e
      cases h
      rw [PVRs.bools t e]; rfl
    | _ => cases e
theorem PVRs.ints {K : PySem.W.Frag} {mg : Str → Option Value} {G : Gh} {H : Hp} : ∀ {cs : List PV} {xs : List V} {ns : List Int}, PVRs K mg G H cs xs → intsL cs = some ns → xs = ns.map V.int
  | [], _, bs, .nil, e => by cases e; rfl
  | c :: cs, _, bs, .cons h t, e => by
    cases c with
    | int b =>
      simp only [intsL, Option.map_eq_some_iff] at e
      obtain ⟨bs', e, rfl⟩ := e
      cases h
      rw [PVRs.ints t e]; rfl
    | _ => cases e
theorem callLen : CallR X (.builtin "len") (rC1 X.K X.mg lenSem) := by
  intro pins s σ H xs us Q I rx h
  obtain ⟨x, rfl, G, c, r, hc, e, q⟩ := h
  unfold lenSem at e
  split at e
  · cases e
    obtain ⟨a, kvs, rfl, h1, h2, h3⟩ := hc.dct
    obtain ⟨u, us', ru, rn, rfl⟩ : ∃ u us', L2.RelV (.ref a) u ∧ us' = [] ∧ us = u :: us' := by
      cases rx with
      | cons r t => cases t; exact ⟨_, _, r, rfl, rfl⟩
    subst rn
    obtain rfl : u = Value.ref a := ru
    refine L2.d_len I h1 fun t s' I' => ⟨.int kvs.length, H, I', ⟨t, rfl⟩, ?_⟩
    have el := congrArg List.length h2
    rw [List.length_map] at el
    rw [el]
    exact q _ _ (.same (.int _))
  · cases e
    obtain ⟨a, ys, rfl, h1, p1⟩ := hc.lst
    exact L2.call_len pins s σ H _ us Q I rx ⟨_, _, rfl, .inl ⟨ys, .of h1, p1.length⟩, q _ _ (.same (.int _))⟩
  · cases e
    obtain ⟨a, ys, rfl, h1, p1⟩ := hc.tup
    exact L2.call_len pins s σ H _ us Q I rx ⟨_, _, rfl, .inr ⟨ys, h1, p1.length⟩, q _ _ (.same (.int _))⟩
  · cases e
    obtain ⟨a, ys, rfl, h1, p1⟩ := hc.rol
    exact L2.call_len pins s σ H _ us Q I rx ⟨_, _, rfl, .inl ⟨ys, h1.sq, p1.length⟩, q _ _ (.same (.int _))⟩
  · cases hc.str
    split at e <;> cases e
    rename_i hz
    exact L2.call_len pins s σ H _ us Q I rx ⟨_, _, rfl, ⟨by rw [str_len, ← szL_eq]; exact hz, (str_len _).symm⟩, q _ _ (.same (.int _))⟩
  · cases e
theorem callAbs : CallR X (.builtin "abs") (rC1 X.K X.mg absSem) := by
  intro pins s σ H xs us Q I rx h
  obtain ⟨x, rfl, G, c, r, hc, e, q⟩ := h
  unfold absSem at e
  split at e
  · cases hc.int; cases e
    exact L2.call_abs pins s σ H _ us Q I rx ⟨_, rfl, q _ _ (.same (.int _))⟩
  · cases e
theorem callToInt : CallR X (.type "int") (rC1 X.K X.mg toIntSem) := by
  intro pins s σ H xs us Q I rx h
  obtain ⟨x, rfl, G, c, r, hc, e, q⟩ := h
  unfold toIntSem at e
  split at e
  · cases hc.int; cases e
    exact L2.call_int1 pins s σ H _ us Q I rx (.inl ⟨_, rfl, q _ _ (.same (.int _))⟩)
  · cases hc.bl; cases e
    exact L2.call_int1 pins s σ H _ us Q I rx (.inr ⟨_, rfl, q _ _ (.same (.int _))⟩)
  · cases hc.str
    split at e
    · rename_i hz
      obtain ⟨n, en, rfl⟩ := Option.map_eq_some_iff.mp e
      exact L2.call_int_str pins s σ H _ us Q I rx ⟨_, n, rfl, en, by rw [str_len]; exact hz, q _ _ (.same (.int _))⟩
    · cases e
  · cases e
theorem callToTup : CallR X (.type "tuple") (rC1 X.K X.mg toTupSem) := by
  intro pins s σ H xs us Q I rx h
  obtain ⟨x, rfl, G, c, r, hc, e, q⟩ := h
  unfold toTupSem at e
  split at e
  · cases e
    obtain ⟨a, ys, rfl, h1, p1⟩ := hc.lst
    exact L2.call_tuple_of pins s σ H _ us Q I rx ⟨_, _, rfl, .inl ⟨.of h1, fun p hp => q _ _ (.tup hp p1)⟩⟩
  · cases e
    obtain ⟨a, ys, rfl, h1, p1⟩ := hc.tup
    exact L2.call_tuple_of pins s σ H _ us Q I rx ⟨_, _, rfl, .inr ⟨h1, q _ _ (.same (.tup h1 p1))⟩⟩
  · cases e
theorem callToList : CallR X (.type "list") (rC1 X.K X.mg toListSem) := by
  intro pins s σ H xs us Q I rx h
  obtain ⟨x, rfl, G, c, r, hc, e, q⟩ := h
  unfold toListSem at e
  split at e
  · cases e
    obtain ⟨a, ys, rfl, h1, p1⟩ := hc.lst
    exact L2.call_list_of pins s σ H _ us Q I rx ⟨_, _, rfl, .inl (.of h1), fun p hp => q _ _ (.lst hp p1)⟩
  · cases e
    obtain ⟨a, ys, rfl, h1, p1⟩ := hc.tup
    exact L2.call_list_of pins s σ H _ us Q I rx ⟨_, _, rfl, .inr h1, fun p hp => q _ _ (.lst hp p1)⟩
  · cases e
    obtain ⟨a, ys, rfl, h1, p1⟩ := hc.rol
    exact L2.call_list_of pins s σ H _ us Q I rx ⟨_, _, rfl, .inl h1.sq, fun p hp => q _ _ (.lst hp p1)⟩
  · cases e
theorem callMin (hc : X.calm = true) : CallR X (.builtin "min") (rC2 X.K X.mg (mmSem fun i j => if j < i then j else i)) := by
  intro pins s σ H xs us Q I rx h
  obtain ⟨x, y, rfl, G, c, d, r, hc1, hd, e, q⟩ := h
  unfold mmSem at e
  split at e
  · cases hc1.int; cases hd.int; cases e
    exact L2.call_min2 hc pins s σ H _ us Q I rx ⟨_, _, rfl, q _ _ (.same (.int _))⟩
  · cases e
theorem callMax (hc : X.calm = true) : CallR X (.builtin "max") (rC2 X.K X.mg (mmSem fun i j => if j > i then j else i)) := by
  intro pins s σ H xs us Q I rx h
  obtain ⟨x, y, rfl, G, c, d, r, hc1, hd, e, q⟩ := h
  unfold mmSem at e
  split at e
  · cases hc1.int; cases hd.int; cases e
    exact L2.call_max2 hc pins s σ H _ us Q I rx ⟨_, _, rfl, q _ _ (.same (.int _))⟩
  · cases e
theorem callAll (hc : X.calm = true) : CallR X (.builtin "all") (rC1 X.K X.mg allSem) := by
  intro pins s σ H xs us Q I rx h
  obtain ⟨x, rfl, G, c, r, hc1, e, q⟩ := h
  unfold allSem at e
  split at e
  · obtain ⟨a, ys, rfl, h1, p1⟩ := hc1.lst
    obtain ⟨bs, e', rfl⟩ := Option.map_eq_some_iff.mp e
    have := p1.bools e'
    subst this
    exact L2.cr_all hc pins s σ H _ us Q I rx ⟨a, bs, rfl, .of h1, q _ _ (.same (.bl _))⟩
  · cases e
theorem callAny (hc : X.calm = true) : CallR X (.builtin "any") (rC1 X.K X.mg anySem) := by
  intro pins s σ H xs us Q I rx h
  obtain ⟨x, rfl, G, c, r, hc1, e, q⟩ := h
  unfold anySem at e
  split at e
  · obtain ⟨a, ys, rfl, h1, p1⟩ := hc1.lst
    obtain ⟨bs, e', rfl⟩ := Option.map_eq_some_iff.mp e
    have := p1.bools e'
    subst this
    exact L2.cr_any hc pins s σ H _ us Q I rx ⟨a, bs, rfl, .of h1, q _ _ (.same (.bl _))⟩
  · cases e
theorem callSum (hc : X.calm = true) : CallR X (.builtin "sum") (rC1 X.K X.mg sumSem) := by
  intro pins s σ H xs us Q I rx h
  obtain ⟨x, rfl, G, c, r, hc1, e, q⟩ := h
  unfold sumSem at e
  split at e
  · obtain ⟨a, ys, rfl, h1, p1⟩ := hc1.lst
    obtain ⟨bs, e', rfl⟩ := Option.map_eq_some_iff.mp e
    have := p1.ints e'
    subst this
    exact L2.cr_sum hc pins s σ H _ us Q I rx ⟨a, bs, rfl, .of h1, q _ _ (.same (.int _))⟩
  · cases e

/-! isinstance -/
theorem kit_tab : (["NoneType", "bool", "int", "str", "tuple", "list", "dict"].all fun a => ["int", "bool", "str", "tuple", "list", "dict"].all fun b => L2.kitB a b == some (tySub a b)) = true := by decide +kernel
theorem kit_of_known {a b : String} (ha : a ∈ ["NoneType", "bool", "int", "str", "tuple", "list", "dict"]) (hb : tyKnown b = true) : L2.kitB a b = some (tySub a b) := by
  have h1 := List.all_eq_true.mp kit_tab a ha
  have hb' : b ∈ ["int", "bool", "str", "tuple", "list", "dict"] := by
    simp only [tyKnown, Bool.or_eq_true, beq_iff_eq] at hb
    simp only [List.mem_cons, List.not_mem_nil, or_false]
    rcases hb with ((((h | h) | h) | h) | h) | h <;> simp [h]
  exact beq_iff_eq.mp (List.all_eq_true.mp h1 b hb')
theorem tyName_mem {c : PV} {a : String} (h : tyName c = some a) : a ∈ ["NoneType", "bool", "int", "str", "tuple", "list", "dict"] := by
  cases c <;> first | (cases h; done) | (simp only [tyName, Option.some.injEq] at h; subst h; decide)
theorem SqT.tyx {K : PySem.W.Frag} {H : Hp} {a : Addr} {xs : List V} (h : SqT K H a xs) : L2.TyX K H (.ref a) (.type "tuple") := by
  rcases h with (h | ⟨o, h⟩) | ⟨o, its, n, hk, hc, _⟩
  · exact .base (.tup h)
  · exact .fTuple h
  · exact .kTuple hk hc
theorem CnR.tyx {K : PySem.W.Frag} {mg : Str → Option Value} {G : Gh} {H : Hp} {c : PV} {x : V} {a : String} (h : CnR K mg G H c x) (e : tyName c = some a) : L2.TyX K H x (.type a) := by
  cases c with
  | non => cases h.non; cases e; exact .base .non
  | bl b => cases h.bl; cases e; exact .base (.bl b)
  | int i => cases h.int; cases e; exact .base (.int i)
  | str y => cases h.str; cases e; exact .base (.str _)
  | tup xs => obtain ⟨p, ys, rfl, h1, _⟩ := h.tup; cases e; exact SqT.tyx h1
  | lst xs => obtain ⟨p, ys, rfl, h1, _⟩ := h.lst; cases e; exact .base (.lst h1)
  | rol xs =>
    obtain ⟨p, ys, rfl, h1, _⟩ := h.rol
    cases e
    rcases h1 with ⟨o, h1⟩ | ⟨o, its, n, hk, hc, _⟩
    · exact .base (.frz h1)
    · exact .kList hk hc
  | _ => cases e
theorem tys_cls {K : PySem.W.Frag} {mg : Str → Option Value} {G : Gh} {H : Hp} : ∀ {ts : List PV} {xs : List V} {ns : List String}, PVRs K mg G H ts xs → tysOf ts = some ns → Paired L2.ClsV xs (ns.map Value.type) ∧ ∀ n ∈ ns, tyKnown n = true
  | [], _, ns, .nil, e => by cases e; exact ⟨.nil, fun _ h => by cases h⟩
  | c :: ts, _, ns, .cons h t, e => by
    cases c with
    | ty n =>
      simp only [tysOf] at e
      split at e
      · rename_i hk
        obtain ⟨ns', e', rfl⟩ := Option.map_eq_some_iff.mp e
        cases h
        obtain ⟨p1, p2⟩ := tys_cls t e'
        refine ⟨.cons (.ty n) p1, fun m hm => ?_⟩
        rcases List.mem_cons.mp hm with z | z
        · rw [z]; exact hk
        · exact p2 m z
      · cases e
    | _ => cases e
theorem kit_any {K : PySem.W.Frag} {a : String} (ha : a ∈ ["NoneType", "bool", "int", "str", "tuple", "list", "dict"]) : ∀ {ns : List String}, (∀ n ∈ ns, tyKnown n = true) → PySem.W.kitAny K (.type a) (ns.map Value.type) = some (ns.any (tySub a))
  | [], _ => rfl
  | n :: ns, h => by
    have h1 := kit_of_known ha (h n (List.mem_cons_self ..))
    have h2 := kit_any (K := K) ha (ns := ns) fun m hm => h m (List.mem_cons_of_mem _ hm)
    rw [List.map_cons, List.any_cons]
    refine L2.kitAny_cons (b := tySub a n) (L2.kit_ty h1) (fun z => by rw [z]; exact h2) (fun z => by rw [z]; rfl)
theorem callIsi : CallR X (.builtin "isinstance") (rC2 X.K X.mg isiSem) := by
  intro pins s σ H xs us Q I rx h
  obtain ⟨x, y, rfl, G, c, d, r, hc, hd, e, q⟩ := h
  unfold isiSem at e
  split at e
  · rename_i t
    cases hd.ty
    split at e
    · rename_i hk
      obtain ⟨a, e', rfl⟩ := Option.map_eq_some_iff.mp e
      exact L2.call_isi pins s σ H _ us Q I rx ⟨x, .ty t, .type a, .type t, _, rfl, .ty t, hc.tyx e', L2.kit_ty (kit_of_known (tyName_mem e') hk), q _ _ (.same (.bl _))⟩
    · cases e
  · rename_i ts
    obtain ⟨tp, cs, rfl, h1, p1⟩ := hd.tup
    split at e
    · rename_i ns ens
      obtain ⟨a, e', rfl⟩ := Option.map_eq_some_iff.mp e
      obtain ⟨q1, q2⟩ := tys_cls p1 ens
      obtain ⟨u1, u2, rfl, r1, r2⟩ := L2.vals2 rx
      cases (show u2 = Value.ref tp from r2)
      obtain ⟨P, Z, p, hx⟩ := L2.kit_of I r1 (hc.tyx e')
      obtain ⟨its, rv, ⟨o, g1, g2, n, g3⟩, _⟩ := I.tuple h1
      have e3 := L2.ClsV.all q1 rv
      subst e3
      obtain ⟨oc, od, dt, sl⟩ := o
      simp only at g2 g3
      subst g2 g3
      exact PySem.W.kia_tup Z I.kIn p g1 (kit_any (tyName_mem e') q2) hx fun tk => ⟨.bl _, H, I.tok tk, rfl, q _ _ (.same (.bl _))⟩
    · cases e
  · cases e
end
end TP

set_option Elab.async false
set_option linter.all false
set_option maxRecDepth 100000
set_option maxHeartbeats 4000000
/-! Sal3b: more operations. -/
namespace TP
open PySem PySem.Spec PyProof.Rows
open L2 (V Hp HO Key upd upd_same upd_ne SqL SqT Rd OpR UnR CallR IxR Vals Inv MtR)
/-! texts -/
section
variable {K : PySem.W.Frag} {mg : Str → Option Value} {G : Gh} {H : Hp}
theorem PVRs.strs : ∀ {cs : List PV} {xs : List V} {ys : List (List Nat)}, PVRs K mg G H cs xs → strsL cs = some ys → xs = (ys.map fun y => (⟨y.toArray⟩ : Str)).map V.str
  | _, _, _, .nil, e => by cases e; rfl
  | c :: cs, _, _, .cons h t, e => by
    cases c <;> simp only [strsL] at e <;> try cases e
    obtain ⟨ys, e', rfl⟩ := Option.map_eq_some_iff.mp e
    cases h
    rw [PVRs.strs t e']
    rfl
end
theorem strsL_map : ∀ xs : List (List Nat), strsL (xs.map .str) = some xs
  | [] => rfl
  | x :: xs => by simp only [List.map_cons, strsL, strsL_map xs, Option.map_some]
theorem map_len (ys : List (List Nat)) : (ys.map fun y => (⟨y.toArray⟩ : Str)).map (fun z => z.length) = ys.map List.length := by
  rw [List.map_map]
  refine List.map_congr_left fun y _ => ?_
  simp [Str.length]
theorem join_codes (s : List Nat) (ys : List (List Nat)) : Txt.join ⟨s.toArray⟩ (ys.map fun y => (⟨y.toArray⟩ : Str)) = ⟨(TL.joinL s ys).toArray⟩ := by
  rw [TL.join_eq]
  refine TL.ext_tl ?_
  rw [TL.tl_join, List.map_map]
  have : (ys.map (TL.tl ∘ fun y => (⟨y.toArray⟩ : Str))) = ys := by
    conv => rhs; rw [← List.map_id ys]
    exact List.map_congr_left fun y _ => rfl
  rw [this]
section
variable {X : L2.Cx}
def rM1 (K : PySem.W.Frag) (mg : Str → Option Value) (f : PV → PV → Option RV) : V → List V → Hp → L2.VK → Prop := fun x xs H Q => ∃ y, xs = [y] ∧ rP2 K mg f x y H Q
theorem mtJoin : MtR X "str.join" (rM1 X.K X.mg joinSem) := by
  intro pins s σ H x y v u Q I rx ry h
  obtain ⟨y', rfl, G, c, d, r, hc, hd, e, q⟩ := h
  unfold joinSem at e
  split at e
  · cases hc.str
    obtain ⟨a, ys, rfl, h1, p1⟩ := hd.lst
    split at e
    · rename_i ts et
      split at e <;> cases e
      rename_i hk
      have := p1.strs et
      subst this
      refine L2.mt_join pins s σ H _ _ v u Q I rx ry ⟨_, a, _, rfl, rfl, .inl (.of h1), ?_, ?_⟩
      · unfold joinOk at hk
        have hk := of_decide_eq_true hk
        rw [map_len, List.length_map, str_len]
        exact hk
      · rw [join_codes]
        exact q _ _ (.same (.str _))
    · cases e
  · cases hc.str
    obtain ⟨a, ys, rfl, h1, p1⟩ := hd.tup
    split at e
    · rename_i ts et
      split at e <;> cases e
      rename_i hk
      have := p1.strs et
      subst this
      refine L2.mt_join pins s σ H _ _ v u Q I rx ry ⟨_, a, _, rfl, rfl, .inr h1, ?_, ?_⟩
      · unfold joinOk at hk
        have hk := of_decide_eq_true hk
        rw [map_len, List.length_map, str_len]
        exact hk
      · rw [join_codes]
        exact q _ _ (.same (.str _))
    · cases e
  · cases e
theorem strs_pv {K : PySem.W.Frag} {mg : Str → Option Value} {G : Gh} {H : Hp} : ∀ ys : List Str, PVRs K mg G H ((ys.map TL.tl).map .str) (ys.map V.str)
  | [] => .nil
  | y :: ys => by
    refine .cons ?_ (strs_pv ys)
    have := PVR.str (K := K) (mg := mg) (G := G) (H := H) (TL.tl y)
    rw [TL.mk_tl] at this
    exact this
theorem mtSplit : MtR X "str.split" (rM1 X.K X.mg splitSem) := by
  intro pins s σ H x y v u Q I rx ry h
  obtain ⟨y', rfl, G, c, d, r, hc, hd, e, q⟩ := h
  unfold splitSem at e
  split at e
  · cases hc.str
    cases hd.str
    split at e <;> cases e
    rename_i hk
    refine L2.mt_split pins s σ H _ _ v u Q I rx ry ⟨_, _, rfl, rfl, rfl, ?_, fun p hp => ?_⟩
    · rw [str_len, ← szL_eq]; exact hk.1
    · rename_i x c
      have e1 := TL.split_spl ⟨x.toArray⟩ ⟨[c].toArray⟩ (by simp) (TL.kind_ok (by simp [hk.2]))
      have e2 : TL.spl [c] 0 [] x = (Txt.split ⟨x.toArray⟩ ⟨[c].toArray⟩).map TL.tl := e1.symm
      refine q _ _ (.lst hp ?_)
      rw [e2]
      exact strs_pv _
  · cases e
theorem starts_codes (x y : List Nat) : Txt.startswith ⟨x.toArray⟩ ⟨y.toArray⟩ = (x.take y.length == y) := by
  unfold Txt.startswith
  rw [PySem.StrLaws.subAt_eq, str_len, str_len, List.drop_zero]
  by_cases h : y.length ≤ x.length
  · rw [decide_eq_true (by omega), Bool.true_and]
  · rw [decide_eq_false (by omega), Bool.false_and]
    symm
    rw [beq_eq_false_iff_ne]
    intro z
    have := congrArg List.length z
    rw [List.length_take] at this
    omega
theorem mtStarts : MtR X "str.startswith" (rM1 X.K X.mg startsSem) := by
  intro pins s σ H x y v u Q I rx ry h
  obtain ⟨y', rfl, G, c, d, r, hc, hd, e, q⟩ := h
  unfold startsSem at e
  split at e
  · cases hc.str
    cases hd.str
    cases e
    refine L2.mt_startswith pins s σ H _ _ v u Q I rx ry ⟨_, _, rfl, rfl, ?_⟩
    rw [starts_codes]
    exact q _ _ (.same (.bl _))
  · cases e
theorem callToStr : CallR X (.type "str") (rC1 X.K X.mg toStrSem) := by
  intro pins s σ H xs us Q I rx h
  obtain ⟨x, rfl, G, c, r, hc, e, q⟩ := h
  unfold toStrSem at e
  split at e
  · split at e <;> cases e
    rename_i hz
    have hz := of_decide_eq_true hz
    cases hc.int
    refine L2.call_str_int pins s σ H _ us Q I rx ⟨_, rfl, ?_, ?_⟩
    · exact Nat.lt_of_lt_of_le (PySem.Flt.log2_lt_of (by decide) hz) (by decide)
    · have := q _ _ (.same (.str _))
      rw [show (⟨(toString _ : Str).cps.toList.toArray⟩ : Str) = (toString _ : Str) from TL.mk_tl _] at this
      exact this
  · cases e
    cases hc.str
    exact SkE.call_str_str pins s σ H _ us Q I rx ⟨_, rfl, q _ _ (.same (.str _))⟩
  · cases e
/-! the greatest, the least, in order -/
theorem maxI_spec : ∀ (ns : List Int) (n : Int), maxI n ns ∈ n :: ns ∧ ∀ y ∈ n :: ns, y ≤ maxI n ns
  | [], n => ⟨by simp [maxI], by simp [maxI]⟩
  | x :: r, n => by
    simp only [maxI]
    obtain ⟨m, hm, k1, k2, k3⟩ : ∃ m, (if n < x then x else n) = m ∧ x ≤ m ∧ n ≤ m ∧ (m = x ∨ m = n) := ⟨_, rfl, by split <;> omega, by split <;> omega, by split <;> simp⟩
    rw [hm]
    obtain ⟨h1, h2⟩ := maxI_spec r m
    have h3 := h2 _ (List.mem_cons_self ..)
    refine ⟨?_, fun y hy => ?_⟩
    · rcases List.mem_cons.mp h1 with h | h
      · rw [h]
        rcases k3 with z | z <;> (rw [z]; simp)
      · simp [h]
    · rcases List.mem_cons.mp hy with h | h
      · omega
      · rcases List.mem_cons.mp h with h | h
        · omega
        · exact h2 y (List.mem_cons_of_mem _ h)
theorem minI_spec : ∀ (ns : List Int) (n : Int), minI n ns ∈ n :: ns ∧ ∀ y ∈ n :: ns, minI n ns ≤ y
  | [], n => ⟨by simp [minI], by simp [minI]⟩
  | x :: r, n => by
    simp only [minI]
    obtain ⟨m, hm, k1, k2, k3⟩ : ∃ m, (if x < n then x else n) = m ∧ m ≤ x ∧ m ≤ n ∧ (m = x ∨ m = n) := ⟨_, rfl, by split <;> omega, by split <;> omega, by split <;> simp⟩
    rw [hm]
    obtain ⟨h1, h2⟩ := minI_spec r m
    have h3 := h2 _ (List.mem_cons_self ..)
    refine ⟨?_, fun y hy => ?_⟩
    · rcases List.mem_cons.mp h1 with h | h
      · rw [h]
        rcases k3 with z | z <;> (rw [z]; simp)
      · simp [h]
    · rcases List.mem_cons.mp hy with h | h
      · omega
      · rcases List.mem_cons.mp h with h | h
        · omega
        · exact h2 y (List.mem_cons_of_mem _ h)
theorem callMaxL (hc : X.calm = true) : CallR X (.builtin "max") (rC1 X.K X.mg maxLSem) := by
  intro pins s σ H xs us Q I rx h
  obtain ⟨x, rfl, G, c, r, hc1, e, q⟩ := h
  unfold maxLSem at e
  split at e
  · obtain ⟨a, ys, rfl, h1, p1⟩ := hc1.lst
    split at e <;> cases e
    rename_i n ns e'
    have := p1.ints e'
    subst this
    refine L2.cr_max hc pins s σ H _ us Q I rx ⟨a, n :: ns, rfl, .of h1, by simp, fun m hm hle => ?_⟩
    obtain ⟨h3, h4⟩ := maxI_spec ns n
    have : m = maxI n ns := Int.le_antisymm (h4 m hm) (hle _ h3)
    subst this
    exact q _ _ (.same (.int _))
  · cases e
theorem maxOf_int : ∀ (ns : List Int) (n : Int), PySem.W.maxOf n ns = maxI n ns
  | [], n => rfl
  | x :: r, n => by
    unfold PySem.W.maxOf
    rw [List.foldl_cons]
    show List.foldl _ (if decide (n < x) = true then x else n) r = _
    rw [show (if decide (n < x) = true then x else n) = (if n < x then x else n) from by simp only [decide_eq_true_eq]]
    exact maxOf_int r _
def rMaxDef (K : PySem.W.Frag) (mg : Str → Option Value) : List V → List V → Hp → L2.VK → Prop := fun xs zs H Q => ∃ x y, xs = [x] ∧ zs = [y] ∧ rP2 K mg maxDSem x y H Q
theorem callMaxDef (hc : X.calm = true) (hu : X.A.units + 1 < cLine) : L2.CallRK X (.builtin "max") [Str.ofString "default"] (rMaxDef X.K X.mg) := by
  intro pins s σ H xs zs us ws Q I rx rz h
  obtain ⟨x, y, rfl, rfl, G, c, d, r, hc1, hd1, e, q⟩ := h
  unfold maxDSem at e
  split at e
  · obtain ⟨a, ys, rfl, h1, p1⟩ := hc1.lst
    cases hd1.int
    rename_i dI
    have ew : ∃ t, ws = [.int dI t] := by
      cases rz with
      | cons r0 t0 =>
        cases t0
        obtain ⟨t, rfl⟩ := r0
        exact ⟨t, rfl⟩
    obtain ⟨td, rfl⟩ := ew
    rw [L2.Vals.ref1 rx]
    obtain ⟨its, rv, hl, _⟩ := I.list (.of h1)
    have key : ∀ ns : List Int, intsL _ = some ns → wpAny (model X.prog X.w) X.A (call (.builtin "max") [.ref a] [(Str.ofString "default", .int dI td)]) (fun v s' => ∃ h' tk, (∀ b o, s.heap.get? b = some o → h'.get? b = some o) ∧ s' = { s with heap := h', toks := tk } ∧ ∃ t, v = .int (match ns with | [] => dI | n :: r => maxI n r) t) X.xe s := fun ns e' => by
      have := p1.ints e'
      subst this
      refine PySem.W.max_list_datum_default (xs := ns) (I.ok.hd hc) hl.isList (PySem.W.HoldAll.of_ints (by simpa using rv.ints)) hu (fun e0 h' tk hk => ⟨h', tk, hk, rfl, td, by rw [e0]⟩) fun n r i v h' tk e0 _ hv hk => ?_
      obtain ⟨t, rfl⟩ := PySem.W.int_of_holds hv
      exact ⟨h', tk, hk, rfl, t, by rw [e0, maxOf_int]⟩
    cases e' : intsL _ with
    | none => rw [e'] at e; cases e
    | some ns =>
      rw [e'] at e
      refine L2.thn (key ns e') fun v s' ⟨h', tk, hk, es, t, ev⟩ => ?_
      subst es ev
      refine ⟨.int _, H, I.kept hk, ⟨t, rfl⟩, ?_⟩
      cases ns with
      | nil => cases e; exact q _ _ (.same (.int _))
      | cons n r => cases e; exact q _ _ (.same (.int _))
  · cases e
theorem callMinL (hc : X.calm = true) : CallR X (.builtin "min") (rC1 X.K X.mg minLSem) := by
  intro pins s σ H xs us Q I rx h
  obtain ⟨x, rfl, G, c, r, hc1, e, q⟩ := h
  unfold minLSem at e
  split at e
  · obtain ⟨a, ys, rfl, h1, p1⟩ := hc1.lst
    split at e <;> cases e
    rename_i n ns e'
    have := p1.ints e'
    subst this
    refine L2.cr_min hc pins s σ H _ us Q I rx ⟨a, n :: ns, rfl, .of h1, by simp, fun m hm hle => ?_⟩
    obtain ⟨h3, h4⟩ := minI_spec ns n
    have : m = minI n ns := Int.le_antisymm (hle _ h3) (h4 m hm)
    subst this
    exact q _ _ (.same (.int _))
  · cases e
theorem perm_sorted_eq {α : Type} {le : α → α → Prop} (anti : ∀ a b, le a b → le b a → a = b) : ∀ {xs ys : List α}, xs.Perm ys → xs.Pairwise le → ys.Pairwise le → xs = ys
  | [], ys, p, _, _ => (List.nil_perm.mp p).symm
  | x :: xs, [], p, _, _ => by simpa using p.length_eq
  | x :: xs, y :: ys, p, h1, h2 => by
    have e : x = y := by
      have hx : x ∈ y :: ys := p.subset (List.mem_cons_self ..)
      have hy : y ∈ x :: xs := p.symm.subset (List.mem_cons_self ..)
      rcases List.mem_cons.mp hx with z | z
      · exact z
      · rcases List.mem_cons.mp hy with w | w
        · exact w.symm
        · exact anti _ _ (List.rel_of_pairwise_cons h1 w) (List.rel_of_pairwise_cons h2 z)
    subst e
    rw [perm_sorted_eq anti (List.Perm.cons_inv p) (List.pairwise_cons.mp h1).2 (List.pairwise_cons.mp h2).2]
theorem sortI_spec (ns : List Int) : (ns.mergeSort fun a b => decide (a ≤ b)).Perm ns ∧ (ns.mergeSort fun a b => decide (a ≤ b)).Pairwise (· ≤ ·) := by
  refine ⟨List.mergeSort_perm _ _, ?_⟩
  have := List.pairwise_mergeSort (le := fun a b : Int => decide (a ≤ b)) (fun a b c h1 h2 => by simp at *; omega) (fun a b => by simp; omega) ns
  exact this.imp fun h => of_decide_eq_true h
theorem rising_pw : ∀ (r : List Str) (p : Str), risingS p r = true → (p :: r).Pairwise (fun a b => ¬ b.cps.toList < a.cps.toList)
  | [], p, _ => by simp
  | x :: r, p, h => by
    unfold risingS at h
    rw [Bool.and_eq_true, ltCps_eq, Bool.not_eq_true', decide_eq_false_iff_not] at h
    obtain ⟨hn, h⟩ := h
    have ih := rising_pw r x h
    refine List.pairwise_cons.mpr ⟨fun y hy => ?_, ih⟩
    rcases List.mem_cons.mp hy with z | z
    · subst z; exact hn
    · have h2 := List.rel_of_pairwise_cons ih z
      exact List.not_lt.mpr (List.le_trans (List.not_lt.mp hn) (List.not_lt.mp h2))
theorem sortedS_pw {ys : List Str} (h : sortedS ys = true) : ys.Pairwise (fun a b => ¬ b.cps.toList < a.cps.toList) := by
  cases ys with
  | nil => exact .nil
  | cons x r => exact rising_pw r x h
theorem leS_trans (a b c : List Nat) (h1 : leS a b = true) (h2 : leS b c = true) : leS a c = true := by
  unfold leS at *
  simp only [Bool.not_eq_true', decide_eq_false_iff_not] at *
  exact List.not_lt.mpr (List.le_trans (List.not_lt.mp h1) (List.not_lt.mp h2))
theorem leS_total (a b : List Nat) : (leS a b || leS b a) = true := by
  unfold leS
  by_cases h : b < a
  · have : ¬ a < b := fun z => List.lt_irrefl a (List.lt_trans z h)
    simp [this]
  · simp [h]
theorem leS_anti (a b : List Nat) (h1 : leS a b = true) (h2 : leS b a = true) : a = b := by
  unfold leS at *
  simp only [Bool.not_eq_true', decide_eq_false_iff_not] at *
  exact List.le_antisymm (List.not_lt.mp h1) (List.not_lt.mp h2)
theorem sortS_spec (ns : List (List Nat)) : (ns.mergeSort leS).Perm ns ∧ (ns.mergeSort leS).Pairwise (fun a b => leS a b = true) :=
  ⟨List.mergeSort_perm _ _, List.pairwise_mergeSort (le := leS) leS_trans leS_total ns⟩
theorem sortS_uniq {xs : List (List Nat)} {ys : List Str} (p : ys.Perm (xs.map fun y => (⟨y.toArray⟩ : Str))) (h : sortedS ys = true) : ys = (xs.mergeSort leS).map fun y => (⟨y.toArray⟩ : Str) := by
  have e1 : ys.map TL.tl = xs.mergeSort leS := by
    obtain ⟨q1, q2⟩ := sortS_spec xs
    refine perm_sorted_eq (le := fun a b => leS a b = true) leS_anti ?_ ?_ q2
    · refine List.Perm.trans ?_ q1.symm
      have := p.map TL.tl
      rw [List.map_map] at this
      have e2 : xs.map (TL.tl ∘ fun y => (⟨y.toArray⟩ : Str)) = xs := by
        conv => rhs; rw [← List.map_id xs]
        exact List.map_congr_left fun y _ => rfl
      rw [e2] at this
      exact this
    · rw [List.pairwise_map]
      exact (sortedS_pw h).imp fun z => by unfold leS; simpa using z
  rw [← e1, List.map_map]
  conv => lhs; rw [← List.map_id ys]
  exact List.map_congr_left fun y _ => (TL.mk_tl y).symm
theorem callSorted : CallR X (.builtin "sorted") (rC1 X.K X.mg sortdSem) := by
  intro pins s σ H xs us Q I rx h
  obtain ⟨x, rfl, G, c, r, hc1, e, q⟩ := h
  unfold sortdSem at e
  split at e
  · obtain ⟨a, ys, rfl, h1, p1⟩ := hc1.lst
    split at e
    · rename_i ns e'
      cases e
      have := p1.ints e'
      subst this
      refine L2.cr_sortedI pins s σ H _ us Q I rx ⟨a, ns, rfl, .of h1, fun ns' p pm pw hp => ?_⟩
      obtain ⟨q1, q2⟩ := sortI_spec ns
      have := perm_sorted_eq (fun a b h1 h2 => Int.le_antisymm h1 h2) (pm.trans q1.symm) pw q2
      subst this
      refine q _ _ (.lst hp ?_)
      have ip : ∀ zs : List Int, PVRs X.K X.mg G H (zs.map .int) (zs.map V.int) := fun zs => by
        induction zs with
        | nil => exact .nil
        | cons z zs ih => exact .cons (.int z) ih
      exact ip _
    · split at e
      · rename_i ts et
        split at e <;> cases e
        rename_i hz
        have := p1.strs et
        subst this
        refine L2.cr_sortedS pins s σ H _ us Q I rx ⟨a, _, rfl, .of h1, by rw [List.length_map]; exact hz, fun zs p pm sd hp => ?_⟩
        have := sortS_uniq pm sd
        subst this
        refine q _ _ (.lst hp ?_)
        have := strs_pv (K := X.K) (mg := X.mg) (G := G) (H := H) ((ts.mergeSort leS).map fun y => (⟨y.toArray⟩ : Str))
        have e2 : ((ts.mergeSort leS).map fun y => (⟨y.toArray⟩ : Str)).map TL.tl = ts.mergeSort leS := by
          rw [List.map_map]
          conv => rhs; rw [← List.map_id (ts.mergeSort leS)]
          exact List.map_congr_left fun y _ => rfl
        rw [e2] at this
        exact this
      · cases e
  · cases e
/-! x is True -/
theorem opIsB (b : Bool) : OpR X (compareOp .Is) (fun x y H Q => y = .bl b ∧ rP1 X.K X.mg (isBSem b) x H Q) := by
  intro pins s σ H x y v u Q I rx ry h
  obtain ⟨rfl, G, c, r, hc, e, q⟩ := h
  unfold isBSem at e
  split at e
  · cases e
    cases hc.bl
    exact L2.op_isBl pins s σ H _ _ v u Q I rx ry ⟨_, _, rfl, rfl, q _ _ (.same (.bl _))⟩
  · cases e
theorem opNotB (b : Bool) : OpR X (compareOp .IsNot) (fun x y H Q => y = .bl b ∧ rP1 X.K X.mg (notBSem b) x H Q) := by
  intro pins s σ H x y v u Q I rx ry h
  obtain ⟨rfl, G, c, r, hc, e, q⟩ := h
  unfold notBSem at e
  split at e
  · cases e
    cases hc.bl
    exact L2.op_notBl pins s σ H _ _ v u Q I rx ry ⟨_, _, rfl, rfl, q _ _ (.same (.bl _))⟩
  · cases e
end
end TP

set_option Elab.async false
set_option linter.all false
set_option maxRecDepth 100000
set_option maxHeartbeats 4000000
/-! Sal4: the text's expressions as trees of the small language; what a context must bear. -/
namespace TP
open PySem PySem.Spec PyProof.Rows
open L2 (V Hp HO Key upd upd_same upd_ne SqL SqT Rd OpR UnR CallR IxR Vals Inv PE PT PW PA PI PG PGs PO PTs)

/-! ### compiling -/
/-- a way to call by keywords: n values, then those named ks; what each param gets -/
structure KP where
  f : Str
  n : Nat
  ks : List Str
  pm : List (Sum Nat PV)
structure Cg where
  /-- the defs' names -/
  fns : List Str
  /-- the module's constants -/
  con : List (Str × PV)
  /-- calls by keywords -/
  kps : List KP := []
  /-- defs that are held by names -/
  hds : List Str := []
  /-- dicts of the module, by text keys -/
  dcs : List (Str × List (List Nat × PV)) := []
def ixOf (x : Str) : List Str → Option Nat
  | [] => none
  | y :: r => if y = x then some 0 else (ixOf x r).map (· + 1)
theorem ixOf_get {x : Str} : ∀ {N : List Str} {i : Nat}, ixOf x N = some i → N[i]? = some x
  | [], _, h => by cases h
  | y :: r, i, h => by
    unfold ixOf at h
    split at h
    · rename_i e
      cases h
      rw [e]; rfl
    · obtain ⟨j, h', rfl⟩ := Option.map_eq_some_iff.mp h
      simpa using ixOf_get h'
def visB (sc : Scope) (x : Str) : Bool := match sc.names.lookup x with
  | some .local => true
  | some .cell => true
  | some .free => true
  | _ => false
def glB (sc : Scope) (x : Str) : Bool := match sc.names.lookup x with
  | some .globalImplicit => true
  | _ => false
def plainNm (x : Str) : Bool := !(x == ("__debug__" : Str)) && !(x == ("__classdict__" : Str)) && !decide (x = "__name__")
def tyNm (x : Str) : Option String :=
  if x = "int" then some "int" else if x = "bool" then some "bool" else if x = "str" then some "str" else if x = "tuple" then some "tuple" else if x = "list" then some "list" else if x = "dict" then some "dict" else none
def binP : Operator → Option P
  | .Add => some .add
  | .Sub => some .sub
  | .Mult => some .mul
  | .FloorDiv => some .fdiv
  | .Mod => some .mod
  | .Pow => some .pow
  | _ => none
def cmpP : CmpOp → Option P
  | .Eq => some .eq
  | .NotEq => some .ne
  | .Lt => some .lt
  | .LtE => some .le
  | .Gt => some .gt
  | .GtE => some .ge
  | .In => some .isin
  | .NotIn => some .notin
  | _ => none
def dispL : List (Option Expr) → List Expr → Option (List Expr)
  | [], [] => some []
  | some k :: ks, v :: vs => (dispL ks vs).map fun r => k :: v :: r
  | _, _ => none
def mapO {α β : Type} (f : α → Option β) : List α → Option (List β)
  | [] => some []
  | x :: xs => match f x with
    | none => none
    | some y => match mapO f xs with
      | none => none
      | some ys => some (y :: ys)
def isNoneC : Expr → Bool
  | .Constant .none _ _ => true
  | _ => false
def isSliceE : Expr → Bool
  | .Slice _ _ _ _ => true
  | _ => false
def isCallE : Expr → Bool
  | .Call _ _ _ _ => true
  | _ => false
/-- what is built in, of one, of two things -/
def blt1 (x : Str) : Option P :=
  if x = "len" then some .len else if x = "abs" then some .abs else if x = "int" then some .toInt else if x = "tuple" then some .toTup else if x = "list" then some .toList
  else if x = "all" then some .all else if x = "any" then some .any else if x = "sum" then some .sum else if x = "str" then some .toStr
  else if x = "max" then some .maxL else if x = "min" then some .minL else if x = "sorted" then some .sortd else none
def blt2 (x : Str) : Option P := if x = "isinstance" then some .isi else if x = "min" then some .min2 else if x = "max" then some .max2 else none
/-! which slots a target stores -/
mutual
def tIn : T → Nat → Bool
  | .nm i, j => decide (i = j)
  | .tp ts, j => tIns ts j
def tIns : List T → Nat → Bool
  | [], _ => false
  | t :: ts, j => tIn t j || tIns ts j
end
mutual
/-- targets: names of the frame, tuples of targets -/
def cT (ok : Nat → Bool) (nk : Str → Bool) (N : List Str) : Nat → Expr → Option T
  | 0, _ => none
  | k + 1, e => match e with
    | .Name x _ => (match ixOf x N with
      | some i => if ok i && nk x then some (.nm i) else none
      | none => none)
    | .Tuple es _ _ => (cTs ok nk N k es).map .tp
    | _ => none
def cTs (ok : Nat → Bool) (nk : Str → Bool) (N : List Str) : Nat → List Expr → Option (List T)
  | 0, _ => none
  | _ + 1, [] => some []
  | k + 1, e :: es => match cT ok nk N k e, cTs ok nk N k es with
    | some t, some ts => some (t :: ts)
    | _, _ => none
end
/-- a name of the frame's, or of the block's, own -/
def ownNm (sc : Scope) (x : Str) : Bool := match sc.names.lookup x with
  | some .local => true
  | some .cell => true
  | _ => false
def kwN (kws : List Keyword) : Option (List Str) := mapO (fun k => match k with | ⟨x, _, _⟩ => x) kws
def kwE : List Keyword → List Expr := fun kws => kws.map fun k => match k with | ⟨_, e, _⟩ => e
/-- list(zip(a, b)) -/
def lzOf (f : Str) (args : List Expr) : Option (Expr × Expr) := if f = "list" then (match args with
  | [.Call (.Name z _) [a, b] [] _] => if z = "zip" then some (a, b) else none
  | _ => none) else none
/-- max(a, default=b) -/
def mdOf (f : Str) (args : List Expr) (kws : List Keyword) : Option (Expr × Expr) := if f = "max" then (match args, kws with
  | [a], [⟨some x, b, _⟩] => if x = "default" then some (a, b) else none
  | _, _ => none) else none
def kwStar : List Keyword → Bool := fun kws => kws.all fun k => match k with | ⟨_, e, _⟩ => (match e with | .Starred _ _ => false | _ => true)
/-- methods of one thing: an operation -/
def mth1 (m : Str) : Option P := if m = "join" then some .join else if m = "split" then some .split else if m = "startswith" then some .starts else none
def dedM0 (m : Str) : Option M := if m = "pop" then some .pop else if m = "clear" then some .clear else if m = "reverse" then some .reverse else none
def dedM1 (m : Str) : Option M := if m = "append" then some .append else if m = "pop" then some .popAt else none
def dedM2 (m : Str) : Option M := if m = "insert" then some .insert else none
def isM1 : Expr → Bool
  | .UnaryOp .USub (.Constant (.int i) _ _) _ => decide (i = 1)
  | _ => false
def dcOf (g : Cg) (N : List Str) (sc : Scope) : Expr → Option (Str × List (List Nat × PV))
  | .Name x _ => if plainNm x && glB sc x then (g.dcs.lookup x).map fun tb => (x, tb) else none
  | _ => none
def kpOf (g : Cg) (f : Str) (n : Nat) (ks : List Str) : Option (List (Sum Nat PV)) := match g.kps.find? fun p => decide (p.f = f ∧ p.n = n ∧ p.ks = ks) with
  | some p => if permOk p.pm && decide ((n, ks) ≠ (0, [])) then some p.pm else none
  | none => none
def isBlC : Expr → Option Bool
  | .Constant (.bool b) _ _ => some b
  | _ => none
def bndC (f : Expr → Option E) : Option Expr → Option E
  | none => some (.con .non)
  | some e => match f e with
    | some e' => if isAbs e' then none else some e'
    | none => none
def ownOf (N : List Str) (scope : Scope) : Option (List (Str × Nat)) :=
  some ((scope.names.filter fun y => match y.2 with | .local => true | .cell => true | _ => false).filterMap fun y => (ixOf y.1 N).map fun i => (y.1, i))
mutual
def cE (g : Cg) (N : List Str) : Nat → Scope → Expr → Option E
  | 0, _, _ => none
  | k + 1, sc, e => match e with
    | .Constant (.int i) _ _ => some (.con (.int i))
    | .Constant (.bool b) _ _ => some (.con (.bl b))
    | .Constant .none _ _ => some (.con .non)
    | .Constant (.str x) _ _ => some (.con (.str x.cps.toList))
    | .Name x _ => if plainNm x then (match ixOf x N with
        | some i => if visB sc x then some (.var i) else none
        | none => if glB sc x then (match tyNm x with
          | some n => some (.con (.ty n))
          | none => (g.con.lookup x).map .con) else none) else none
    | .BinOp a op b _ => (match binP op, cE g N k sc a, cE g N k sc b with
      | some p, some a', some b' => some (.prim p [a', b'])
      | _, _, _ => none)
    | .UnaryOp .USub a _ => (cE g N k sc a).map fun a' => .prim .neg [a']
    | .UnaryOp .Not a _ => (cE g N k sc a).map .not
    | .BoolOp .And es _ => if es.isEmpty then none else (mapO (cE g N k sc) es).map .and
    | .BoolOp .Or es _ => if es.isEmpty then none else (mapO (cE g N k sc) es).map .or
    | .Compare a [.Is] [b] _ => if isNoneC b then (cE g N k sc a).map fun a' => .prim .isN [a'] else (match isBlC b with
      | some c => (cE g N k sc a).map fun a' => .prim (.isB c) [a']
      | none => none)
    | .Compare a [.IsNot] [b] _ => if isNoneC b then (cE g N k sc a).map fun a' => .prim .notN [a'] else (match isBlC b with
      | some c => (cE g N k sc a).map fun a' => .prim (.notB c) [a']
      | none => none)
    | .Compare a [op] [b] _ => if behindInMarks op b then none else (match cmpP op, cE g N k sc a, cE g N k sc b with
      | some p, some a', some b' => some (.prim p [a', b'])
      | _, _, _ => none)
    | .Compare a [op, op'] [b, c] _ => if lastMarks [op, op'] [b, c] then none else (match cmpP op, cmpP op', cE g N k sc a, cE g N k sc b, cE g N k sc c with
      | some p, some q, some a', some b', some c' => some (.chain p q a' b' c')
      | _, _, _, _, _ => none)
    | .IfExp c a b _ => (match cE g N k sc c, cE g N k sc a, cE g N k sc b with
      | some c', some a', some b' => some (.ite c' a' b')
      | _, _, _ => none)
    | .Tuple es _ _ => (mapO (cE g N k sc) es).map .tup
    | .List es _ => (mapO (cE g N k sc) es).map .list
    | .Dict [] [] _ => some (.prim .dnew [])
    | .Dict keys values _ => (match dispL keys values with
      | some es => if !keys.isEmpty && decide (keys.length ≤ 15) then (mapO (cE g N k sc) es).map .disp else none
      | none => none)
    | .Subscript a (.Slice lo hi none _) _ => (match cE g N k sc a, bndC (cE g N k sc) lo, bndC (cE g N k sc) hi with
      | some a', some l, some h => some (.slice a' l h)
      | _, _, _ => none)
    | .Subscript a (.Slice none none (some st) _) _ => if isM1 st then (cE g N k sc a).map fun a' => .prim .revs [a'] else none
    | .Subscript a i _ => if isSliceE i then none else (match dcOf g N sc a with
      | some q => (cE g N k sc i).map fun i' => .didx q.1 q.2 i'
      | none => match cE g N k sc a, cE g N k sc i with
        | some a', some i' => some (.prim .idx [a', i'])
        | _, _ => none)
    | .Call (.Name f _) args [] _ => (match lzOf f args with
      | some q => if glB sc "list" && glB sc "zip" then (match cE g N k sc q.1, cE g N k sc q.2 with
        | some a', some b' => some (.prim .zipL [a', b'])
        | _, _ => none) else none
      | none => if plainNm f then (match mapO (cE g N k sc) args with
        | none => none
        | some as => if glB sc f then (if f ∈ g.fns then some (.call f as) else (match as with
          | [a] => (blt1 f).map fun p => .prim p [a]
          | [a, b] => (blt2 f).map fun p => .prim p [a, b]
          | _ => none)) else (match ixOf f N with
            | some i => if visB sc f && g.hds.all (fun f => g.fns.contains f) then some (.callL i g.hds as) else none
            | none => none)) else none)
    | .Call (.Name f _) args kws _ => if plainNm f && glB sc f && decide (f ∈ g.fns) && kwStar kws then (match mapO (cE g N k sc) args, mapO (cE g N k sc) (kwE kws), kwN kws with
        | some as, some bs, some ks => (match kpOf g f args.length ks with
          | some pm => some (.callK f (as ++ bs) pm)
          | none => none)
        | _, _, _ => none) else (match mdOf f args kws with
        | some q => if plainNm f && glB sc f then (match cE g N k sc q.1, cE g N k sc q.2 with
          | some a', some b' => some (.prim .maxD [a', b'])
          | _, _ => none) else none
        | none => none)
    | .Call (.Attribute o m apos) args [] cpos => if (apos.endLine == cpos.line) && !isCallE o then (match cE g N k sc o, mapO (cE g N k sc) args with
      | some o', some as => (match as with
        | [a] => (match dedM1 m with
          | some d => some (.mut d o' [a])
          | none => (mth1 m).map fun p => .sm p o' a)
        | [] => (dedM0 m).map fun d => .mut d o' []
        | [a, b] => if m = "get" then some (.dget o' a b) else (dedM2 m).map fun d => .mut d o' [a, b]
        | _ => none)
      | _, _ => none) else none
    | .ListComp elt [⟨t, it, ifs, 0⟩] scope _ => (match ownOf N scope with
      | some own => if L2.blkC N sc scope own then
          (match cI g N k sc t it, cT (fun i => decide (i ∈ own.map (·.2))) (ownNm scope) N k t, mapO (cE g N k (L2.relS scope sc)) ifs, cE g N k (L2.relS scope sc) elt with
          | some it', some t', some cs, some e' => if cs.length ≤ 1 then some (.lc e' t' it' cs (own.map (·.2))) else none
          | _, _, _, _ => none) else none
      | none => none)
    | .ListComp elt [⟨t, it, ifs, 0⟩, ⟨t1, it1, ifs1, 0⟩] scope _ => (match ownOf N scope with
      | some own => if L2.blkC N sc scope own then
          (match cI g N k sc t it, cT (fun i => decide (i ∈ own.map (·.2))) (ownNm scope) N k t, mapO (cE g N k (L2.relS scope sc)) ifs, cI g N k (L2.relS scope sc) t1 it1, cT (fun i => decide (i ∈ own.map (·.2))) (ownNm scope) N k t1, mapO (cE g N k (L2.relS scope sc)) ifs1, cE g N k (L2.relS scope sc) elt with
          | some it', some t', some cs, some it1', some t1', some cs1, some e' => if cs.length ≤ 1 ∧ cs1.length ≤ 1 then some (.lc2 e' t' it' cs t1' it1' cs1 (own.map (·.2)) ((own.map (·.2)).filter (tIn t1'))) else none
          | _, _, _, _, _, _, _ => none) else none
      | none => none)
    | _ => none
def cI (g : Cg) (N : List Str) : Nat → Scope → Expr → Expr → Option I
  | 0, _, _, _ => none
  | k + 1, sc, t, e => match e with
    | .Call (.Name f _) args [] _ => if plainNm f && glB sc f && !decide (f ∈ g.fns) && (f = "range" || f = "enumerate" || f = "zip" || f = "reversed") then
        (match mapO (cE g N k sc) args with
        | none => none
        | some as => if f = "range" then (match as with
            | [_] => some (.range as)
            | [_, _] => some (.range as)
            | _ => none)
          else if f = "enumerate" then (match t, as with
            | .Tuple _ _ _, [a] => some (.enum a)
            | _, _ => none)
          else if f = "zip" then (match t, as with
            | .Tuple _ _ _, [a, b] => some (.zip a b)
            | _, _ => none)
          else (match as with
            | [a] => some (.rev a)
            | _ => none))
      else (cE g N k sc e).map .of
    | .Set _ _ _ => none
    | e => (cE g N k sc e).map .of
end

/-! ### readings -/
/-- an exception in the air -/
def ExnR (K : PySem.W.Frag) (mg : Str → Option Value) (G : Gh) (H : Hp) (x : PV) (C : Value) (d : Option Addr) : Prop := False
section
variable (K : PySem.W.Frag) (mg : Str → Option Value) (cf : CF) (Ex : L2.WX)
def xcP (x : PV) (s' : SS) (G : Gh) (σ : L2.St) (H : Hp) : Prop := ∀ G' H' C d, Rel K mg G' s' σ H' → Step G H G' H' → ExnR K mg G' H' x C d → Ex C d σ H'
def tE (e : E) : L2.TE := fun σ H Q => ∃ G s, Rel K mg G s σ H ∧
  ((∃ r s', evalE cf e s = .ok r s' ∧ ∀ G' H' x, Rel K mg G' s' σ H' → Step G H G' H' → RVR K mg G G' H' σ r x → Q x H') ∨ (∃ x s', evalE cf e s = .exc x s' ∧ xcP K mg Ex x s' G σ H))
def tA (es : List E) : L2.TA := fun σ H Q => ∃ G s, Rel K mg G s σ H ∧
  ((∃ rs s', evalEs cf es s = .ok rs s' ∧ ∀ G' H' xs, Rel K mg G' s' σ H' → Step G H G' H' → RVRs K mg G G' H' σ rs xs → Q xs H') ∨ (∃ x s', evalEs cf es s = .exc x s' ∧ xcP K mg Ex x s' G σ H))
def tT (e : E) : L2.TT := fun σ H Q => ∃ G s, Rel K mg G s σ H ∧
  ((∃ r b s', evalE cf e s = .ok r s' ∧ testR s' r = some b ∧ ∀ G' H', Rel K mg G' s' σ H' → Step G H G' H' → Q b H') ∨ (∃ x s', evalE cf e s = .exc x s' ∧ xcP K mg Ex x s' G σ H))
/-- an iterator walks these -/
def Walks (J : L2.It) (G : Gh) (H : Hp) (xs : List PV) : Prop := ∀ (i : Nat) G' H', Mono G H G' H' → (∀ a, G' a ≠ .free → H' a ≠ none) →
  (∀ v, xs[i]? = some v → J.go i H' ∧ ∀ x H'', J.yld i H' x H'' → ∃ G'', Same G' H' G'' H'' ∧ PVR K mg G'' H'' v x) ∧ (i = xs.length → J.stop i H')
def tI (it : I) : L2.TI := fun σ H R => ∃ G s, Rel K mg G s σ H ∧
  ((∃ xs s', evalI cf it s = .ok xs s' ∧ ∀ G' H' J, Rel K mg G' s' σ H' → Step G H G' H' → Walks K mg J G' H' xs → R J H') ∨ (∃ x s', evalI cf it s = .exc x s' ∧ xcP K mg Ex x s' G σ H))
end

section
variable {K : PySem.W.Frag} {mg : Str → Option Value} {cf : CF} {Ex : L2.WX}
theorem xcP.step {x : PV} {s' : SS} {G G1 : Gh} {σ : L2.St} {H H1 : Hp} (h : xcP K mg Ex x s' G σ H) (st : Step G H G1 H1) : xcP K mg Ex x s' G1 σ H1 := fun G' H' C d R s q => h G' H' C d R (st.trans s) q
theorem tA_nil {σ : L2.St} {H : Hp} {Q : List V → Hp → Prop} (h : tA K mg cf Ex [] σ H Q) : Q [] H := by
  obtain ⟨G, s, R, h⟩ := h
  simp only [evalEs] at h
  rcases h with ⟨rs, s', e, h⟩ | ⟨x, s', e, _⟩
  · cases e
    exact h G H [] R .refl .nil
  · cases e
theorem tA_cons {e : E} {es : List E} {σ : L2.St} {H : Hp} {Q : List V → Hp → Prop} (h : tA K mg cf Ex (e :: es) σ H Q) : tE K mg cf Ex e σ H fun x H1 => tA K mg cf Ex es σ H1 fun xs H2 => Q (x :: xs) H2 := by
  obtain ⟨G, s, R, h⟩ := h
  simp only [evalEs] at h
  refine ⟨G, s, R, ?_⟩
  cases e1 : evalE cf e s with
  | bad => rw [e1] at h; rcases h with ⟨_, _, z, _⟩ | ⟨_, _, z, _⟩ <;> cases z
  | exc x s1 =>
    rw [e1] at h
    rcases h with ⟨_, _, z, _⟩ | ⟨_, _, z, h⟩
    · cases z
    · cases z
      exact .inr ⟨_, _, rfl, h⟩
  | ok r s1 =>
    rw [e1] at h
    simp only [Res.bind] at h
    refine .inl ⟨r, s1, rfl, fun G1 H1 x R1 st1 rv => ⟨G1, s1, R1, ?_⟩⟩
    cases e2 : evalEs cf es s1 with
    | bad => rw [e2] at h; rcases h with ⟨_, _, z, _⟩ | ⟨_, _, z, _⟩ <;> cases z
    | exc y s2 =>
      rw [e2] at h
      rcases h with ⟨_, _, z, _⟩ | ⟨_, _, z, h⟩
      · cases z
      · cases z
        exact .inr ⟨_, _, rfl, h.step st1⟩
    | ok rs s2 =>
      rw [e2] at h
      rcases h with ⟨_, _, z, h⟩ | ⟨_, _, z, _⟩
      · cases z
        exact .inl ⟨rs, s2, rfl, fun G2 H2 xs R2 st2 rvs => h G2 H2 _ R2 (st1.trans st2) (RVRs.push st1 rv st2 rvs)⟩
      · cases z
/-- an operation: its things, then what it does to their contents -/
theorem tE_prim {p : P} {es : List E} {σ : L2.St} {H : Hp} {Q : L2.VK} (h : tE K mg cf Ex (.prim p es) σ H Q) :
    tA K mg cf Ex es σ H fun xs H1 => ∃ G cs r, CnRs K mg G H1 cs xs ∧ primSem p cs = some r ∧ ∀ z H', Out K mg G H1 r z H' → Q z H' := by
  obtain ⟨G, s, R, h⟩ := h
  simp only [evalE] at h
  refine ⟨G, s, R, ?_⟩
  cases e1 : evalEs cf es s with
  | bad => rw [e1] at h; rcases h with ⟨_, _, z, _⟩ | ⟨_, _, z, _⟩ <;> cases z
  | exc x s1 =>
    rw [e1] at h
    rcases h with ⟨_, _, z, _⟩ | ⟨_, _, z, h⟩
    · cases z
    · cases z
      exact .inr ⟨_, _, rfl, h⟩
  | ok rs s1 =>
    rw [e1] at h
    simp only [Res.bind] at h
    refine .inl ⟨rs, s1, rfl, fun G1 H1 xs R1 st1 rv => ?_⟩
    cases e2 : conts s1 rs with
    | none => rw [e2] at h; rcases h with ⟨_, _, z, _⟩ | ⟨_, _, z, _⟩ <;> cases z
    | some cs =>
      rw [e2] at h
      simp only at h
      cases e3 : primSem p cs with
      | none => rw [e3] at h; rcases h with ⟨_, _, z, _⟩ | ⟨_, _, z, _⟩ <;> cases z
      | some r =>
        rw [e3] at h
        rcases h with ⟨_, _, z, h⟩ | ⟨_, _, z, _⟩
        · cases z
          refine ⟨G1, cs, r, conts_ok R1 rv e2, e3, fun z H' o => ?_⟩
          obtain ⟨G2, R2, st2, rv2⟩ := o.rel R1
          exact h G2 H' z R2 (st1.trans st2) (rv2.back st1)
        · cases z
theorem tE_mono {e : E} {σ : L2.St} {H : Hp} {Q Q' : L2.VK} (h : tE K mg cf Ex e σ H Q) (q : ∀ x H, Q x H → Q' x H) : tE K mg cf Ex e σ H Q' := by
  obtain ⟨G, s, R, h⟩ := h
  refine ⟨G, s, R, ?_⟩
  rcases h with ⟨r, s', e, h⟩ | h
  · exact .inl ⟨r, s', e, fun G' H' x R' st rv => q _ _ (h G' H' x R' st rv)⟩
  · exact .inr h
theorem tA_mono {e : List E} {σ : L2.St} {H : Hp} {Q Q' : List V → Hp → Prop} (h : tA K mg cf Ex e σ H Q) (q : ∀ x H, Q x H → Q' x H) : tA K mg cf Ex e σ H Q' := by
  obtain ⟨G, s, R, h⟩ := h
  refine ⟨G, s, R, ?_⟩
  rcases h with ⟨r, s', e, h⟩ | h
  · exact .inl ⟨r, s', e, fun G' H' x R' st rv => q _ _ (h G' H' x R' st rv)⟩
  · exact .inr h
theorem tA_one {a : E} {σ : L2.St} {H : Hp} {Q : List V → Hp → Prop} (h : tA K mg cf Ex [a] σ H Q) : tE K mg cf Ex a σ H fun x H1 => Q [x] H1 :=
  tE_mono (tA_cons h) fun _ _ h => tA_nil h
theorem tA_two {a b : E} {σ : L2.St} {H : Hp} {Q : List V → Hp → Prop} (h : tA K mg cf Ex [a, b] σ H Q) : tE K mg cf Ex a σ H fun x H1 => tE K mg cf Ex b σ H1 fun y H2 => Q [x, y] H2 :=
  tE_mono (tA_cons h) fun _ _ h => tA_one h
theorem tE_prim1 {p : P} {a : E} {f : PV → Option RV} (hp : ∀ c, primSem p [c] = f c) {σ : L2.St} {H : Hp} {Q : L2.VK} (h : tE K mg cf Ex (.prim p [a]) σ H Q) : tE K mg cf Ex a σ H fun x H1 => rP1 K mg f x H1 Q := by
  refine tE_mono (tA_one (tE_prim h)) fun x H1 ⟨G, cs, r, hc, e, q⟩ => ?_
  cases hc with
  | cons h1 t =>
    cases t
    exact ⟨G, _, r, h1, (hp _).symm.trans e, q⟩
theorem tE_prim2 {p : P} {a b : E} {f : PV → PV → Option RV} (hp : ∀ c d, primSem p [c, d] = f c d) {σ : L2.St} {H : Hp} {Q : L2.VK} (h : tE K mg cf Ex (.prim p [a, b]) σ H Q) : L2.tOp (rP2 K mg f) (tE K mg cf Ex a) (tE K mg cf Ex b) σ H Q := by
  refine tE_mono (tA_two (tE_prim h)) fun x H1 h => tE_mono h fun y H2 ⟨G, cs, r, hc, e, q⟩ => ?_
  cases hc with
  | cons h1 t =>
    cases t with
    | cons h2 t =>
      cases t
      exact ⟨G, _, _, r, h1, h2, (hp _ _).symm.trans e, q⟩
/-- the value of a test -/
theorem tE_of_tT {e : E} {σ : L2.St} {H : Hp} {Q : Bool → Hp → Prop} (h : tT K mg cf Ex e σ H Q) : tE K mg cf Ex e σ H fun x H1 => ∃ c, x = .bl c ∧ Q c H1 := by
  obtain ⟨G, s, R, h⟩ := h
  refine ⟨G, s, R, ?_⟩
  rcases h with ⟨r, b, s', e1, e2, h⟩ | h
  · refine .inl ⟨r, s', e1, fun G' H' x R' st rv => ?_⟩
    unfold testR at e2
    split at e2
    · rename_i c ec
      cases e2
      have hc := cont_ok R' rv ec
      exact ⟨b, hc.bl, h G' H' R' st⟩
    · cases e2
  · exact .inr h
theorem PE.imp {X : L2.Cx} {e : Expr} {t t' : L2.TE} (h : PE X e t) (i : ∀ σ H Q, t' σ H Q → t σ H Q) : PE X e t' := ⟨fun pins s σ H Q I q => h.run pins s σ H Q I (i σ H Q q)⟩
theorem PT.imp {X : L2.Cx} {e : Expr} {t t' : L2.TT} (h : PT X e t) (i : ∀ σ H Q, t' σ H Q → t σ H Q) : PT X e t' := ⟨fun pins s σ H Q I q => h.run pins s σ H Q I (i σ H Q q)⟩
theorem PW.imp {X : L2.Cx} {e : Expr} {t t' : L2.TT} (h : PW X e t) (i : ∀ σ H Q, t' σ H Q → t σ H Q) : PW X e t' := ⟨fun w pins s σ H Q I q => h.run w pins s σ H Q I (i σ H Q q)⟩
theorem PA.imp {X : L2.Cx} {e : List Expr} {t t' : L2.TA} (h : PA X e t) (i : ∀ σ H Q, t' σ H Q → t σ H Q) : PA X e t' := ⟨fun p pins s σ H Q I q => h.run p pins s σ H Q I (i σ H Q q)⟩
theorem PI.imp {X : L2.Cx} {tg e : Expr} {t t' : L2.TI} (h : PI X tg e t) (i : ∀ σ H Q, t' σ H Q → t σ H Q) : PI X tg e t' := ⟨fun pins s σ H Q I q => h.run pins s σ H Q I (i σ H Q q)⟩
end

/-! ### a def's promise -/
def spF (K : PySem.W.Frag) (mg : Str → Option Value) (cf : CF) (f : Str) : L2.Sp := fun vs H Q E => ∃ G as sto, Rel K mg G ⟨as, sto⟩ (vs.map some) H ∧
  ((∃ r fin sto', cf f as sto = .ok r fin sto' ∧ ∀ G' H' x, Rel K mg G' ⟨fin, sto'⟩ (vs.map some) H' → Step G H G' H' → RVR K mg G G' H' [] r x → Q x H') ∨
   (∃ e fin sto', cf f as sto = .exc e fin sto' ∧ ∀ G' H' C d, Rel K mg G' ⟨fin, sto'⟩ (vs.map some) H' → Step G H G' H' → ExnR K mg G' H' e C d → E C d H'))
def bnames : List Str := ["len", "abs", "int", "tuple", "list", "all", "any", "sum", "isinstance", "min", "max", "range", "enumerate", "zip", "reversed", "bool", "str", "dict", "sorted", "set"]
/-- what the params get -/
def PmRel (K : PySem.W.Frag) (mg : Str → Option Value) (pm : List (Sum Nat PV)) (xs ys : List V) : Prop := ys.length = pm.length ∧ ∀ (j : Nat) (c : Sum Nat PV), pm[j]? = some c → match c with
  | Sum.inl i => ys[j]? = xs[i]?
  | Sum.inr v => ∃ y, ys[j]? = some y ∧ ∀ G H, PVR K mg G H v y
def KwB (K : PySem.W.Frag) (mg : Str → Option Value) (fd : FuncData) (ps : List Str) (p : KP) : Prop := ∃ g gV, L2.KBn K fd ps p.n p.ks g gV ∧ ∀ vs zs : List V, vs.length = p.n → zs.length = p.ks.length → PmRel K mg p.pm (vs ++ zs) (gV vs zs)
/-- a dict of the module -/
def DcOk (K : PySem.W.Frag) (w : World) (mg : Str → Option Value) (q : Str × List (List Nat × PV)) : Prop := ∃ a es n, mg q.1 = some (.ref a) ∧ L2.KDict K w a es n ∧ ∀ z v, q.2.lookup z = some v → ∃ u V, PySem.W.nsIn K a ⟨z.toArray⟩ = some (some u) ∧ L2.RelV V u ∧ ∀ G H, PVR K mg G H v V
/-- what a context must bear -/
structure XO (X : L2.Cx) (g : Cg) (cf : CF) (Ex : L2.WX) : Prop where
  calm : X.calm = true
  nd : X.N.Nodup
  room : L2.Room 0 X.A
  bn : ∀ b ∈ bnames, X.mg b = none
  con : ∀ x v, g.con.lookup x = some v → ∃ u V, X.mg x = some u ∧ L2.RelV V u ∧ ∀ G H, PVR X.K X.mg G H v V
  fns : ∀ f ∈ g.fns, ∃ (k : Nat) (a : Addr) (fd : FuncData) (ps : List Str), L2.FnOk X.prog X.w X.K X.mg X.base (L2.CX X.prog X.w) k a fd ps (spF X.K X.mg cf f) ∧ L2.Room k X.A ∧ X.mg f = some (.ref a) ∧ PySem.W.keepIn X.K (.ref a) = true ∧ L2.Binds X.K fd ps [] ∧ ∀ p ∈ g.kps, p.f = f → KwB X.K X.mg fd ps p
  dcs : ∀ x tb, g.dcs.lookup x = some tb → DcOk X.K X.w X.mg (x, tb)
  pass : ∀ σ, L2.PassesAt (L2.CX X.prog X.w) X σ (fun c d H => Ex c d σ H)
abbrev noEx : L2.WX := fun _ _ _ _ => False
theorem no_pass {X : L2.Cx} (σ : L2.St) : L2.PassesAt (L2.CX X.prog X.w) X σ (fun _ _ _ => False) := fun _ _ _ _ _ _ ⟨_, _, _, _, _, _, _, _, _, _, _, _, z⟩ => z.elim
theorem XO.blk {X : L2.Cx} {g : Cg} {cf : CF} {Ex : L2.WX} (o : XO X g cf Ex) (s : Shared) (H : Hp) (scope : Scope) (cenv : Env) (fp : List Addr) : XO (X.blk s H scope cenv fp) g cf noEx :=
  ⟨o.calm, o.nd, o.room, o.bn, o.con, o.fns, o.dcs, no_pass⟩

/-! ### a call by contents -/
def isOwn : Option Sl → Bool
  | some (.own _) => true
  | _ => false
/-- which argument lies at a, lent or given away -/
def argIx (as : List Sl) (xs : List V) (a : Addr) : Option Nat := (List.range as.length).find? fun j => isOwn as[j]? && decide (xs[j]? = some (.ref a))
theorem argIx_some {as : List Sl} {xs : List V} {a : Addr} {j : Nat} (h : argIx as xs a = some j) : (∃ o, as[j]? = some (.own o)) ∧ xs[j]? = some (.ref a) := by
  have h1 := List.find?_some h
  rw [Bool.and_eq_true, decide_eq_true_eq] at h1
  refine ⟨?_, h1.2⟩
  have h2 := h1.1
  unfold isOwn at h2
  split at h2
  · rename_i o e; exact ⟨o, e⟩
  · cases h2
theorem argIx_none {as : List Sl} {xs : List V} {a : Addr} (h : argIx as xs a = none) {j : Nat} {o : PV} (h1 : as[j]? = some (.own o)) : xs[j]? ≠ some (.ref a) := fun e => by
  have hj : j < as.length := (List.getElem?_eq_some_iff.mp h1).1
  have := List.find?_eq_none.mp h j (List.mem_range.mpr hj)
  apply this
  rw [h1, e]
  simp [isOwn]
theorem argIx_uniq {as : List Sl} {xs : List V} {a : Addr} {j : Nat} {o : PV} (u : ∀ (i j : Nat) o o' a, as[i]? = some (.own o) → as[j]? = some (.own o') → xs[i]? = some (.ref a) → xs[j]? = some (V.ref a) → i = j)
    (h1 : as[j]? = some (.own o)) (h2 : xs[j]? = some (.ref a)) : argIx as xs a = some j := by
  cases e : argIx as xs a with
  | none => exact absurd h2 (argIx_none e h1)
  | some i =>
    obtain ⟨⟨o', h3⟩, h4⟩ := argIx_some e
    rw [u i j o' o a h3 h1 h4 h2]
/-- what argsOf hands on -/
def ArgIs (s : SS) : RV → Sl → Prop
  | .sh v, a => a = .val v
  | .fr o, a => a = .own o
  | .hd i, a => s.env[i]? = some a ∧ a ≠ .un
theorem argOf_is {s : SS} {l l' : List Nat} {r : RV} {a : Sl} (h : argOf s l r = some (a, l')) : ArgIs s r a ∧ (∀ i, i ∈ l → i ∈ l') ∧ (∀ i o, r = .hd i → a = .own o → i ∉ l ∧ i ∈ l') := by
  cases r with
  | sh v => simp only [argOf, Option.some.injEq, Prod.mk.injEq] at h; obtain ⟨rfl, rfl⟩ := h; exact ⟨rfl, fun _ z => z, fun _ _ z => nomatch z⟩
  | fr v => simp only [argOf, Option.some.injEq, Prod.mk.injEq] at h; obtain ⟨rfl, rfl⟩ := h; exact ⟨rfl, fun _ z => z, fun _ _ z => nomatch z⟩
  | hd i =>
    simp only [argOf] at h
    cases e : s.env[i]? with
    | none => rw [e] at h; cases h
    | some x =>
      rw [e] at h
      cases x with
      | un => cases h
      | val v => simp only [Option.some.injEq, Prod.mk.injEq] at h; obtain ⟨rfl, rfl⟩ := h; exact ⟨⟨e, fun z => nomatch z⟩, fun _ z => z, fun _ _ _ z => nomatch z⟩
      | own o =>
        simp only at h
        split at h
        · cases h
        · rename_i hn
          simp only [Option.some.injEq, Prod.mk.injEq] at h
          obtain ⟨rfl, rfl⟩ := h
          refine ⟨⟨e, fun z => nomatch z⟩, fun _ z => List.mem_cons_of_mem _ z, fun j o' z _ => ?_⟩
          cases z
          exact ⟨hn, List.mem_cons_self ..⟩
theorem argsOf_is {s : SS} : ∀ {rs : List RV} {l : List Nat} {as : List Sl}, argsOf s l rs = some as →
    as.length = rs.length ∧ (∀ (j : Nat) r, rs[j]? = some r → ∃ a, as[j]? = some a ∧ ArgIs s r a) ∧
    (∀ (j : Nat) i o, rs[j]? = some (.hd i) → as[j]? = some (.own o) → i ∉ l) ∧
    (∀ (j j' : Nat) i o o', rs[j]? = some (.hd i) → rs[j']? = some (.hd i) → as[j]? = some (.own o) → as[j']? = some (.own o') → j = j')
  | [], l, as, h => by
    simp only [argsOf, Option.some.injEq] at h
    subst h
    exact ⟨rfl, fun _ _ z => by simp at z, fun _ _ _ z => by simp at z, fun _ _ _ _ _ z => by simp at z⟩
  | r :: rs, l, as, h => by
    simp only [argsOf] at h
    cases e1 : argOf s l r with
    | none => rw [e1] at h; cases h
    | some p =>
      obtain ⟨a, l'⟩ := p
      rw [e1] at h
      simp only at h
      cases e2 : argsOf s l' rs with
      | none => rw [e2] at h; cases h
      | some as' =>
        rw [e2] at h
        cases h
        obtain ⟨h1, h2, h3⟩ := argOf_is e1
        obtain ⟨g1, g2, g3, g4⟩ := argsOf_is e2
        refine ⟨by simp [g1], fun j r' z => ?_, fun j i o z1 z2 => ?_, fun j j' i o o' z1 z2 z3 z4 => ?_⟩
        · cases j with
          | zero => simp at z; subst z; exact ⟨a, rfl, h1⟩
          | succ j => simpa using g2 j r' (by simpa using z)
        · cases j with
          | zero => simp at z1 z2; exact (h3 i o z1 z2).1
          | succ j => exact fun q => g3 j i o (by simpa using z1) (by simpa using z2) (h2 i q)
        · cases j with
          | zero =>
            cases j' with
            | zero => rfl
            | succ j' =>
              simp at z1 z3
              exact absurd (h3 i o z1 z3).2 (g3 j' i o' (by simpa using z2) (by simpa using z4))
          | succ j =>
            cases j' with
            | zero =>
              simp at z2 z4
              exact absurd (h3 i o' z2 z4).2 (g3 j i o (by simpa using z1) (by simpa using z3))
            | succ j' => exact congrArg Nat.succ (g4 j j' i o o' (by simpa using z1) (by simpa using z2) (by simpa using z3) (by simpa using z4))
/-- what comes back to the slots -/
theorem backE_len : ∀ {rs : List RV} {env as fin : List Sl}, (backE env rs as fin).length = env.length
  | [], env, as, fin => by simp only [backE]
  | r :: rs, env, [], fin => by simp only [backE]
  | r :: rs, env, a :: as, [] => by simp only [backE]
  | r :: rs, env, a :: as, f :: fs => by
    simp only [backE]
    split
    · rw [backE_len, List.length_set]
    · exact backE_len
theorem backE_get : ∀ {rs : List RV} {env as fin : List Sl} {i : Nat} {x : Sl}, as.length = rs.length → fin.length = rs.length → (backE env rs as fin)[i]? = some x →
    (∃ (j : Nat) (o : PV), rs[j]? = some (.hd i) ∧ as[j]? = some (.own o) ∧ fin[j]? = some x) ∨ ((∀ (j : Nat) (o : PV), rs[j]? = some (.hd i) → as[j]? ≠ some (.own o)) ∧ env[i]? = some x)
  | [], env, as, fin, i, x, _, _, h => by
    simp only [backE] at h
    exact .inr ⟨fun j _ z => by simp at z, h⟩
  | r :: rs, env, [], fin, i, x, h1, _, h => by simp at h1
  | r :: rs, env, a :: as, [], i, x, _, h2, h => by simp at h2
  | r :: rs, env, a :: as, f :: fs, i, x, h1, h2, h => by
    simp only [backE] at h
    have l1 : as.length = rs.length := by simpa using h1
    have l2 : fs.length = rs.length := by simpa using h2
    split at h
    · rename_i k o
      rcases backE_get l1 l2 h with ⟨j, o', g1, g2, g3⟩ | ⟨g1, g2⟩
      · exact .inl ⟨j + 1, o', by simpa using g1, by simpa using g2, by simpa using g3⟩
      · by_cases hk : i = k
        · subst hk
          by_cases hl : i < env.length
          · rw [List.getElem?_set_self hl] at g2
            exact .inl ⟨0, o, rfl, rfl, by simpa using g2⟩
          · rw [List.getElem?_eq_none (by simpa using hl)] at g2
            cases g2
        · rw [List.getElem?_set_ne (fun z => hk z.symm)] at g2
          refine .inr ⟨fun j o' z => ?_, g2⟩
          cases j with
          | zero => simp at z; exact absurd z.symm hk
          | succ j => simpa using g1 j o' (by simpa using z)
    · rename_i hno
      rcases backE_get l1 l2 h with ⟨j, o', g1, g2, g3⟩ | ⟨g1, g2⟩
      · exact .inl ⟨j + 1, o', by simpa using g1, by simpa using g2, by simpa using g3⟩
      · refine .inr ⟨fun j o' z => ?_, g2⟩
        cases j with
        | zero =>
          simp at z
          intro q
          simp at q
          exact hno i o' z q
        | succ j => simpa using g1 j o' (by simpa using z)

section
variable {K : PySem.W.Frag} {mg : Str → Option Value}
theorem own_arg {G0 G : Gh} {s : SS} {σ : L2.St} {H : Hp} {rs : List RV} {xs : List V} {as : List Sl} (R : Rel K mg G s σ H) (rv : RVRs K mg G0 G H σ rs xs) (ha : argsOf s [] rs = some as) {j : Nat} {o : PV} (h : as[j]? = some (.own o)) :
    ∃ a, xs[j]? = some (.ref a) ∧ ObR K mg G H a o ∧ ((rs[j]? = some (.fr o) ∧ G a = .hold ∧ G0 a ≠ .hold) ∨ ∃ i, rs[j]? = some (.hd i) ∧ s.env[i]? = some (.own o) ∧ σ[i]? = some (some (.ref a)) ∧ G a = .slot i) := by
  obtain ⟨h1, h2, _, _⟩ := argsOf_is ha
  have hj : j < rs.length := by rw [← h1]; exact (List.getElem?_eq_some_iff.mp h).1
  obtain ⟨r, hr⟩ : ∃ r, rs[j]? = some r := ⟨rs[j], by simp [hj]⟩
  obtain ⟨a', e1, ai⟩ := h2 j r hr
  rw [h] at e1
  cases e1
  obtain ⟨x, ex, rx⟩ := rv.get hr
  cases r with
  | sh v => cases ai
  | fr o' =>
    cases ai
    obtain ⟨a, rfl, g, n, ob⟩ := rx
    exact ⟨a, ex, ob, .inl ⟨hr, g, n⟩⟩
  | hd i =>
    obtain ⟨ei, _⟩ := ai
    obtain ⟨a, e2, g, ob⟩ := R.own ei
    have hx : σ[i]? = some (some x) := rx
    rw [e2] at hx
    cases hx
    exact ⟨a, ex, ob, .inr ⟨i, hr, ei, e2, g⟩⟩
theorem RVRs.frU {G0 G : Gh} {σ : L2.St} {H : Hp} : ∀ {rs : List RV} {xs : List V}, RVRs K mg G0 G H σ rs xs → ∀ (i j : Nat) o o' x, rs[i]? = some (.fr o) → rs[j]? = some (.fr o') → xs[i]? = some x → xs[j]? = some x → i = j
  | _, _, .nil, i, j, o, o', x, h, _, _, _ => by simp at h
  | _, _, .cons h d t, i, j, o, o', x, h1, h2, h3, h4 => by
    cases i with
    | zero =>
      cases j with
      | zero => rfl
      | succ j =>
        simp at h1 h3
        subst h3
        exact absurd (by simpa using h4) (d o h1 o' j (by simpa using h2))
    | succ i =>
      cases j with
      | zero =>
        simp at h2 h4
        subst h4
        exact absurd (by simpa using h3) (d o' h2 o i (by simpa using h1))
      | succ j => exact congrArg Nat.succ (RVRs.frU t i j o o' x (by simpa using h1) (by simpa using h2) (by simpa using h3) (by simpa using h4))
theorem args_uniq {G0 G : Gh} {s : SS} {σ : L2.St} {H : Hp} {rs : List RV} {xs : List V} {as : List Sl} (R : Rel K mg G s σ H) (rv : RVRs K mg G0 G H σ rs xs) (ha : argsOf s [] rs = some as) :
    ∀ (i j : Nat) o o' a, as[i]? = some (.own o) → as[j]? = some (.own o') → xs[i]? = some (.ref a) → xs[j]? = some (V.ref a) → i = j := by
  intro i j o o' a h1 h2 h3 h4
  obtain ⟨b, e1, _, q1⟩ := own_arg R rv ha h1
  obtain ⟨c, e2, _, q2⟩ := own_arg R rv ha h2
  rw [h3] at e1; cases e1
  rw [h4] at e2; cases e2
  rcases q1 with ⟨r1, g1, _⟩ | ⟨k, r1, en1, _, g1⟩
  · rcases q2 with ⟨r2, g2, _⟩ | ⟨k2, r2, en2, _, g2⟩
    · exact rv.frU i j o o' _ r1 r2 h3 h4
    · rw [g1] at g2; cases g2
  · rcases q2 with ⟨r2, g2, _⟩ | ⟨k2, r2, en2, _, g2⟩
    · rw [g1] at g2; cases g2
    · rw [g1] at g2
      cases g2
      exact (argsOf_is ha).2.2.2 i j k o o' r1 r2 h1 h2
def gIn (G : Gh) (as : List Sl) (xs : List V) : Gh := fun a => match argIx as xs a with
  | some j => .slot j
  | none => match G a with
    | .slot _ => .hold
    | t => t
def dropT : Tag → Tag
  | .slot _ => .free
  | t => t
def gOut (G G2 : Gh) (rs : List RV) (as fin : List Sl) (xs : List V) : Gh := fun a => match argIx as xs a with
  | some j => (match rs[j]?, fin[j]? with
    | some (.hd i), some (.own _) => .slot i
    | _, _ => dropT (G2 a))
  | none => (match G a with
    | .slot i => .slot i
    | _ => dropT (G2 a))
theorem gIn_some {G : Gh} {as : List Sl} {xs : List V} {a : Addr} {j : Nat} (h : argIx as xs a = some j) : gIn G as xs a = .slot j := by unfold gIn; rw [h]
theorem gIn_none {G : Gh} {as : List Sl} {xs : List V} {a : Addr} (h : argIx as xs a = none) : gIn G as xs a = match G a with | .slot _ => .hold | t => t := by unfold gIn; rw [h]
section
variable {G0 G : Gh} {s : SS} {σ : L2.St} {H0 H : Hp} {rs : List RV} {xs : List V} {as : List Sl} (R : Rel K mg G s σ H) (rv : RVRs K mg G0 G H σ rs xs) (ha : argsOf s [] rs = some as)
include R rv ha
theorem arg_tag {a : Addr} {j : Nat} (h : argIx as xs a = some j) : G a = .hold ∧ G0 a ≠ .hold ∨ ∃ i, G a = .slot i := by
  obtain ⟨⟨o, h1⟩, h2⟩ := argIx_some h
  obtain ⟨b, e1, _, q⟩ := own_arg R rv ha h1
  rw [h2] at e1; cases e1
  rcases q with ⟨_, g, n⟩ | ⟨i, _, _, _, g⟩
  · exact .inl ⟨g, n⟩
  · exact .inr ⟨i, g⟩
theorem arg_none {a : Addr} (h1 : G a ≠ .hold) (h2 : ∀ i, G a ≠ .slot i) : argIx as xs a = none := by
  cases e : argIx as xs a with
  | none => rfl
  | some j =>
    rcases arg_tag R rv ha e with ⟨g, _⟩ | ⟨i, g⟩
    · exact absurd g h1
    · exact absurd g (h2 i)
theorem in_mono : Mono G H (gIn G as xs) H := by
  refine ⟨fun a e => ⟨?_, .inl rfl⟩, fun a l e => ?_, fun _ _ e => e, fun _ _ _ e => e⟩
  · rw [gIn_none (arg_none R rv ha (by rw [e]; exact fun z => nomatch z) (fun i => by rw [e]; exact fun z => nomatch z)), e]
  · rw [gIn_none (arg_none R rv ha (by rw [e]; exact fun z => nomatch z) (fun i => by rw [e]; exact fun z => nomatch z)), e]
theorem in_rel : Rel K mg (gIn G as xs) ⟨as, s.sto⟩ (xs.map some) H := by
  obtain ⟨hl, his, _, _⟩ := argsOf_is ha
  have hm := in_mono R rv ha
  have locB : ∀ a l, gIn G as xs a = .loc l → G a = .loc l := fun a l e => by
    cases q : argIx as xs a with
    | some j => rw [gIn_some q] at e; cases e
    | none =>
      rw [gIn_none q] at e
      cases g : G a with
      | slot i => rw [g] at e; cases e
      | _ => rw [g] at e; exact e
  refine ⟨by simp [hl, rv.length], fun j sl e => ?_, fun l so e => ?_, fun a b l h1 h2 => R.uniq a b l (locB a l h1) (locB b l h2), fun a h => ?_, fun a l h => R.lim a l (locB a l h)⟩
  · have hj : j < rs.length := by rw [← hl]; exact (List.getElem?_eq_some_iff.mp e).1
    obtain ⟨r, hr⟩ : ∃ r, rs[j]? = some r := ⟨rs[j], by simp [hj]⟩
    obtain ⟨a', e1, ai⟩ := his j r hr
    have e' : as[j]? = some sl := e
    rw [e'] at e1
    cases e1
    obtain ⟨x, ex, rx⟩ := rv.get hr
    have exj : ((xs.map some)[j]?).join = some x := by rw [List.getElem?_map, ex]; rfl
    cases sl with
    | un => trivial
    | val v =>
      refine ⟨x, exj, ?_⟩
      cases r with
      | sh w => cases ai; exact PVR.step rx hm
      | fr o => cases ai
      | hd i =>
        obtain ⟨ei, _⟩ := ai
        obtain ⟨y, e2, p⟩ := R.val ei
        have hx : σ[i]? = some (some x) := rx
        rw [e2] at hx
        cases hx
        exact p.step hm
    | own o =>
      obtain ⟨b, e2, ob, _⟩ := own_arg R rv ha e'
      rw [ex] at e2
      cases e2
      exact ⟨b, exj, gIn_some (argIx_uniq (args_uniq R rv ha) e' ex), ob.step rfl hm⟩
  · obtain ⟨a, g, h⟩ := R.sto l so e
    exact ⟨a, hm.loc a l g, h.step rfl hm⟩
  · refine R.trk a fun z => h ?_
    rw [gIn_none (arg_none R rv ha (by rw [z]; exact fun z => nomatch z) (fun i => by rw [z]; exact fun z => nomatch z)), z]
variable {G2 : Gh} {H2 : Hp} {fin : List Sl} {sto' : List SO} (R2 : Rel K mg G2 ⟨fin, sto'⟩ (xs.map some) H2) (st2 : Step (gIn G as xs) H G2 H2)
include R2
theorem out_own {a : Addr} {j i : Nat} {o : PV} (q : argIx as xs a = some j) (h1 : rs[j]? = some (.hd i)) (h2 : fin[j]? = some (.own o)) : G2 a = .slot j ∧ ObR K mg G2 H2 a o ∧ gOut G G2 rs as fin xs a = .slot i := by
  obtain ⟨⟨_, _⟩, e⟩ := argIx_some q
  obtain ⟨b, e1, g, ob⟩ := R2.own (i := j) h2
  rw [List.getElem?_map, e] at e1
  cases e1
  refine ⟨g, ob, ?_⟩
  unfold gOut
  rw [q]
  simp only [h1, h2]
theorem out_cases (a : Addr) : (∃ i, gOut G G2 rs as fin xs a = .slot i ∧ ((∃ j, G2 a = .slot j) ∨ (G a = .slot i ∧ argIx as xs a = none))) ∨ gOut G G2 rs as fin xs a = dropT (G2 a) := by
  cases q : argIx as xs a with
  | some j =>
    cases h1 : rs[j]? with
    | none => exact .inr (by unfold gOut; rw [q]; simp only [h1])
    | some r =>
      cases r with
      | hd i =>
        cases h2 : fin[j]? with
        | none => exact .inr (by unfold gOut; rw [q]; simp only [h1, h2])
        | some f =>
          cases f with
          | own o =>
            obtain ⟨g, _, e⟩ := out_own R rv ha R2 q h1 h2
            exact .inl ⟨i, e, .inl ⟨j, g⟩⟩
          | _ => exact .inr (by unfold gOut; rw [q]; simp only [h1, h2])
      | _ => exact .inr (by unfold gOut; rw [q]; simp only [h1])
  | none =>
    cases g : G a with
    | slot i => exact .inl ⟨i, by unfold gOut; rw [q]; simp only [g], .inr ⟨rfl, rfl⟩⟩
    | _ => exact .inr (by unfold gOut; rw [q]; simp only [g])
include st2
theorem slot_held {a : Addr} {i : Nat} (g : G a = .slot i) (q : argIx as xs a = none) : G2 a = .hold ∧ H2 a = H a := st2.hold a (by rw [gIn_none q, g])
theorem out_mono : Mono G2 H2 (gOut G G2 rs as fin xs) H2 := by
  refine ⟨fun a e => ⟨?_, .inl rfl⟩, fun a l e => ?_, fun _ _ e => e, fun _ _ _ e => e⟩
  · rcases out_cases R rv ha R2 a with ⟨i, _, ⟨j, h⟩ | ⟨g, q⟩⟩ | h
    · rw [e] at h; cases h
    · rw [(slot_held R rv ha R2 st2 g q).1] at e; cases e
    · rw [h, e]; rfl
  · rcases out_cases R rv ha R2 a with ⟨i, _, ⟨j, h⟩ | ⟨g, q⟩⟩ | h
    · rw [e] at h; cases h
    · rw [(slot_held R rv ha R2 st2 g q).1] at e; cases e
    · rw [h, e]; rfl
theorem out_hold {a : Addr} (e : G2 a = .hold) (n : gIn G as xs a ≠ .hold) : gOut G G2 rs as fin xs a = .hold := by
  rcases out_cases R rv ha R2 a with ⟨i, _, ⟨j, h⟩ | ⟨g, q⟩⟩ | h
  · rw [e] at h; cases h
  · exact absurd (by rw [gIn_none q, g]) n
  · rw [h, e]; rfl
theorem out_rel : Rel K mg (gOut G G2 rs as fin xs) ⟨backE s.env rs as fin, sto'⟩ σ H2 := by
  obtain ⟨hl, his, _, _⟩ := argsOf_is ha
  have hm := out_mono R rv ha R2 st2
  have lf : fin.length = rs.length := by have := R2.len; simp at this; rw [this, rv.length]
  have locB : ∀ a l, gOut G G2 rs as fin xs a = .loc l → G2 a = .loc l := fun a l e => by
    rcases out_cases R rv ha R2 a with ⟨i, h, _⟩ | h
    · rw [h] at e; cases e
    · rw [h] at e
      cases g : G2 a with
      | slot i => rw [g] at e; cases e
      | _ => rw [g] at e; exact e
  refine ⟨by rw [backE_len]; exact R.len, fun i sl e => ?_, fun l so e => ?_, fun a b l h1 h2 => R2.uniq a b l (locB a l h1) (locB b l h2), fun a h => ?_, fun a l h => R2.lim a l (locB a l h)⟩
  · rcases backE_get hl lf e with ⟨j, o, g1, g2, g3⟩ | ⟨g1, g2⟩
    · have sr := R2.slots j sl g3
      obtain ⟨b, eb, _, q⟩ := own_arg R rv ha g2
      have hx : σ[i]? = some (some (.ref b)) := by
        rcases q with ⟨z, _⟩ | ⟨i', z, _, z2, _⟩
        · rw [g1] at z; cases z
        · rw [g1] at z; cases z; exact z2
      have ej : ((xs.map some)[j]?).join = some (.ref b) := by rw [List.getElem?_map, eb]; rfl
      cases sl with
      | un => trivial
      | val v =>
        obtain ⟨y, e1, p⟩ := sr
        rw [ej] at e1
        cases e1
        exact ⟨_, get_join hx, p.step hm⟩
      | own o' =>
        have q := argIx_uniq (args_uniq R rv ha) g2 eb
        obtain ⟨_, ob, eo⟩ := out_own R rv ha R2 q g1 g3
        exact ⟨b, get_join hx, eo, ob.step rfl hm⟩
    · have sr := R.slots i sl g2
      have m0 := ((in_mono R rv ha).trans st2.mono).trans hm
      cases sl with
      | un => trivial
      | val v =>
        obtain ⟨y, e1, p⟩ := sr
        exact ⟨y, e1, p.step m0⟩
      | own o =>
        obtain ⟨a, e1, g, ob⟩ := sr
        have q : argIx as xs a = none := by
          cases q : argIx as xs a with
          | none => rfl
          | some j =>
            obtain ⟨⟨o', z1⟩, z2⟩ := argIx_some q
            obtain ⟨b, eb, _, z3⟩ := own_arg R rv ha z1
            rw [z2] at eb
            cases eb
            rcases z3 with ⟨_, z4, _⟩ | ⟨i', z4, _, _, z5⟩
            · rw [g] at z4; cases z4
            · rw [g] at z5; cases z5; exact absurd z1 (g1 j o' z4)
        obtain ⟨_, eH⟩ := slot_held R rv ha R2 st2 g q
        refine ⟨a, e1, ?_, ob.step eH m0⟩
        unfold gOut
        rw [q]
        simp only [g]
  · obtain ⟨a, g, h⟩ := R2.sto l so e
    exact ⟨a, hm.loc a l g, h.step rfl hm⟩
  · rcases out_cases R rv ha R2 a with ⟨i, _, ⟨j, z⟩ | ⟨g, q⟩⟩ | z
    · exact R2.trk a (by rw [z]; exact fun z => nomatch z)
    · exact R2.trk a (by rw [(slot_held R rv ha R2 st2 g q).1]; exact fun z => nomatch z)
    · refine R2.trk a fun z2 => h ?_
      rw [z, z2]; rfl
theorem out_step (st : Step G0 H0 G H) : Step G0 H0 (gOut G G2 rs as fin xs) H2 := by
  refine ⟨(st.mono.trans ((in_mono R rv ha).trans st2.mono)).trans (out_mono R rv ha R2 st2), fun a e => ?_⟩
  obtain ⟨g, e1⟩ := st.hold a e
  have q : argIx as xs a = none := by
    cases q : argIx as xs a with
    | none => rfl
    | some j =>
      rcases arg_tag R rv ha q with ⟨_, n⟩ | ⟨i, z⟩
      · exact absurd e n
      · rw [g] at z; cases z
  obtain ⟨g2, e2⟩ := st2.hold a (by rw [gIn_none q, g])
  refine ⟨?_, e2.trans e1⟩
  unfold gOut
  rw [q]
  simp only [g, g2]
  rfl
end
/-- THE CALL -/
theorem call_ok {G0 G : Gh} {s : SS} {σ : L2.St} {H0 H : Hp} {rs : List RV} {xs : List V} {cf : CF} {f : Str} {Ex : L2.WX} {Q : L2.VK} (R : Rel K mg G s σ H) (st : Step G0 H0 G H) (rv : RVRs K mg G0 G H σ rs xs)
    (h : (∃ r s', callE cf f rs s = .ok r s' ∧ ∀ G' H' x, Rel K mg G' s' σ H' → Step G0 H0 G' H' → RVR K mg G0 G' H' σ r x → Q x H') ∨ (∃ x s', callE cf f rs s = .exc x s' ∧ xcP K mg Ex x s' G0 σ H0)) :
    spF K mg cf f xs H Q (fun c d H => Ex c d σ H) := by
  cases ha : argsOf s [] rs with
  | none =>
    unfold callE at h
    rw [ha] at h
    rcases h with ⟨_, _, z, _⟩ | ⟨_, _, z, _⟩ <;> cases z
  | some as =>
    refine ⟨gIn G as xs, as, s.sto, in_rel R rv ha, ?_⟩
    unfold callE at h
    rw [ha] at h
    simp only at h
    cases ec : cf f as s.sto with
    | bad => rw [ec] at h; rcases h with ⟨_, _, z, _⟩ | ⟨_, _, z, _⟩ <;> cases z
    | ok r fin sto' =>
      rw [ec] at h
      rcases h with ⟨_, _, z, h⟩ | ⟨_, _, z, _⟩
      · cases z
        refine .inl ⟨r, fin, sto', rfl, fun G2 H2 x R2 st2 rx => ?_⟩
        refine h _ H2 x (out_rel R rv ha R2 st2) (out_step R rv ha R2 st2 st) ?_
        have hm := out_mono R rv ha R2 st2
        cases r with
        | sh v => exact PVR.step rx hm
        | fr o =>
          obtain ⟨a, rfl, g, n, ob⟩ := rx
          have n0 : G0 a ≠ .hold := fun z => by
            obtain ⟨g1, _⟩ := st.hold a z
            apply n
            have q : argIx as xs a = none := by
              cases q : argIx as xs a with
              | none => rfl
              | some j =>
                rcases arg_tag R rv ha q with ⟨_, n⟩ | ⟨i, z2⟩
                · exact absurd z n
                · rw [g1] at z2; cases z2
            rw [gIn_none q, g1]
          exact ⟨a, rfl, out_hold R rv ha R2 st2 g n, n0, ob.step rfl hm⟩
        | hd i =>
          have z : ([] : L2.St)[i]? = some (some x) := rx
          simp at z
      · cases z
    | exc e fin sto' =>
      rw [ec] at h
      rcases h with ⟨_, _, z, _⟩ | ⟨_, _, z, h⟩
      · cases z
      · cases z
        refine .inr ⟨e, fin, sto', rfl, fun G2 H2 C d R2 st2 rx => ?_⟩
        exact h _ H2 C d (out_rel R rv ha R2 st2) (out_step R rv ha R2 st2 st) rx.elim
end
end TP

set_option Elab.async false
set_option linter.all false
set_option maxRecDepth 100000
set_option maxHeartbeats 8000000
/-! Sal5: an expression of the text does what its tree does. -/
namespace TP
open PySem PySem.Spec PyProof.Rows
open L2 (V Hp HO Key upd upd_same upd_ne SqL SqT Rd OpR UnR CallR IxR Vals Inv PE PT PW PA PI PG PGs PO PTs Vis Gl Loc)

section
variable {g : Cg} {N : List Str} {k : Nat} {sc : Scope} {e : Expr} {e' : E}
theorem cE_star (h : cE g N k sc e = some e') : ∀ (es : List Expr) (env : Env), starEach (e :: es) env = (false, eval e env) :: starEach es env := by
  cases k with
  | zero => cases h
  | succ k => cases e <;> first | (intro _ _; rfl) | (simp only [cE] at h; cases h)
theorem cE_base (h : cE g N k sc e = some e') (hc : isCallE e = false) : ∀ (name : Str) (env : Env), attributeBase e name env (eval e env) = eval e env := by
  cases k with
  | zero => cases h
  | succ k => cases e <;> first | (intro _ _; rfl) | (cases hc)
theorem cE_fold (h : cE g N k sc e = some e') : ∀ (env : Env) (x : Value), foldedSetIterable e env x = pure x := by
  cases k with
  | zero => cases h
  | succ k => cases e <;> first | (intro _ _; rfl) | (simp only [cE] at h; cases h)
theorem ix_plain (h : isSliceE e = false) : L2.PlainIx e := by
  intro o i
  cases e <;> first | rfl | (cases h)
theorem cEs_star : ∀ {es : List Expr} {es' : List E}, mapO (cE g N k sc) es = some es' → ∀ (env : Env), starEach es env = es.map fun e => (false, eval e env)
  | [], es', _, env => rfl
  | e :: es, es', h, env => by
    simp only [mapO] at h
    cases h1 : cE g N k sc e with
    | none => rw [h1] at h; cases h
    | some e1 =>
      cases h2 : mapO (cE g N k sc) es with
      | none => rw [h1, h2] at h; cases h
      | some es1 => rw [cE_star h1, cEs_star h2, List.map_cons]
theorem backTo_plain (pos : Pos) (es : List Expr) (env : Env) : (backTo pos (es.map fun e => (false, eval e env))).any (·.1) = false := by
  induction es with
  | nil => rfl
  | cons e es ih =>
    cases es with
    | nil => rfl
    | cons e2 es => exact ih
end

section
variable {X : L2.Cx} {g : Cg} {cf : CF} {Ex : L2.WX}
abbrev tEX (X : L2.Cx) (cf : CF) (Ex : L2.WX) (e : E) : L2.TE := tE X.K X.mg cf Ex e
abbrev tAX (X : L2.Cx) (cf : CF) (Ex : L2.WX) (e : List E) : L2.TA := tA X.K X.mg cf Ex e
abbrev tTX (X : L2.Cx) (cf : CF) (Ex : L2.WX) (e : E) : L2.TT := tT X.K X.mg cf Ex e
abbrev tIX (X : L2.Cx) (cf : CF) (Ex : L2.WX) (e : I) : L2.TI := tI X.K X.mg cf Ex e
theorem XO.hu (o : XO X g cf Ex) : X.A.units + 64 < cLine := o.room.units

/-! names and constants -/
theorem pe_var' {i : Nat} {x : Str} {pos : Pos} (hp : plainNm x = true) (hi : X.N[i]? = some x) (hv : visB X.env.scope x = true) : PE X (.Name x pos) (tEX X cf Ex (.var i)) := by
  simp only [plainNm, Bool.and_eq_true, Bool.not_eq_true'] at hp
  have vis : Vis X.env.scope x := by
    unfold visB at hv
    split at hv
    · rename_i z; exact .inl z
    · rename_i z; exact .inr (.inl z)
    · rename_i z; exact .inr (.inr z)
    · cases hv
  refine PE.imp (L2.pe_var hi vis hp.1.1 hp.1.2) fun σ H Q h => ?_
  obtain ⟨G, s, R, h⟩ := h
  simp only [evalE] at h
  cases e : s.env[i]? with
  | none => rw [e] at h; rcases h with ⟨_, _, z, _⟩ | ⟨_, _, z, _⟩ <;> cases z
  | some sl =>
    rw [e] at h
    cases sl with
    | un => rcases h with ⟨_, _, z, _⟩ | ⟨_, _, z, _⟩ <;> cases z
    | val v =>
      rcases h with ⟨_, _, z, h⟩ | ⟨_, _, z, _⟩ <;> cases z
      obtain ⟨x, e1, p⟩ := R.val e
      exact ⟨x, e1, h G H x R .refl p⟩
    | own ob =>
      rcases h with ⟨_, _, z, h⟩ | ⟨_, _, z, _⟩ <;> cases z
      obtain ⟨a, e1, _, _⟩ := R.own e
      exact ⟨_, e1, h G H _ R .refl e1⟩
theorem tE_con {v : PV} {x : V} {σ : L2.St} {H : Hp} {Q : L2.VK} (hx : ∀ G H, PVR X.K X.mg G H v x) (h : tEX X cf Ex (.con v) σ H Q) : L2.tC x σ H Q := by
  obtain ⟨G, s, R, h⟩ := h
  simp only [evalE] at h
  rcases h with ⟨_, _, z, h⟩ | ⟨_, _, z, _⟩ <;> cases z
  exact h G H x R .refl (hx G H)
theorem gl_of {x : Str} (h : glB X.env.scope x = true) : Gl X x := by
  unfold glB at h
  split at h
  · rename_i z; exact z
  · cases h
theorem nm_ne {x : Str} (hp : plainNm x = true) : (x == ("__debug__" : Str)) = false ∧ x ≠ "__name__" := by
  simp only [plainNm, Bool.and_eq_true, Bool.not_eq_true', decide_eq_false_iff_not] at hp
  exact ⟨hp.1.1, hp.2⟩
theorem tyNm_boot {x : Str} {n : String} (h : tyNm x = some n) : x ∈ bnames ∧ bootBuiltins x = some (.type n) := by
  unfold tyNm at h
  repeat' split at h
  all_goals first | cases h | skip
  all_goals (rename_i e; subst e; exact ⟨by decide +kernel, by decide +kernel⟩)
theorem pe_tyNm (o : XO X g cf Ex) {x : Str} {n : String} {pos : Pos} (hp : plainNm x = true) (hg : glB X.env.scope x = true) (h : tyNm x = some n) : PE X (.Name x pos) (tEX X cf Ex (.con (.ty n))) := by
  obtain ⟨h1, h2⟩ := tyNm_boot h
  obtain ⟨h3, h4⟩ := nm_ne hp
  exact PE.imp (L2.pe_bltn (v := .ty n) (gl_of hg) (o.bn x h1) h2 rfl h4 h3) fun σ H Q q => tE_con (fun _ _ => .ty n) q
theorem pe_gcon (o : XO X g cf Ex) {x : Str} {v : PV} {pos : Pos} (hp : plainNm x = true) (hg : glB X.env.scope x = true) (h : g.con.lookup x = some v) : PE X (.Name x pos) (tEX X cf Ex (.con v)) := by
  obtain ⟨u, V, h1, h2, h3⟩ := o.con x v h
  exact PE.imp (L2.pe_glob (gl_of hg) h1 h2 (nm_ne hp).1) fun σ H Q q => tE_con h3 q

/-! two-place and one-place operations -/
theorem pe_bin2 (o : XO X g cf Ex) {a b : Expr} {a' b' : E} {op : Operator} {p : P} {pos : Pos} (hb : binP op = some p) (ha : PE X a (tEX X cf Ex a')) (hb' : PE X b (tEX X cf Ex b')) : PE X (.BinOp a op b pos) (tEX X cf Ex (.prim p [a', b'])) := by
  cases op <;> simp only [binP] at hb <;> cases hb
  · exact PE.imp (L2.pe_op opAdd ha hb') fun σ H Q h => tE_prim2 (fun _ _ => rfl) h
  · exact PE.imp (L2.pe_op opSub ha hb') fun σ H Q h => tE_prim2 (fun _ _ => rfl) h
  · exact PE.imp (L2.pe_op opMul ha hb') fun σ H Q h => tE_prim2 (fun _ _ => rfl) h
  · exact PE.imp (L2.pe_op opMod ha hb') fun σ H Q h => tE_prim2 (fun _ _ => rfl) h
  · exact PE.imp (L2.pe_op opPow ha hb') fun σ H Q h => tE_prim2 (fun _ _ => rfl) h
  · exact PE.imp (L2.pe_op opFdiv ha hb') fun σ H Q h => tE_prim2 (fun _ _ => rfl) h
theorem pe_neg' {a : Expr} {a' : E} {pos : Pos} (ha : PE X a (tEX X cf Ex a')) : PE X (.UnaryOp .USub a pos) (tEX X cf Ex (.prim .neg [a'])) :=
  PE.imp (L2.pe_un unNeg ha) fun σ H Q h => tE_prim1 (fun _ => rfl) h
/-- a comparison's rule, by values -/
theorem cmpR (o : XO X g cf Ex) {op : CmpOp} {p : P} (h : cmpP op = some p) : ∃ f, (∀ c d, primSem p [c, d] = f c d) ∧ OpR X (compareOp op) (rP2 X.K X.mg f) := by
  cases op <;> simp only [cmpP] at h <;> cases h
  · exact ⟨_, fun _ _ => rfl, opEq o.hu⟩
  · exact ⟨_, fun _ _ => rfl, opNe o.hu⟩
  · exact ⟨_, fun _ _ => rfl, opOrd L2.op_lt⟩
  · exact ⟨_, fun _ _ => rfl, opOrd L2.op_le⟩
  · exact ⟨_, fun _ _ => rfl, opOrd L2.op_gt⟩
  · exact ⟨_, fun _ _ => rfl, opOrd L2.op_ge⟩
  · exact ⟨_, fun _ _ => rfl, opIn o.hu⟩
  · exact ⟨_, fun _ _ => rfl, opNotIn o.hu⟩
theorem pe_cmp' (o : XO X g cf Ex) {a b : Expr} {a' b' : E} {op : CmpOp} {p : P} {pos : Pos} (hm : behindInMarks op b = false) (hp : cmpP op = some p) (ha : PE X a (tEX X cf Ex a')) (hb : PE X b (tEX X cf Ex b')) :
    PE X (.Compare a [op] [b] pos) (tEX X cf Ex (.prim p [a', b'])) ∧ PT X (.Compare a [op] [b] pos) (tTX X cf Ex (.prim p [a', b'])) := by
  obtain ⟨f, hf, ho⟩ := cmpR o hp
  refine ⟨PE.imp (L2.pe_cmpR ho ha hb hm) fun σ H Q h => tE_prim2 hf h, PT.imp (L2.pt_cmpR ho ha hb hm) fun σ H Q h => ?_⟩
  exact tE_prim2 hf (tE_of_tT h)
theorem pe_isN' {a b : Expr} {a' : E} {pos : Pos} (hb : isNoneC b = true) (ha : PE X a (tEX X cf Ex a')) : PE X (.Compare a [.Is] [b] pos) (tEX X cf Ex (.prim .isN [a'])) ∧ PT X (.Compare a [.Is] [b] pos) (tTX X cf Ex (.prim .isN [a'])) := by
  unfold isNoneC at hb
  split at hb
  · have red : ∀ {σ H} {Q : L2.VK}, tEX X cf Ex (.prim .isN [a']) σ H Q → L2.tOp (fun x y H Q => y = .non ∧ Q (.bl (decide (x = .non))) H) (tEX X cf Ex a') (L2.tC .non) σ H Q := fun h =>
      tE_mono (tE_prim1 (f := fun c => some (.sh (.bl (isNon c)))) (fun _ => rfl) h) fun x H1 ⟨G, c, r, hc, e, q⟩ => ⟨rfl, by cases e; rw [isNon_V hc]; exact q _ _ (.same (.bl _))⟩
    exact ⟨PE.imp (L2.pe_cmpR L2.op_isN ha L2.pe_non (L2.nomark _)) fun σ H Q h => red h, PT.imp (L2.pt_cmpR L2.op_isN ha L2.pe_non (L2.nomark _)) fun σ H Q h => red (tE_of_tT h)⟩
  · cases hb
theorem pe_notN' {a b : Expr} {a' : E} {pos : Pos} (hb : isNoneC b = true) (ha : PE X a (tEX X cf Ex a')) : PE X (.Compare a [.IsNot] [b] pos) (tEX X cf Ex (.prim .notN [a'])) ∧ PT X (.Compare a [.IsNot] [b] pos) (tTX X cf Ex (.prim .notN [a'])) := by
  unfold isNoneC at hb
  split at hb
  · have red : ∀ {σ H} {Q : L2.VK}, tEX X cf Ex (.prim .notN [a']) σ H Q → L2.tOp (fun x y H Q => y = .non ∧ Q (.bl (!decide (x = .non))) H) (tEX X cf Ex a') (L2.tC .non) σ H Q := fun h =>
      tE_mono (tE_prim1 (f := fun c => some (.sh (.bl (!isNon c)))) (fun _ => rfl) h) fun x H1 ⟨G, c, r, hc, e, q⟩ => ⟨rfl, by cases e; rw [isNon_V hc]; exact q _ _ (.same (.bl _))⟩
    exact ⟨PE.imp (L2.pe_cmpR L2.op_notN ha L2.pe_non (L2.nomark _)) fun σ H Q h => red h, PT.imp (L2.pt_cmpR L2.op_notN ha L2.pe_non (L2.nomark _)) fun σ H Q h => red (tE_of_tT h)⟩
  · cases hb
/-- a op b op' c -/
theorem tE_chain {p q : P} {a b c : E} {f f' : PV → PV → Option RV} (hf : ∀ c d, primSem p [c, d] = f c d) (hf' : ∀ c d, primSem q [c, d] = f' c d) {σ : L2.St} {H : Hp} {Q : L2.VK} (h : tEX X cf Ex (.chain p q a b c) σ H Q) :
    L2.tChain (rP2 X.K X.mg f) (rP2 X.K X.mg f') (tEX X cf Ex a) (tEX X cf Ex b) (tEX X cf Ex c) σ H Q := by
  obtain ⟨G, s, R, h⟩ := h
  simp only [evalE] at h
  refine ⟨G, s, R, ?_⟩
  cases e1 : evalE cf a s with
  | bad => rw [e1] at h; rcases h with ⟨_, _, z, _⟩ | ⟨_, _, z, _⟩ <;> cases z
  | exc x s1 =>
    rw [e1] at h
    rcases h with ⟨_, _, z, _⟩ | ⟨_, _, z, h⟩ <;> cases z
    exact .inr ⟨_, _, rfl, h⟩
  | ok ra s1 =>
    rw [e1] at h
    simp only [Res.bind] at h
    refine .inl ⟨ra, s1, rfl, fun G1 H1 x R1 st1 rv1 => ⟨G1, s1, R1, ?_⟩⟩
    cases e2 : evalE cf b s1 with
    | bad => rw [e2] at h; rcases h with ⟨_, _, z, _⟩ | ⟨_, _, z, _⟩ <;> cases z
    | exc x s2 =>
      rw [e2] at h
      rcases h with ⟨_, _, z, _⟩ | ⟨_, _, z, h⟩ <;> cases z
      exact .inr ⟨_, _, rfl, h.step st1⟩
    | ok rb s2 =>
      rw [e2] at h
      simp only at h
      refine .inl ⟨rb, s2, rfl, fun G2 H2 y R2 st2 rv2 => ?_⟩
      have rva := rv1.mono st2
      cases e3 : conts s2 [ra, rb] with
      | none => rw [e3] at h; rcases h with ⟨_, _, z, _⟩ | ⟨_, _, z, _⟩ <;> cases z
      | some cs =>
        rw [e3] at h
        simp only at h
        have hcs := conts_ok R2 (RVRs.push st1 rv1 st2 (.cons rv2 (fun _ _ _ _ z => by simp at z) .nil)) e3
        obtain ⟨ca, cb, rfl⟩ : ∃ ca cb, cs = [ca, cb] := by
          cases hcs with
          | cons _ t => cases t with
            | cons _ t => cases t; exact ⟨_, _, rfl⟩
        obtain ⟨_, _, ez, ha, hb⟩ := hcs.two
        cases ez
        rw [hf] at h
        cases e4 : f ca cb with
        | none => rw [e4] at h; rcases h with ⟨_, _, z, _⟩ | ⟨_, _, z, _⟩ <;> cases z
        | some r =>
          rw [e4] at h
          refine ⟨G2, ca, cb, r, ha, hb, e4, fun z H3 oz => ?_⟩
          have bool : ∃ t, r = .sh (.bl t) := by
            split at h
            · rename_i q; cases q; exact ⟨_, rfl⟩
            · rename_i q; cases q; exact ⟨_, rfl⟩
            · rcases h with ⟨_, _, z, _⟩ | ⟨_, _, z, _⟩ <;> cases z
          obtain ⟨t, rfl⟩ := bool
          obtain ⟨rfl, rfl⟩ : z = .bl t ∧ H3 = H2 := by
            cases oz with
            | same p => cases p; exact ⟨rfl, rfl⟩
          refine ⟨t, rfl, ?_⟩
          cases t with
          | false =>
            rw [if_neg Bool.false_ne_true]
            simp only at h
            rcases h with ⟨_, _, z, h⟩ | ⟨_, _, z, _⟩ <;> cases z
            exact h G2 H3 _ R2 (st1.trans st2) (.bl _)
          | true =>
            rw [if_pos rfl]
            simp only at h
            refine ⟨G2, s2, R2, ?_⟩
            cases e5 : evalE cf c s2 with
            | bad => rw [e5] at h; rcases h with ⟨_, _, z, _⟩ | ⟨_, _, z, _⟩ <;> cases z
            | exc x s3 =>
              rw [e5] at h
              rcases h with ⟨_, _, z, _⟩ | ⟨_, _, z, h⟩ <;> cases z
              exact .inr ⟨_, _, rfl, h.step (st1.trans st2)⟩
            | ok rc s3 =>
              rw [e5] at h
              simp only at h
              refine .inl ⟨rc, s3, rfl, fun G3 H4 w R3 st3 rv3 => ?_⟩
              cases e6 : conts s3 [rb, rc] with
              | none => rw [e6] at h; rcases h with ⟨_, _, z, _⟩ | ⟨_, _, z, _⟩ <;> cases z
              | some cs =>
                rw [e6] at h
                simp only at h
                have hcs := conts_ok R3 (RVRs.push st2 rv2 st3 (.cons rv3 (fun _ _ _ _ z => by simp at z) .nil)) e6
                obtain ⟨c1, c2, rfl⟩ : ∃ ca cb, cs = [ca, cb] := by
                  cases hcs with
                  | cons _ t => cases t with
                    | cons _ t => cases t; exact ⟨_, _, rfl⟩
                obtain ⟨_, _, ez, hb', hc'⟩ := hcs.two
                cases ez
                rw [hf'] at h
                cases e7 : f' c1 c2 with
                | none => rw [e7] at h; rcases h with ⟨_, _, z, _⟩ | ⟨_, _, z, _⟩ <;> cases z
                | some r2 =>
                  rw [e7] at h
                  rcases h with ⟨_, _, z, h⟩ | ⟨_, _, z, _⟩ <;> cases z
                  refine ⟨G3, c1, c2, _, hb', hc', e7, fun z H5 oz => ?_⟩
                  obtain ⟨G4, R4, st4, rv4⟩ := oz.rel R3
                  exact h G4 H5 z R4 (((st1.trans st2).trans st3).trans st4) (rv4.back ((st1.trans st2).trans st3))
theorem pe_chain' (o : XO X g cf Ex) {a b c : Expr} {a' b' c' : E} {op op' : CmpOp} {p q : P} {pos : Pos} (hm : lastMarks [op, op'] [b, c] = false) (hp : cmpP op = some p) (hq : cmpP op' = some q) (ha : PE X a (tEX X cf Ex a')) (hb : PE X b (tEX X cf Ex b')) (hc : PE X c (tEX X cf Ex c')) :
    PE X (.Compare a [op, op'] [b, c] pos) (tEX X cf Ex (.chain p q a' b' c')) ∧ PT X (.Compare a [op, op'] [b, c] pos) (tTX X cf Ex (.chain p q a' b' c')) := by
  obtain ⟨f, hf, ho⟩ := cmpR o hp
  obtain ⟨f', hf', ho'⟩ := cmpR o hq
  exact ⟨PE.imp (L2.pe_chain ho ho' ha hb hc hm) fun σ H Q h => tE_chain hf hf' h, PT.imp (L2.pt_chain ho ho' ha hb hc hm) fun σ H Q h => tE_chain hf hf' (tE_of_tT h)⟩

/-! tests, and, or, not, if else -/
/-- the first thing's evaluation, then the rest -/
theorem tT_of {a : E} {σ : L2.St} {H : Hp} {Qb : Bool → Hp → Prop} {G : Gh} {s : SS} (R : Rel X.K X.mg G s σ H) {α : Type} {F : RV → SS → Res α} (hok : ∀ r s1, evalE cf a s = .ok r s1 → ∃ b, testR s1 r = some b ∧ ∀ G1 H1, Rel X.K X.mg G1 s1 σ H1 → Step G H G1 H1 → Qb b H1)
    (hex : ∀ x s1, evalE cf a s = .exc x s1 → xcP X.K X.mg Ex x s1 G σ H) (hbad : evalE cf a s ≠ .bad) : tTX X cf Ex a σ H Qb := by
  refine ⟨G, s, R, ?_⟩
  cases e : evalE cf a s with
  | bad => exact absurd e hbad
  | exc x s1 => exact .inr ⟨x, s1, rfl, hex x s1 e⟩
  | ok r s1 =>
    obtain ⟨b, h1, h2⟩ := hok r s1 e
    exact .inl ⟨r, b, s1, rfl, h1, h2⟩
theorem tE_not {a : E} {σ : L2.St} {H : Hp} {Q : L2.VK} (h : tEX X cf Ex (.not a) σ H Q) : tTX X cf Ex a σ H fun b H1 => Q (.bl (!b)) H1 := by
  obtain ⟨G, s, R, h⟩ := h
  simp only [evalE] at h
  refine ⟨G, s, R, ?_⟩
  cases e1 : evalE cf a s with
  | bad => rw [e1] at h; rcases h with ⟨_, _, z, _⟩ | ⟨_, _, z, _⟩ <;> cases z
  | exc x s1 =>
    rw [e1] at h
    rcases h with ⟨_, _, z, _⟩ | ⟨_, _, z, h⟩ <;> cases z
    exact .inr ⟨_, _, rfl, h⟩
  | ok r s1 =>
    rw [e1] at h
    simp only [Res.bind] at h
    cases e2 : testR s1 r with
    | none => rw [e2] at h; rcases h with ⟨_, _, z, _⟩ | ⟨_, _, z, _⟩ <;> cases z
    | some b =>
      rw [e2] at h
      rcases h with ⟨_, _, z, h⟩ | ⟨_, _, z, _⟩ <;> cases z
      exact .inl ⟨r, b, s1, rfl, e2, fun G1 H1 R1 st1 => h G1 H1 _ R1 st1 (.bl _)⟩
theorem pe_not' {a : Expr} {a' : E} {pos : Pos} (hp : PE X a (tEX X cf Ex a')) (ht : PT X a (tTX X cf Ex a')) : PE X (.UnaryOp .Not a pos) (tEX X cf Ex (.not a')) ∧ PT X (.UnaryOp .Not a pos) (tTX X cf Ex (.not a')) := by
  refine ⟨PE.imp (L2.pe_not hp) fun σ H Q h => ?_, PT.imp (L2.pt_not ht) fun σ H Q h => ?_⟩
  · exact tE_of_tT (tE_not h)
  · have h := tE_not (tE_of_tT h)
    obtain ⟨G, s, R, h⟩ := h
    refine ⟨G, s, R, ?_⟩
    rcases h with ⟨r, b, s1, e1, e2, h⟩ | h
    · refine .inl ⟨r, b, s1, e1, e2, fun G1 H1 R1 st1 => ?_⟩
      obtain ⟨c, e, q⟩ := h G1 H1 R1 st1
      cases e
      exact q
    · exact .inr h
theorem tE_and {a b : E} {es : List E} {σ : L2.St} {H : Hp} {Q : L2.VK} (h : tEX X cf Ex (.and (a :: b :: es)) σ H Q) : tTX X cf Ex a σ H fun c H1 => if c = true then tEX X cf Ex (.and (b :: es)) σ H1 Q else Q (.bl false) H1 := by
  obtain ⟨G, s, R, h⟩ := h
  simp only [evalE, evalAnd] at h
  refine ⟨G, s, R, ?_⟩
  cases e1 : evalE cf a s with
  | bad => rw [e1] at h; rcases h with ⟨_, _, z, _⟩ | ⟨_, _, z, _⟩ <;> cases z
  | exc x s1 =>
    rw [e1] at h
    rcases h with ⟨_, _, z, _⟩ | ⟨_, _, z, h⟩ <;> cases z
    exact .inr ⟨_, _, rfl, h⟩
  | ok r s1 =>
    rw [e1] at h
    simp only [Res.bind] at h
    cases e2 : testR s1 r with
    | none => rw [e2] at h; rcases h with ⟨_, _, z, _⟩ | ⟨_, _, z, _⟩ <;> cases z
    | some c =>
      rw [e2] at h
      refine .inl ⟨r, c, s1, rfl, e2, fun G1 H1 R1 st1 => ?_⟩
      cases c with
      | false =>
        rw [if_neg Bool.false_ne_true]
        rcases h with ⟨_, _, z, h⟩ | ⟨_, _, z, _⟩ <;> cases z
        exact h G1 H1 _ R1 st1 (.bl _)
      | true =>
        rw [if_pos rfl]
        refine ⟨G1, s1, R1, ?_⟩
        simp only [evalE]
        rcases h with ⟨r2, s2, z, h⟩ | ⟨x, s2, z, h⟩
        · exact .inl ⟨r2, s2, z, fun G2 H2 y R2 st2 rv => h G2 H2 y R2 (st1.trans st2) (rv.back st1)⟩
        · exact .inr ⟨x, s2, z, h.step st1⟩
theorem tE_or {a b : E} {es : List E} {σ : L2.St} {H : Hp} {Q : L2.VK} (h : tEX X cf Ex (.or (a :: b :: es)) σ H Q) : tTX X cf Ex a σ H fun c H1 => if c = true then Q (.bl true) H1 else tEX X cf Ex (.or (b :: es)) σ H1 Q := by
  obtain ⟨G, s, R, h⟩ := h
  simp only [evalE, evalOr] at h
  refine ⟨G, s, R, ?_⟩
  cases e1 : evalE cf a s with
  | bad => rw [e1] at h; rcases h with ⟨_, _, z, _⟩ | ⟨_, _, z, _⟩ <;> cases z
  | exc x s1 =>
    rw [e1] at h
    rcases h with ⟨_, _, z, _⟩ | ⟨_, _, z, h⟩ <;> cases z
    exact .inr ⟨_, _, rfl, h⟩
  | ok r s1 =>
    rw [e1] at h
    simp only [Res.bind] at h
    cases e2 : testR s1 r with
    | none => rw [e2] at h; rcases h with ⟨_, _, z, _⟩ | ⟨_, _, z, _⟩ <;> cases z
    | some c =>
      rw [e2] at h
      refine .inl ⟨r, c, s1, rfl, e2, fun G1 H1 R1 st1 => ?_⟩
      cases c with
      | true =>
        rw [if_pos rfl]
        rcases h with ⟨_, _, z, h⟩ | ⟨_, _, z, _⟩ <;> cases z
        exact h G1 H1 _ R1 st1 (.bl _)
      | false =>
        rw [if_neg Bool.false_ne_true]
        refine ⟨G1, s1, R1, ?_⟩
        simp only [evalE]
        rcases h with ⟨r2, s2, z, h⟩ | ⟨x, s2, z, h⟩
        · exact .inl ⟨r2, s2, z, fun G2 H2 y R2 st2 rv => h G2 H2 y R2 (st1.trans st2) (rv.back st1)⟩
        · exact .inr ⟨x, s2, z, h.step st1⟩
/-- a list of tests' parts -/
inductive PEs (X : L2.Cx) (cf : CF) (Ex : L2.WX) : List Expr → List E → Prop where
  | nil : PEs X cf Ex [] []
  | cons {e : Expr} {es : List Expr} {e' : E} {es' : List E} : PE X e (tEX X cf Ex e') → PT X e (tTX X cf Ex e') → PEs X cf Ex es es' → PEs X cf Ex (e :: es) (e' :: es')
theorem tE_and1 {a : E} {σ : L2.St} {H : Hp} {Q : L2.VK} (h : tEX X cf Ex (.and [a]) σ H Q) : tEX X cf Ex a σ H Q := by
  obtain ⟨G, s, R, h⟩ := h
  simp only [evalE, evalAnd] at h
  exact ⟨G, s, R, h⟩
theorem tE_or1 {a : E} {σ : L2.St} {H : Hp} {Q : L2.VK} (h : tEX X cf Ex (.or [a]) σ H Q) : tEX X cf Ex a σ H Q := by
  obtain ⟨G, s, R, h⟩ := h
  simp only [evalE, evalOr] at h
  exact ⟨G, s, R, h⟩
/-- tests keep their shape -/
theorem tT_and {a b : E} {es : List E} {σ : L2.St} {H : Hp} {Q : Bool → Hp → Prop} (h : tTX X cf Ex (.and (a :: b :: es)) σ H Q) : tTX X cf Ex a σ H fun c H1 => if c = true then tTX X cf Ex (.and (b :: es)) σ H1 Q else Q false H1 := by
  obtain ⟨G, s, R, h⟩ := h
  simp only [evalE, evalAnd] at h
  refine ⟨G, s, R, ?_⟩
  cases e1 : evalE cf a s with
  | bad => rw [e1] at h; rcases h with ⟨_, _, _, z, _⟩ | ⟨_, _, z, _⟩ <;> cases z
  | exc x s1 =>
    rw [e1] at h
    rcases h with ⟨_, _, _, z, _⟩ | ⟨_, _, z, h⟩ <;> cases z
    exact .inr ⟨_, _, rfl, h⟩
  | ok r s1 =>
    rw [e1] at h
    simp only [Res.bind] at h
    cases e2 : testR s1 r with
    | none => rw [e2] at h; rcases h with ⟨_, _, _, z, _⟩ | ⟨_, _, z, _⟩ <;> cases z
    | some c =>
      rw [e2] at h
      refine .inl ⟨r, c, s1, rfl, e2, fun G1 H1 R1 st1 => ?_⟩
      cases c with
      | false =>
        rw [if_neg Bool.false_ne_true]
        rcases h with ⟨_, _, _, z, tb, h⟩ | ⟨_, _, z, _⟩ <;> cases z
        cases tb
        exact h G1 H1 R1 st1
      | true =>
        rw [if_pos rfl]
        refine ⟨G1, s1, R1, ?_⟩
        simp only [evalE]
        rcases h with ⟨r2, b2, s2, z, tb, h⟩ | ⟨x, s2, z, h⟩
        · exact .inl ⟨r2, b2, s2, z, tb, fun G2 H2 R2 st2 => h G2 H2 R2 (st1.trans st2)⟩
        · exact .inr ⟨x, s2, z, h.step st1⟩
theorem tT_or {a b : E} {es : List E} {σ : L2.St} {H : Hp} {Q : Bool → Hp → Prop} (h : tTX X cf Ex (.or (a :: b :: es)) σ H Q) : tTX X cf Ex a σ H fun c H1 => if c = true then Q true H1 else tTX X cf Ex (.or (b :: es)) σ H1 Q := by
  obtain ⟨G, s, R, h⟩ := h
  simp only [evalE, evalOr] at h
  refine ⟨G, s, R, ?_⟩
  cases e1 : evalE cf a s with
  | bad => rw [e1] at h; rcases h with ⟨_, _, _, z, _⟩ | ⟨_, _, z, _⟩ <;> cases z
  | exc x s1 =>
    rw [e1] at h
    rcases h with ⟨_, _, _, z, _⟩ | ⟨_, _, z, h⟩ <;> cases z
    exact .inr ⟨_, _, rfl, h⟩
  | ok r s1 =>
    rw [e1] at h
    simp only [Res.bind] at h
    cases e2 : testR s1 r with
    | none => rw [e2] at h; rcases h with ⟨_, _, _, z, _⟩ | ⟨_, _, z, _⟩ <;> cases z
    | some c =>
      rw [e2] at h
      refine .inl ⟨r, c, s1, rfl, e2, fun G1 H1 R1 st1 => ?_⟩
      cases c with
      | true =>
        rw [if_pos rfl]
        rcases h with ⟨_, _, _, z, tb, h⟩ | ⟨_, _, z, _⟩ <;> cases z
        cases tb
        exact h G1 H1 R1 st1
      | false =>
        rw [if_neg Bool.false_ne_true]
        refine ⟨G1, s1, R1, ?_⟩
        simp only [evalE]
        rcases h with ⟨r2, b2, s2, z, tb, h⟩ | ⟨x, s2, z, h⟩
        · exact .inl ⟨r2, b2, s2, z, tb, fun G2 H2 R2 st2 => h G2 H2 R2 (st1.trans st2)⟩
        · exact .inr ⟨x, s2, z, h.step st1⟩
theorem tT_and1 {a : E} {σ : L2.St} {H : Hp} {Q : Bool → Hp → Prop} (h : tTX X cf Ex (.and [a]) σ H Q) : tTX X cf Ex a σ H Q := by
  obtain ⟨G, s, R, h⟩ := h
  simp only [evalE, evalAnd] at h
  exact ⟨G, s, R, h⟩
theorem tT_or1 {a : E} {σ : L2.St} {H : Hp} {Q : Bool → Hp → Prop} (h : tTX X cf Ex (.or [a]) σ H Q) : tTX X cf Ex a σ H Q := by
  obtain ⟨G, s, R, h⟩ := h
  simp only [evalE, evalOr] at h
  exact ⟨G, s, R, h⟩
theorem pe_and' {pos : Pos} : ∀ {es : List Expr} {es' : List E}, PEs X cf Ex es es' → es ≠ [] → PE X (.BoolOp .And es pos) (tEX X cf Ex (.and es')) ∧ PW X (.BoolOp .And es pos) (tTX X cf Ex (.and es'))
  | [], _, _, h => absurd rfl h
  | [e], _, .cons h1 h2 .nil, _ => ⟨PE.imp (L2.pe_one h1) fun σ H Q h => tE_and1 h, PW.imp (L2.pw_and1 h2) fun σ H Q h => tT_and1 h⟩
  | e :: e2 :: es, _, .cons h1 h2 (.cons h3 h4 t), _ => by
    obtain ⟨q1, q2⟩ := pe_and' (pos := pos) (.cons h3 h4 t) (fun z => nomatch z)
    exact ⟨PE.imp (L2.pe_and h1 q1) fun σ H Q h => tE_of_tT (tE_and h), PW.imp (L2.pw_and h2 q2) fun σ H Q h => tT_and h⟩
theorem pe_or' {pos : Pos} : ∀ {es : List Expr} {es' : List E}, PEs X cf Ex es es' → es ≠ [] → PE X (.BoolOp .Or es pos) (tEX X cf Ex (.or es')) ∧ PW X (.BoolOp .Or es pos) (tTX X cf Ex (.or es'))
  | [], _, _, h => absurd rfl h
  | [e], _, .cons h1 h2 .nil, _ => ⟨PE.imp (L2.pe_one h1) fun σ H Q h => tE_or1 h, PW.imp (L2.pw_or1 h2) fun σ H Q h => tT_or1 h⟩
  | e :: e2 :: es, _, .cons h1 h2 (.cons h3 h4 t), _ => by
    obtain ⟨q1, q2⟩ := pe_or' (pos := pos) (.cons h3 h4 t) (fun z => nomatch z)
    exact ⟨PE.imp (L2.pe_or h1 q1) fun σ H Q h => tE_of_tT (tE_or h), PW.imp (L2.pw_or h2 q2) fun σ H Q h => tT_or h⟩
theorem tE_ite {c a b : E} {σ : L2.St} {H : Hp} {Q : L2.VK} (h : tEX X cf Ex (.ite c a b) σ H Q) : tTX X cf Ex c σ H fun t H1 => if t = true then tEX X cf Ex a σ H1 Q else tEX X cf Ex b σ H1 Q := by
  obtain ⟨G, s, R, h⟩ := h
  simp only [evalE] at h
  refine ⟨G, s, R, ?_⟩
  cases e1 : evalE cf c s with
  | bad => rw [e1] at h; rcases h with ⟨_, _, z, _⟩ | ⟨_, _, z, _⟩ <;> cases z
  | exc x s1 =>
    rw [e1] at h
    rcases h with ⟨_, _, z, _⟩ | ⟨_, _, z, h⟩ <;> cases z
    exact .inr ⟨_, _, rfl, h⟩
  | ok r s1 =>
    rw [e1] at h
    simp only [Res.bind] at h
    cases e2 : testR s1 r with
    | none => rw [e2] at h; rcases h with ⟨_, _, z, _⟩ | ⟨_, _, z, _⟩ <;> cases z
    | some t =>
      rw [e2] at h
      refine .inl ⟨r, t, s1, rfl, e2, fun G1 H1 R1 st1 => ?_⟩
      have fin : ∀ {d : E}, ((∃ r s', evalE cf d s1 = .ok r s' ∧ ∀ G' H' x, Rel X.K X.mg G' s' σ H' → Step G H G' H' → RVR X.K X.mg G G' H' σ r x → Q x H') ∨ (∃ x s', evalE cf d s1 = .exc x s' ∧ xcP X.K X.mg Ex x s' G σ H)) → tEX X cf Ex d σ H1 Q := fun {d} h => by
        refine ⟨G1, s1, R1, ?_⟩
        rcases h with ⟨r2, s2, z, h⟩ | ⟨x, s2, z, h⟩
        · exact .inl ⟨r2, s2, z, fun G2 H2 y R2 st2 rv => h G2 H2 y R2 (st1.trans st2) (rv.back st1)⟩
        · exact .inr ⟨x, s2, z, h.step st1⟩
      cases t with
      | true => show (if true = true then _ else _); rw [if_pos rfl]; exact fin h
      | false => show (if false = true then _ else _); rw [if_neg Bool.false_ne_true]; exact fin h
theorem pe_ite' {c a b : Expr} {c' a' b' : E} {pos : Pos} (hc : PT X c (tTX X cf Ex c')) (ha : PE X a (tEX X cf Ex a')) (hb : PE X b (tEX X cf Ex b')) : PE X (.IfExp c a b pos) (tEX X cf Ex (.ite c' a' b')) :=
  PE.imp (L2.pe_ifExp hc ha hb) fun σ H Q h => tE_ite h
/-- any other expression's test -/
theorem pt_plain {e : Expr} {e' : E} (h : PE X e (tEX X cf Ex e')) (he : ∀ whole, isTrue e X.env whole = (do let v ← whole; standAt e.pos; holding [v] (truthy v))) : PT X e (tTX X cf Ex e') :=
  PT.imp (L2.pt_val h he) fun σ H Q h => tE_of_tT h

/-! displays -/
theorem tE_tup {es : List E} {σ : L2.St} {H : Hp} {Q : L2.VK} (h : tEX X cf Ex (.tup es) σ H Q) : L2.tTup (tAX X cf Ex es) σ H Q := by
  obtain ⟨G, s, R, h⟩ := h
  simp only [evalE] at h
  refine ⟨G, s, R, ?_⟩
  cases e1 : evalEs cf es s with
  | bad => rw [e1] at h; rcases h with ⟨_, _, z, _⟩ | ⟨_, _, z, _⟩ <;> cases z
  | exc x s1 =>
    rw [e1] at h
    rcases h with ⟨_, _, z, _⟩ | ⟨_, _, z, h⟩ <;> cases z
    exact .inr ⟨_, _, rfl, h⟩
  | ok rs s1 =>
    rw [e1] at h
    simp only [Res.bind] at h
    refine .inl ⟨rs, s1, rfl, fun G1 H1 xs R1 st1 rv => ?_⟩
    split at h
    · rename_i hz
      cases e2 : keeps s1 rs with
      | none => rw [e2] at h; rcases h with ⟨_, _, z, _⟩ | ⟨_, _, z, _⟩ <;> cases z
      | some q =>
        obtain ⟨vs, s2⟩ := q
        rw [e2] at h
        rcases h with ⟨_, _, z, h⟩ | ⟨_, _, z, _⟩ <;> cases z
        obtain ⟨G2, R2, st2, m2, p2, _, _⟩ := keeps_ok R1 st1 rv e2
        refine ⟨by rw [← rv.length, ← szL_eq]; exact hz, fun p hp => ?_⟩
        obtain ⟨G3, R3, st3, rv3⟩ := (Out.tup hp p2).rel R2
        exact h G3 _ _ R3 (st2.trans st3) (rv3.back st2)
    · rcases h with ⟨_, _, z, _⟩ | ⟨_, _, z, _⟩ <;> cases z
theorem tE_list {es : List E} {σ : L2.St} {H : Hp} {Q : L2.VK} (h : tEX X cf Ex (.list es) σ H Q) : L2.tLst (tAX X cf Ex es) σ H Q := by
  obtain ⟨G, s, R, h⟩ := h
  simp only [evalE] at h
  refine ⟨G, s, R, ?_⟩
  cases e1 : evalEs cf es s with
  | bad => rw [e1] at h; rcases h with ⟨_, _, z, _⟩ | ⟨_, _, z, _⟩ <;> cases z
  | exc x s1 =>
    rw [e1] at h
    rcases h with ⟨_, _, z, _⟩ | ⟨_, _, z, h⟩ <;> cases z
    exact .inr ⟨_, _, rfl, h⟩
  | ok rs s1 =>
    rw [e1] at h
    simp only [Res.bind] at h
    refine .inl ⟨rs, s1, rfl, fun G1 H1 xs R1 st1 rv => ?_⟩
    split at h
    · rename_i hz
      cases e2 : keeps s1 rs with
      | none => rw [e2] at h; rcases h with ⟨_, _, z, _⟩ | ⟨_, _, z, _⟩ <;> cases z
      | some q =>
        obtain ⟨vs, s2⟩ := q
        rw [e2] at h
        rcases h with ⟨_, _, z, h⟩ | ⟨_, _, z, _⟩ <;> cases z
        obtain ⟨G2, R2, st2, m2, p2, _, _⟩ := keeps_ok R1 st1 rv e2
        refine ⟨by rw [← rv.length, ← szL_eq]; exact hz, fun p hp => ?_⟩
        obtain ⟨G3, R3, st3, rv3⟩ := (Out.lst hp p2).rel R2
        exact h G3 _ _ R3 (st2.trans st3) (rv3.back st2)
    · rcases h with ⟨_, _, z, _⟩ | ⟨_, _, z, _⟩ <;> cases z
theorem tE_dnew {σ : L2.St} {H : Hp} {Q : L2.VK} (h : tEX X cf Ex (.prim .dnew []) σ H Q) : L2.tDNewK σ H Q := by
  obtain ⟨G, s, R, h⟩ := h
  have e : evalE cf (.prim .dnew []) s = .ok (.fr (.dct [] [])) s := by simp only [evalE, evalEs, conts, primSem]; rfl
  rw [e] at h
  rcases h with ⟨_, _, z, h⟩ | ⟨_, _, z, _⟩ <;> cases z
  intro p hp
  have q := Same.new (t := .hold) (o := .dK []) R.trk hp (fun _ z => nomatch z)
  exact h _ _ _ (R.same q) q.st ⟨_, rfl, tg_same, (by rw [R.free hp]; exact (fun z => nomatch z)), _, upd_same, rfl, .nil⟩
theorem pe_dnew {pos : Pos} : PE X (.Dict [] [] pos) (tEX X cf Ex (.prim .dnew [])) := PE.imp L2.pe_dnewK fun σ H Q h => tE_dnew h
theorem Rel.updHoldD {K : PySem.W.Frag} {mg : Str → Option Value} {G : Gh} {s : SS} {σ : L2.St} {H : Hp} {D : Addr} {acc : List (Key × V)} {ho : HO} (R : Rel K mg G s σ H) (g : G D = .hold) (h : H D = some (.dK acc)) : Rel K mg G s σ (upd H D ho) ∧ Mono G H G (upd H D ho) := by
  have m : Mono G H G (upd H D ho) := ⟨fun b e => ⟨e, .inl (upd_ne fun z => by rw [z, g] at e; cases e)⟩, fun _ _ e => e,
    fun b xs e => by rw [upd_ne (fun z => by rw [z, h] at e; cases e)]; exact e, fun b q u e => by rw [upd_ne (fun z => by rw [z, h] at e; cases e)]; exact e⟩
  refine ⟨⟨R.len, fun j sl ej => ?_, fun l so el => ?_, R.uniq, fun b hb => ?_, R.lim⟩, m⟩
  · have sr := R.slots j sl ej
    cases sl with
    | un => trivial
    | val v => obtain ⟨y, e1, p⟩ := sr; exact ⟨y, e1, p.step m⟩
    | own c =>
      obtain ⟨b, e1, gb, ob⟩ := sr
      exact ⟨b, e1, gb, ob.step (upd_ne fun z => by rw [z, g] at gb; cases gb) m⟩
  · obtain ⟨b, gb, ob⟩ := R.sto l so el
    exact ⟨b, gb, ob.step (upd_ne fun z => by rw [z, g] at gb; cases gb) m⟩
  · by_cases n : b = D
    · subst n; rw [upd_same]; exact fun z => nomatch z
    · rw [upd_ne n]; exact R.trk b hb
theorem Step.updHoldD {G0 G : Gh} {H0 H : Hp} {D : Addr} {ho : HO} (st : Step G0 H0 G H) (h0 : H0 D = none) (t0 : G0 D = .free) : Step G0 H0 G (upd H D ho) where
  mono := ⟨fun b e => let ⟨e1, e2⟩ := st.fz b e; ⟨e1, FzH.trans e2 (.inl (upd_ne fun z => by rw [z, t0] at e; cases e))⟩, fun b l e => st.loc b l e,
    fun b xs e => by rw [upd_ne (fun z => by rw [z, h0] at e; cases e)]; exact st.tup b xs e, fun b q u e => by rw [upd_ne (fun z => by rw [z, h0] at e; cases e)]; exact st.frz b q u e⟩
  hold := fun b e => let ⟨e1, e2⟩ := st.hold b e; ⟨e1, (upd_ne fun z => by rw [z, t0] at e; cases e).trans e2⟩
/-- readings of pairs -/
def trsOf (X : L2.Cx) (cf : CF) (Ex : L2.WX) : List E → List (L2.TE × L2.TE)
  | a :: b :: r => (tEX X cf Ex a, tEX X cf Ex b) :: trsOf X cf Ex r
  | _ => []
theorem tA_pairs : ∀ {es : List E} {σ : L2.St} {H : Hp} {C : List (V × V) → Hp → Prop}, es.length % 2 = 0 → tAX X cf Ex es σ H (fun xs H2 => ∀ ps, flPr ps = xs → C ps H2) → L2.tPairs (trsOf X cf Ex es) σ H C
  | [], σ, H, C, _, h => tA_nil h [] rfl
  | [a], σ, H, C, ev, _ => by simp at ev
  | a :: b :: r, σ, H, C, ev, h => by
    refine tE_mono (tA_cons h) fun x H1 h1 => tE_mono (tA_cons h1) fun y H2 h2 => ?_
    refine tA_pairs (C := fun ps H3 => C ((x, y) :: ps) H3) (by simp only [List.length_cons] at ev; omega) (tA_mono h2 fun xs H3 q ps e => q ((x, y) :: ps) (by rw [← e]; rfl))
theorem tE_disp {es : List E} {σ : L2.St} {H : Hp} {Q : L2.VK} (ev : es.length % 2 = 0) (h : tEX X cf Ex (.disp es) σ H Q) : L2.tDisp (trsOf X cf Ex es) σ H Q := by
  obtain ⟨G, s, R, h⟩ := h
  simp only [evalE] at h
  intro p hp
  have q := Same.new (t := .hold) (o := .dK []) R.trk hp (fun _ z => nomatch z)
  refine tA_pairs ev ⟨_, s, R.same q, ?_⟩
  cases e1 : evalEs cf es s with
  | bad => rw [e1] at h; rcases h with ⟨_, _, z, _⟩ | ⟨_, _, z, _⟩ <;> cases z
  | exc x s1 =>
    rw [e1] at h
    rcases h with ⟨_, _, z, _⟩ | ⟨_, _, z, h⟩ <;> cases z
    exact .inr ⟨_, _, rfl, h.step q.st⟩
  | ok rs s1 =>
    rw [e1] at h
    simp only [Res.bind] at h
    refine .inl ⟨rs, s1, rfl, fun G1 H1 xs R1 st1 rv psV hps => ?_⟩
    subst hps
    cases e2 : keeps s1 rs with
    | none => rw [e2] at h; rcases h with ⟨_, _, z, _⟩ | ⟨_, _, z, _⟩ <;> cases z
    | some q2 =>
      obtain ⟨vs, s2⟩ := q2
      rw [e2] at h
      simp only at h
      cases e3 : pairsD vs with
      | none => rw [e3] at h; rcases h with ⟨_, _, z, _⟩ | ⟨_, _, z, _⟩ <;> cases z
      | some ps =>
        rw [e3] at h
        simp only at h
        split at h
        · rename_i h15
          rcases h with ⟨_, _, z, h⟩ | ⟨_, _, z, _⟩ <;> cases z
          obtain ⟨G2, R2, st2, m2, p2, _, _⟩ := keeps_ok R1 st1 rv e2
          obtain ⟨g2, hH⟩ := st2.hold p tg_same
          rw [upd_same] at hH
          obtain ⟨kvs, f1, f2, f3, f4⟩ := pairs_ok e3 p2
          refine ⟨hH, kvs, f1, by omega, ?_⟩
          obtain ⟨ks', vs', k1, k2, k3⟩ := merge_ok (kvs := []) (vs := []) f2 f3 .nil
          obtain ⟨R3, m3⟩ := R2.updHoldD (ho := .dK (L2.mergeK [] kvs)) g2 hH
          have k1' : mergeD [] [] ps = .dct ks' vs' := k1
          rw [k1'] at h
          exact h G2 _ _ R3 ((q.st.trans st2).updHoldD hp (R.free hp)) ⟨p, rfl, g2, (by rw [R.free hp]; exact (fun z => nomatch z)), _, upd_same, k2, k3.step m3⟩
        · rcases h with ⟨_, _, z, _⟩ | ⟨_, _, z, _⟩ <;> cases z
theorem pps_of : ∀ {keys : List (Option Expr)} {values : List Expr} {es : List Expr} {es' : List E} {pos : Pos}, dispL keys values = some es → PEs X cf Ex es es' → L2.PPs X pos keys values (trsOf X cf Ex es') ∧ keys.all (·.isSome) = true ∧ keys.length = values.length ∧ es'.length % 2 = 0
  | [], [], es, es', pos, h, p => by
    cases h
    cases p
    exact ⟨L2.pps_nil, rfl, rfl, rfl⟩
  | [], _ :: _, es, es', pos, h, p => by cases h
  | none :: _, _, es, es', pos, h, p => by simp [dispL] at h
  | some _ :: _, [], es, es', pos, h, p => by simp [dispL] at h
  | some k :: ks, v :: vs, es, es', pos, h, p => by
    simp only [dispL] at h
    obtain ⟨r, hr, rfl⟩ := Option.map_eq_some_iff.mp h
    cases p with
    | cons h1 _ t =>
    cases t with
    | cons h2 _ t =>
    obtain ⟨a1, a2, a3, a4⟩ := pps_of (pos := pos) hr t
    exact ⟨L2.pps_cons h1 h2 a1, by simp only [List.all_cons, a2]; rfl, by simp [a3], by simp only [List.length_cons]; omega⟩
theorem pe_disp' {keys : List (Option Expr)} {values : List Expr} {es : List Expr} {es' : List E} {pos : Pos} (hd : dispL keys values = some es) (h0 : keys ≠ []) (h15 : keys.length ≤ 15) (h : PEs X cf Ex es es') : PE X (.Dict keys values pos) (tEX X cf Ex (.disp es')) := by
  obtain ⟨a1, a2, a3, a4⟩ := pps_of (pos := pos) hd h
  exact PE.imp (L2.pe_disp a1 a2 a3 h0 h15) fun σ H Q h => tE_disp a4 h
/-- arguments -/
theorem PEs.pa {N : List Str} {k : Nat} {sc : Scope} : ∀ {es : List Expr} {es' : List E}, mapO (cE g N k sc) es = some es' → PEs X cf Ex es es' → PA X es (tAX X cf Ex es')
  | [], es', h, hp => by
    cases hp
    exact PA.imp L2.pa_nil fun σ H Q h => tA_nil h
  | e :: es, es', h, hp => by
    cases hp with
    | cons h1 h2 t =>
      rename_i e1 es1
      simp only [mapO] at h
      cases q1 : cE g N k sc e with
      | none => rw [q1] at h; cases h
      | some e2 =>
        cases q2 : mapO (cE g N k sc) es with
        | none => rw [q1, q2] at h; cases h
        | some es2 =>
          rw [q1, q2] at h
          cases h
          exact PA.imp (L2.pa_cons h1 (PEs.pa q2 t) (cE_star q1 es X.env)) fun σ H Q h => tA_cons h
theorem pe_tup' {es : List Expr} {es' : List E} {k : Nat} {pos : Pos} (h : PA X es (tAX X cf Ex es')) : PE X (.Tuple es k pos) (tEX X cf Ex (.tup es')) := PE.imp (L2.pe_tup h) fun σ H Q h => tE_tup h
theorem pe_list' {es : List Expr} {es' : List E} {pos : Pos} (h : PA X es (tAX X cf Ex es')) : PE X (.List es pos) (tEX X cf Ex (.list es')) := PE.imp (L2.pe_lst h) fun σ H Q h => tE_list h

/-! subscripts and slices -/
theorem pe_ix' (o : XO X g cf Ex) {a b : Expr} {a' b' : E} {pos : Pos} (hs : isSliceE b = false) (ha : PE X a (tEX X cf Ex a')) (hb : PE X b (tEX X cf Ex b')) : PE X (.Subscript a b pos) (tEX X cf Ex (.prim .idx [a', b'])) :=
  PE.imp (L2.pe_ix (ixAny (by have := o.hu; omega)) ha hb (ix_plain hs)) fun σ H Q h => tE_prim2 (fun _ _ => rfl) h
/-- a slice's bound -/
def tBnd (X : L2.Cx) (cf : CF) (Ex : L2.WX) (e : E) : L2.TO := fun σ H Q => ∃ G s, Rel X.K X.mg G s σ H ∧
  ((∃ r b s', evalE cf e s = .ok r s' ∧ bndOf s' (isAbs e) r = some b ∧ ∀ G' H', Rel X.K X.mg G' s' σ H' → Step G H G' H' → Q b H') ∨ (∃ x s', evalE cf e s = .exc x s' ∧ xcP X.K X.mg Ex x s' G σ H))
theorem PO.imp {e : Option Expr} {t t' : L2.TO} (h : PO X e t) (i : ∀ σ H Q, t' σ H Q → t σ H Q) : PO X e t' := ⟨fun pins s σ H Q I q => h.run pins s σ H Q I (i σ H Q q)⟩
theorem po_none' : PO X none (tBnd X cf Ex (.con .non)) := by
  refine PO.imp L2.po_none fun σ H Q h => ?_
  obtain ⟨G, s, R, h⟩ := h
  simp only [evalE] at h
  rcases h with ⟨_, _, _, z, e, h⟩ | ⟨_, _, z, _⟩ <;> cases z
  cases e
  exact h G H R .refl
theorem po_some' {e : Expr} {e' : E} (ha : isAbs e' = false) (h : PE X e (tEX X cf Ex e')) : PO X (some e) (tBnd X cf Ex e') := by
  refine PO.imp (L2.po_some h) fun σ H Q h => ?_
  obtain ⟨G, s, R, h⟩ := h
  refine ⟨G, s, R, ?_⟩
  rcases h with ⟨r, b, s1, e1, e2, h⟩ | h
  · refine .inl ⟨r, s1, e1, fun G1 H1 x R1 st1 rv => ?_⟩
    unfold bndOf at e2
    rw [ha, if_neg Bool.false_ne_true] at e2
    split at e2 <;> cases e2
    rename_i i ec
    exact ⟨i, (cont_ok R1 rv ec).int, h G1 H1 R1 st1⟩
  · exact .inr h
theorem tE_slice {a lo hi : E} {σ : L2.St} {H : Hp} {Q : L2.VK} (h : tEX X cf Ex (.slice a lo hi) σ H Q) : L2.tSl (rSl X.K X.mg) (tEX X cf Ex a) (tBnd X cf Ex lo) (tBnd X cf Ex hi) σ H Q := by
  obtain ⟨G, s, R, h⟩ := h
  simp only [evalE] at h
  refine ⟨G, s, R, ?_⟩
  cases e1 : evalE cf a s with
  | bad => rw [e1] at h; rcases h with ⟨_, _, z, _⟩ | ⟨_, _, z, _⟩ <;> cases z
  | exc x s1 =>
    rw [e1] at h
    rcases h with ⟨_, _, z, _⟩ | ⟨_, _, z, h⟩ <;> cases z
    exact .inr ⟨_, _, rfl, h⟩
  | ok ra s1 =>
    rw [e1] at h
    simp only [Res.bind] at h
    refine .inl ⟨ra, s1, rfl, fun G1 H1 x R1 st1 rv1 => ⟨G1, s1, R1, ?_⟩⟩
    cases e2 : evalE cf lo s1 with
    | bad => rw [e2] at h; rcases h with ⟨_, _, z, _⟩ | ⟨_, _, z, _⟩ <;> cases z
    | exc x s2 =>
      rw [e2] at h
      rcases h with ⟨_, _, z, _⟩ | ⟨_, _, z, h⟩ <;> cases z
      exact .inr ⟨_, _, rfl, h.step st1⟩
    | ok rl s2 =>
      rw [e2] at h
      simp only at h
      cases e3 : bndOf s2 (isAbs lo) rl with
      | none => rw [e3] at h; rcases h with ⟨_, _, z, _⟩ | ⟨_, _, z, _⟩ <;> cases z
      | some l =>
        rw [e3] at h
        simp only at h
        refine .inl ⟨rl, l, s2, rfl, e3, fun G2 H2 R2 st2 => ⟨G2, s2, R2, ?_⟩⟩
        cases e4 : evalE cf hi s2 with
        | bad => rw [e4] at h; rcases h with ⟨_, _, z, _⟩ | ⟨_, _, z, _⟩ <;> cases z
        | exc x s2 =>
          rw [e4] at h
          rcases h with ⟨_, _, z, _⟩ | ⟨_, _, z, h⟩ <;> cases z
          exact .inr ⟨_, _, rfl, h.step (st1.trans st2)⟩
        | ok rh s3 =>
          rw [e4] at h
          simp only at h
          cases e5 : bndOf s3 (isAbs hi) rh with
          | none => rw [e5] at h; rcases h with ⟨_, _, z, _⟩ | ⟨_, _, z, _⟩ <;> cases z
          | some u =>
            rw [e5] at h
            simp only at h
            refine .inl ⟨rh, u, s3, rfl, e5, fun G3 H3 R3 st3 => ?_⟩
            cases e6 : cont s3 ra with
            | none => rw [e6] at h; rcases h with ⟨_, _, z, _⟩ | ⟨_, _, z, _⟩ <;> cases z
            | some c =>
              rw [e6] at h
              simp only at h
              cases e7 : slSem l u c with
              | none => rw [e7] at h; rcases h with ⟨_, _, z, _⟩ | ⟨_, _, z, _⟩ <;> cases z
              | some r =>
                rw [e7] at h
                rcases h with ⟨_, _, z, h⟩ | ⟨_, _, z, _⟩ <;> cases z
                have rv3 := rv1.mono (st2.trans st3)
                refine ⟨G3, c, _, cont_ok R3 rv3 e6, e7, fun z H4 oz => ?_⟩
                obtain ⟨G4, R4, st4, rv4⟩ := oz.rel R3
                exact h G4 H4 z R4 (((st1.trans st2).trans st3).trans st4) (rv4.back ((st1.trans st2).trans st3))
theorem pe_slice' {a : Expr} {lo hi : Option Expr} {a' l h : E} {pos p2 : Pos} (ha : PE X a (tEX X cf Ex a')) (hl : PO X lo (tBnd X cf Ex l)) (hh : PO X hi (tBnd X cf Ex h)) :
    PE X (.Subscript a (.Slice lo hi none p2) pos) (tEX X cf Ex (.slice a' l h)) := PE.imp (L2.pe_slice slAny ha hl hh) fun σ H Q h => tE_slice h

/-! calls -/
theorem tE_call {f : Str} {es : List E} {σ : L2.St} {H : Hp} {Q : L2.VK} (h : tEX X cf Ex (.call f es) σ H Q) : tAX X cf Ex es σ H fun xs H1 => spF X.K X.mg cf f xs H1 Q (fun c d H => Ex c d σ H) := by
  obtain ⟨G, s, R, h⟩ := h
  simp only [evalE] at h
  refine ⟨G, s, R, ?_⟩
  cases e1 : evalEs cf es s with
  | bad => rw [e1] at h; rcases h with ⟨_, _, z, _⟩ | ⟨_, _, z, _⟩ <;> cases z
  | exc x s1 =>
    rw [e1] at h
    rcases h with ⟨_, _, z, _⟩ | ⟨_, _, z, h⟩ <;> cases z
    exact .inr ⟨_, _, rfl, h⟩
  | ok rs s1 =>
    rw [e1] at h
    simp only [Res.bind] at h
    exact .inl ⟨rs, s1, rfl, fun G1 H1 xs R1 st1 rv => call_ok R1 st1 rv h⟩
theorem pe_call' {N : List Str} {k : Nat} {sc : Scope} (o : XO X g cf Ex) {f : Str} {es : List Expr} {es' : List E} {p pos : Pos} (hp : plainNm f = true) (hg : glB X.env.scope f = true) (hf : f ∈ g.fns) (he : mapO (cE g N k sc) es = some es') (ha : PA X es (tAX X cf Ex es')) :
    PE X (.Call (.Name f p) es [] pos) (tEX X cf Ex (.call f es')) := by
  obtain ⟨n, a, fd, ps, F, hr, hm, hk, hb, _⟩ := o.fns f hf
  cases es with
  | nil =>
    refine ⟨fun pins s σ H Q I h => ?_⟩
    cases he
    have h := tA_nil (tE_call h)
    refine wpAny_Call_Name_kw (L2.ld_glob I (gl_of hg) hm ?_ (nm_ne hp).1)
    exact PySem.W.callWith_K0 I.kIn hk (L2.run_fnSD (us := []) (dvs := []) (E := fun σ c d H => Ex c d σ H) F hr hb .nil (o.pass σ) I .nil h)
  | cons e es =>
    refine PE.imp (L2.pe_callSD (dvs := []) (E := fun σ c d H => Ex c d σ H) F hr (gl_of hg) hm hk hb .nil o.pass ha (nm_ne hp).1 ?_ ?_) fun σ H Q h => ?_
    · rw [cEs_star he, List.map_cons]
      simp only [mapO] at he
      cases q1 : cE g N k sc e with
      | none => rw [q1] at he; cases he
      | some e1 =>
        cases q2 : mapO (cE g N k sc) es with
        | none => rw [q1, q2] at he; cases he
        | some es1 => rw [cEs_star q2]
    · simp only [mapO] at he
      cases q1 : cE g N k sc e with
      | none => rw [q1] at he; cases he
      | some e1 =>
        cases q2 : mapO (cE g N k sc) es with
        | none => rw [q1, q2] at he; cases he
        | some es1 => rw [cEs_star q2]; exact backTo_plain pos es X.env
    · exact tA_mono (tE_call h) fun xs H1 q => by rw [List.append_nil]; exact q
/-- of one thing, built in -/
theorem callR1 (o : XO X g cf Ex) {x : Str} {p : P} (h : blt1 x = some p) : ∃ f, (∀ c, primSem p [c] = f c) ∧ x ∈ bnames ∧ ((∃ id, CallR X (.builtin id) (rC1 X.K X.mg f) ∧ bootBuiltins x = some (.builtin id)) ∨ ∃ T, CallR X (.type T) (rC1 X.K X.mg f) ∧ bootBuiltins x = some (.type T)) := by
  unfold blt1 at h
  split at h
  · rename_i e; cases h; subst e; exact ⟨_, fun _ => rfl, by decide +kernel, .inl ⟨_, callLen, by decide +kernel⟩⟩
  split at h
  · rename_i e; cases h; subst e; exact ⟨_, fun _ => rfl, by decide +kernel, .inl ⟨_, callAbs, by decide +kernel⟩⟩
  split at h
  · rename_i e; cases h; subst e; exact ⟨_, fun _ => rfl, by decide +kernel, .inr ⟨_, callToInt, by decide +kernel⟩⟩
  split at h
  · rename_i e; cases h; subst e; exact ⟨_, fun _ => rfl, by decide +kernel, .inr ⟨_, callToTup, by decide +kernel⟩⟩
  split at h
  · rename_i e; cases h; subst e; exact ⟨_, fun _ => rfl, by decide +kernel, .inr ⟨_, callToList, by decide +kernel⟩⟩
  split at h
  · rename_i e; cases h; subst e; exact ⟨_, fun _ => rfl, by decide +kernel, .inl ⟨_, callAll o.calm, by decide +kernel⟩⟩
  split at h
  · rename_i e; cases h; subst e; exact ⟨_, fun _ => rfl, by decide +kernel, .inl ⟨_, callAny o.calm, by decide +kernel⟩⟩
  split at h
  · rename_i e; cases h; subst e; exact ⟨_, fun _ => rfl, by decide +kernel, .inl ⟨_, callSum o.calm, by decide +kernel⟩⟩
  split at h
  · rename_i e; cases h; subst e; exact ⟨_, fun _ => rfl, by decide +kernel, .inr ⟨_, callToStr, by decide +kernel⟩⟩
  split at h
  · rename_i e; cases h; subst e; exact ⟨_, fun _ => rfl, by decide +kernel, .inl ⟨_, callMaxL o.calm, by decide +kernel⟩⟩
  split at h
  · rename_i e; cases h; subst e; exact ⟨_, fun _ => rfl, by decide +kernel, .inl ⟨_, callMinL o.calm, by decide +kernel⟩⟩
  split at h
  · rename_i e; cases h; subst e; exact ⟨_, fun _ => rfl, by decide +kernel, .inl ⟨_, callSorted, by decide +kernel⟩⟩
  cases h
theorem pe_blt1 {N : List Str} {k : Nat} {sc : Scope} (o : XO X g cf Ex) {x : Str} {p : P} {e : Expr} {e' : E} {np pos : Pos} (hp : plainNm x = true) (hg : glB X.env.scope x = true) (h : blt1 x = some p) (he : cE g N k sc e = some e') (ha : PE X e (tEX X cf Ex e')) :
    PE X (.Call (.Name x np) [e] [] pos) (tEX X cf Ex (.prim p [e'])) := by
  obtain ⟨f, hf, hb, hc⟩ := callR1 o h
  have red : ∀ σ H (Q : L2.VK), tEX X cf Ex (.prim p [e']) σ H Q → L2.tCB (rC1 X.K X.mg f) (L2.tCons (tEX X cf Ex e') L2.tNil) σ H Q := fun σ H Q h =>
    tE_mono (tE_prim1 hf h) fun x H1 q => ⟨x, rfl, q⟩
  obtain ⟨h3, h4⟩ := nm_ne hp
  have pa := L2.pa_cons ha L2.pa_nil (cE_star he [] X.env)
  rcases hc with ⟨id, hc, hv⟩ | ⟨T, hc, hv⟩
  · exact PE.imp (L2.pe_callB hc (gl_of hg) (o.bn x hb) hv pa h4 h3 (cE_star he [] X.env) rfl) red
  · exact PE.imp (L2.pe_callTy hc (gl_of hg) (o.bn x hb) hv pa h4 h3 (cE_star he [] X.env) rfl) red
theorem callR2 (o : XO X g cf Ex) {x : Str} {p : P} (h : blt2 x = some p) : ∃ f, (∀ c d, primSem p [c, d] = f c d) ∧ x ∈ bnames ∧ ∃ id, CallR X (.builtin id) (rC2 X.K X.mg f) ∧ bootBuiltins x = some (.builtin id) := by
  unfold blt2 at h
  split at h
  · rename_i e; cases h; subst e; exact ⟨_, fun _ _ => rfl, by decide +kernel, _, callIsi, by decide +kernel⟩
  split at h
  · rename_i e; cases h; subst e; exact ⟨_, fun _ _ => rfl, by decide +kernel, _, callMin o.calm, by decide +kernel⟩
  split at h
  · rename_i e; cases h; subst e; exact ⟨_, fun _ _ => rfl, by decide +kernel, _, callMax o.calm, by decide +kernel⟩
  cases h
theorem pe_blt2 {N : List Str} {k : Nat} {sc : Scope} (o : XO X g cf Ex) {x : Str} {p : P} {e d : Expr} {e' d' : E} {np pos : Pos} (hp : plainNm x = true) (hg : glB X.env.scope x = true) (h : blt2 x = some p) (he : cE g N k sc e = some e') (hd : cE g N k sc d = some d')
    (ha : PE X e (tEX X cf Ex e')) (hb' : PE X d (tEX X cf Ex d')) : PE X (.Call (.Name x np) [e, d] [] pos) (tEX X cf Ex (.prim p [e', d'])) := by
  obtain ⟨f, hf, hb, id, hc, hv⟩ := callR2 o h
  have red : ∀ σ H (Q : L2.VK), tEX X cf Ex (.prim p [e', d']) σ H Q → L2.tCB (rC2 X.K X.mg f) (L2.tCons (tEX X cf Ex e') (L2.tCons (tEX X cf Ex d') L2.tNil)) σ H Q := fun σ H Q h =>
    tE_mono (tE_prim2 hf h) fun x H1 q => tE_mono q fun y H2 q => ⟨x, y, rfl, q⟩
  obtain ⟨h3, h4⟩ := nm_ne hp
  have pa := L2.pa_cons ha (L2.pa_cons hb' L2.pa_nil (cE_star hd [] X.env)) (cE_star he [d] X.env)
  exact PE.imp (L2.pe_callB hc (gl_of hg) (o.bn x hb) hv pa h4 h3 (cE_star he [d] X.env) (by rw [cE_star hd]; rfl)) red

/-- max(a, default=b) -/
theorem pe_maxD {N : List Str} {k : Nat} {sc : Scope} (o : XO X g cf Ex) {f : Str} {args : List Expr} {kws : List Keyword} {e d : Expr} {e' d' : E} {np pos : Pos} (hm : mdOf f args kws = some (e, d)) (hp : plainNm f = true) (hg : glB X.env.scope f = true) (he : cE g N k sc e = some e')
    (ha : PE X e (tEX X cf Ex e')) (hb' : PE X d (tEX X cf Ex d')) : PE X (.Call (.Name f np) args kws pos) (tEX X cf Ex (.prim .maxD [e', d'])) := by
  unfold mdOf at hm
  split at hm
  · rename_i hf
    subst hf
    split at hm
    · split at hm
      · rename_i hx
        subst hx
        cases hm
        obtain ⟨h3, h4⟩ := nm_ne hp
        refine PE.imp (L2.pe_callBK (callMaxDef o.calm (by have := o.hu; omega)) (gl_of hg) (o.bn _ (by decide +kernel)) (by decide +kernel) (L2.pa_cons ha L2.pa_nil (cE_star he [] X.env)) (L2.pk_cons hb' L2.pk_nil) h4 h3 (by rw [cE_star he]; rfl) (by rw [cE_star he]; rfl) rfl rfl rfl) fun σ H Q h => ?_
        exact tE_mono (tE_prim2 (f := maxDSem) (fun _ _ => rfl) h) fun x H1 q => tE_mono q fun y H2 q => ⟨x, y, rfl, rfl, q⟩
      · cases hm
    · cases hm
  · cases hm

/-! deeds: append, pop -/
theorem ob_kind {K : PySem.W.Frag} {mg : Str → Option Value} {G : Gh} {H : Hp} {a : Addr} {o : PV} (h : ObR K mg G H a o) : (∀ xs, H a ≠ some (.tup xs)) ∧ ∀ q u, H a ≠ some (.frz q u) := by
  cases o <;> first
    | exact h.elim
    | (obtain ⟨_, e, _⟩ := h; rw [e]; exact ⟨(fun _ z => nomatch z), (fun _ _ z => nomatch z)⟩)
theorem write_step {K : PySem.W.Frag} {mg : Str → Option Value} {G : Gh} {H : Hp} {a : Addr} {o : PV} {ho : HO} (h : ObR K mg G H a o) (h1 : G a ≠ .fz) (h2 : G a ≠ .hold) : Step G H G (upd H a ho) := by
  obtain ⟨k1, k2⟩ := ob_kind h
  refine ⟨⟨fun b e => ⟨e, .inl (upd_ne fun z => h1 (z ▸ e))⟩, fun b l e => e, fun b xs e => ?_, fun b q u e => ?_⟩, fun b e => ⟨e, upd_ne fun z => h2 (z ▸ e)⟩⟩
  · rw [upd_ne (fun z => k1 xs (by rw [← z]; exact e))]; exact e
  · rw [upd_ne (fun z => k2 q u (by rw [← z]; exact e))]; exact e
/-- the object behind a handle, and what a change of it leaves -/
theorem mut_obj {K : PySem.W.Frag} {mg : Str → Option Value} {G0 G : Gh} {s s' : SS} {σ : L2.St} {H : Hp} {r : RV} {x : V} {o o' : PV} (R : Rel K mg G s σ H) (rv : RVR K mg G0 G H σ r x) (hc : cont s r = some o) (hp : putBack r o' s = some s') :
    ∃ a, x = .ref a ∧ ObR K mg G H a o ∧ (∀ ho : HO, Step G H G (upd H a ho)) ∧ ∀ ho : HO, ObR K mg G (upd H a ho) a o' → Rel K mg G s' σ (upd H a ho) := by
  have slotCase : ∀ {i : Nat} {o1 : PV}, s.env[i]? = some (.own o1) → σ[i]? = some (some x) → o1 = o → s' = { s with env := s.env.set i (.own o') } → ∃ a, x = .ref a ∧ ObR K mg G H a o ∧ (∀ ho : HO, Step G H G (upd H a ho)) ∧ ∀ ho : HO, ObR K mg G (upd H a ho) a o' → Rel K mg G s' σ (upd H a ho) := by
    intro i o1 ei hx eo es
    subst eo es
    obtain ⟨a, e1, g, ob⟩ := R.own ei
    rw [hx] at e1
    cases e1
    have n1 : G a ≠ .fz := by rw [g]; exact fun z => nomatch z
    have n2 : G a ≠ .hold := by rw [g]; exact fun z => nomatch z
    refine ⟨a, rfl, ob, fun ho => write_step ob n1 n2, fun ho nb => ?_⟩
    have st := write_step (ho := ho) ob n1 n2
    refine ⟨by simp [R.len], fun j sl ej => ?_, fun l so el => ?_, R.uniq, fun b hb => ?_, R.lim⟩
    · by_cases hj : j = i
      · subst hj
        rw [List.getElem?_set_self (List.getElem?_eq_some_iff.mp ei).1] at ej
        cases ej
        exact ⟨a, get_join hx, g, nb⟩
      · rw [List.getElem?_set_ne (Ne.symm hj)] at ej
        have sr := R.slots j sl ej
        cases sl with
        | un => trivial
        | val v => obtain ⟨y, e1, p⟩ := sr; exact ⟨y, e1, p.step st.mono⟩
        | own c =>
          obtain ⟨b, e1, gb, obb⟩ := sr
          have n : b ≠ a := fun z => by rw [z, g] at gb; cases gb; exact hj rfl
          exact ⟨b, e1, gb, obb.step (upd_ne n) st.mono⟩
    · obtain ⟨b, gb, h⟩ := R.sto l so el
      have n : b ≠ a := fun z => by rw [z, g] at gb; cases gb
      exact ⟨b, gb, h.step (upd_ne n) st.mono⟩
    · by_cases n : b = a
      · subst n; rw [upd_same]; exact fun z => nomatch z
      · rw [upd_ne n]; exact R.trk b hb
  have boxCase : ∀ {l : Nat} {o1 : PV}, PVR K mg G H (.ref l) x → s.sto[l]? = some (.box o1) → o1 = o → s' = { s with sto := s.sto.set l (.box o') } → ∃ a, x = .ref a ∧ ObR K mg G H a o ∧ (∀ ho : HO, Step G H G (upd H a ho)) ∧ ∀ ho : HO, ObR K mg G (upd H a ho) a o' → Rel K mg G s' σ (upd H a ho) := by
    intro l o1 p el eo es
    subst eo es
    obtain ⟨a, g, ob⟩ := R.sto l _ el
    have ob : ObR K mg G H a o1 := ob
    cases p with
    | ref g' =>
      have := R.uniq _ _ l g g'
      subst this
      have n1 : G a ≠ .fz := by rw [g]; exact fun z => nomatch z
      have n2 : G a ≠ .hold := by rw [g]; exact fun z => nomatch z
      refine ⟨a, rfl, ob, fun ho => write_step ob n1 n2, fun ho nb => ?_⟩
      have st := write_step (ho := ho) ob n1 n2
      refine ⟨R.len, fun j sl ej => ?_, fun k so ek => ?_, R.uniq, fun b hb => ?_, fun b k hb => by have := R.lim b k hb; simpa using this⟩
      · have sr := R.slots j sl ej
        cases sl with
        | un => trivial
        | val v => obtain ⟨y, e1, p⟩ := sr; exact ⟨y, e1, p.step st.mono⟩
        | own c =>
          obtain ⟨b, e1, gb, obb⟩ := sr
          have n : b ≠ a := fun z => by rw [z, g] at gb; cases gb
          exact ⟨b, e1, gb, obb.step (upd_ne n) st.mono⟩
      · have ek' : (s.sto.set l (.box o'))[k]? = some so := ek
        by_cases hk : k = l
        · subst hk
          rw [List.getElem?_set_self (List.getElem?_eq_some_iff.mp el).1] at ek'
          cases ek'
          exact ⟨a, g, nb⟩
        · rw [List.getElem?_set_ne (Ne.symm hk)] at ek'
          obtain ⟨b, gb, h⟩ := R.sto k so ek'
          have n : b ≠ a := fun z => by rw [z, g] at gb; cases gb; exact hk rfl
          exact ⟨b, gb, h.step (upd_ne n) st.mono⟩
      · by_cases n : b = a
        · subst n; rw [upd_same]; exact fun z => nomatch z
        · rw [upd_ne n]; exact R.trk b hb
  have ofRef : ∀ {l : Nat}, PVR K mg G H (.ref l) x → boxC s.sto (.ref l) = o → (match s.sto[l]? with | some (.box _) => some { s with sto := s.sto.set l (.box o') } | _ => none) = some s' → ∃ a, x = .ref a ∧ ObR K mg G H a o ∧ (∀ ho : HO, Step G H G (upd H a ho)) ∧ ∀ ho : HO, ObR K mg G (upd H a ho) a o' → Rel K mg G s' σ (upd H a ho) := by
    intro l p ec ep
    split at ep
    · rename_i o1 el
      cases ep
      refine boxCase p el ?_ rfl
      simpa only [boxC, el] using ec
    · cases ep
  cases r with
  | sh v =>
    cases v <;> first | (simp only [putBack] at hp; cases hp; done) | skip
    simp only [cont, Option.some.injEq] at hc
    exact ofRef rv hc hp
  | fr ob => cases hp
  | hd i =>
    have hx : σ[i]? = some (some x) := rv
    simp only [cont] at hc
    simp only [putBack] at hp
    cases ei : s.env[i]? with
    | none => rw [ei] at hc; cases hc
    | some sl =>
      rw [ei] at hc hp
      cases sl with
      | un => cases hc
      | own o1 =>
        simp only [Option.some.injEq] at hc hp
        exact slotCase ei hx hc hp.symm
      | val v =>
        cases v <;> first | (simp only at hp; cases hp; done) | skip
        obtain ⟨y, e1, p⟩ := R.val ei
        rw [hx] at e1
        cases e1
        simp only [Option.some.injEq] at hc
        exact ofRef p hc hp
/-- receiver, arguments, the deed -/
theorem tE_mut {m : M} {t : E} {es : List E} {σ : L2.St} {H : Hp} {Q : L2.VK} (h : tEX X cf Ex (.mut m t es) σ H Q) : tEX X cf Ex t σ H fun x H1 => (∃ c G, mutTy m (some c) = true ∧ CnR X.K X.mg G H1 c x) ∧ tAX X cf Ex es σ H1 fun xs H2 =>
    ∃ G a o o' vs v, x = .ref a ∧ ObR X.K X.mg G H2 a o ∧ PVRs X.K X.mg G H2 vs xs ∧ mutSem m o vs = some (o', v) ∧ (∀ ho : HO, Mono G H2 G (upd H2 a ho)) ∧
      ∀ ho z, ObR X.K X.mg G (upd H2 a ho) a o' → PVR X.K X.mg G (upd H2 a ho) v z → Q z (upd H2 a ho) := by
  obtain ⟨G, s, R, h⟩ := h
  simp only [evalE] at h
  refine ⟨G, s, R, ?_⟩
  cases e1 : evalE cf t s with
  | bad => rw [e1] at h; rcases h with ⟨_, _, z, _⟩ | ⟨_, _, z, _⟩ <;> cases z
  | exc x s1 =>
    rw [e1] at h
    rcases h with ⟨_, _, z, _⟩ | ⟨_, _, z, h⟩ <;> cases z
    exact .inr ⟨_, _, rfl, h⟩
  | ok r s1 =>
    rw [e1] at h
    simp only [Res.bind] at h
    split at h
    · rcases h with ⟨_, _, z, _⟩ | ⟨_, _, z, _⟩ <;> cases z
    · rename_i hty
      refine .inl ⟨r, s1, rfl, fun G1 H1 x R1 st1 rv1 => ⟨?_, G1, s1, R1, ?_⟩⟩
      · cases ec : cont s1 r with
        | none => rw [ec] at hty; cases m <;> exact absurd rfl hty
        | some c => exact ⟨c, G1, by rw [ec] at hty; simpa using hty, cont_ok R1 rv1 ec⟩
      · cases e2 : evalEs cf es s1 with
        | bad => rw [e2] at h; rcases h with ⟨_, _, z, _⟩ | ⟨_, _, z, _⟩ <;> cases z
        | exc x s2 =>
          rw [e2] at h
          rcases h with ⟨_, _, z, _⟩ | ⟨_, _, z, h⟩ <;> cases z
          exact .inr ⟨_, _, rfl, h.step st1⟩
        | ok rs s2 =>
          rw [e2] at h
          simp only at h
          refine .inl ⟨rs, s2, rfl, fun G2 H2 xs R2 st2 rvs => ?_⟩
          cases e3 : keeps s2 rs with
          | none => rw [e3] at h; rcases h with ⟨_, _, z, _⟩ | ⟨_, _, z, _⟩ <;> cases z
          | some q =>
            obtain ⟨vs, s3⟩ := q
            rw [e3] at h
            simp only at h
            cases e4 : cont s3 r with
            | none => rw [e4] at h; rcases h with ⟨_, _, z, _⟩ | ⟨_, _, z, _⟩ <;> cases z
            | some o =>
              rw [e4] at h
              simp only at h
              cases e5 : mutSem m o vs with
              | none => rw [e5] at h; rcases h with ⟨_, _, z, _⟩ | ⟨_, _, z, _⟩ <;> cases z
              | some q =>
                obtain ⟨o', v⟩ := q
                rw [e5] at h
                simp only at h
                cases e6 : putBack r o' s3 with
                | none => rw [e6] at h; rcases h with ⟨_, _, z, _⟩ | ⟨_, _, z, _⟩ <;> cases z
                | some s4 =>
                  rw [e6] at h
                  rcases h with ⟨_, _, z, h⟩ | ⟨_, _, z, _⟩ <;> cases z
                  obtain ⟨G3, R3, st3, m3, p3, _, _⟩ := keeps_ok R2 st2 rvs e3
                  have rv3 := rv1.mono st3
                  obtain ⟨a, rfl, ob, sts, fin⟩ := mut_obj R3 rv3 e4 e6
                  refine ⟨G3, a, o, o', vs, _, rfl, ob, p3, e5, fun ho => (sts ho).mono, fun ho z nb pz => ?_⟩
                  exact h G3 _ z (fin ho nb) ((st1.trans st3).trans (sts ho)) pz
theorem lst_ty {G : Gh} {H : Hp} {c : PV} {x : V} {m : M} (h : mutTy m (some c) = true) (hc : CnR X.K X.mg G H c x) : L2.tyV X.K "list" x H := by
  have : ∃ xs, c = .lst xs := by
    cases c <;> first
      | exact ⟨_, rfl⟩
      | cases h
  obtain ⟨xs, rfl⟩ := this
  obtain ⟨a, ys, rfl, h1, _⟩ := hc.lst
  exact .inl ⟨rfl, ys, .of h1⟩
theorem PVRs.one {K : PySem.W.Frag} {mg : Str → Option Value} {G : Gh} {H : Hp} {v : PV} {xs : List V} (h : PVRs K mg G H [v] xs) : ∃ x, xs = [x] ∧ PVR K mg G H v x := by
  cases h with
  | cons h t => cases t; exact ⟨_, rfl, h⟩
theorem pe_append {N : List Str} {k : Nat} {sc : Scope} {d e : Expr} {d' e' : E} {apos cpos : Pos} (hl : (apos.endLine == cpos.line) = true) (hc : isCallE d = false) (hd : cE g N k sc d = some d') (he : cE g N k sc e = some e')
    (hpd : PE X d (tEX X cf Ex d')) (hpe : PE X e (tEX X cf Ex e')) : PE X (.Call (.Attribute d "append" apos) [e] [] cpos) (tEX X cf Ex (.mut .append d' [e'])) := by
  refine PE.imp (L2.pe_bm PySem.F.plainAttrs_list PySem.F.slot_list_append PySem.F.type_list_append L2.mt_append hpd (L2.pa_cons hpe L2.pa_nil (cE_star he [] X.env)) (cE_base hd hc _ _) (by rw [cE_star he]; rfl) hl (cE_star he [] X.env) rfl) fun σ H Q h => ?_
  refine tE_mono (tE_mut h) fun x H1 ⟨⟨c, G, ht, hcn⟩, q⟩ => ⟨lst_ty ht hcn, ?_⟩
  refine tE_mono (tA_one q) fun y H2 ⟨G2, a, o, o', vs, v, ex, ob, pv, e5, ms, fin⟩ => ?_
  subst ex
  change appSem o vs = _ at e5
  unfold appSem at e5
  split at e5
  · rename_i xs w
    split at e5 <;> cases e5
    rename_i hz
    obtain ⟨ys, h1, p1⟩ := ob
    obtain ⟨y', ey, py⟩ := pv.one
    cases ey
    have st := ms (.lst (ys ++ [y]))
    exact ⟨a, ys, y, rfl, rfl, h1, by rw [← p1.length, ← szL_eq]; exact hz, fin _ _ ⟨_, upd_same, (p1.step st).append (.cons (py.step st) .nil)⟩ .non⟩
  · cases e5
theorem last_get {α : Type} {xs : List α} {v : α} (h : xs.getLast? = some v) : xs[xs.length - 1]? = some v := by rw [← List.getLast?_eq_getElem?]; exact h
theorem pe_pop {N : List Str} {k : Nat} {sc : Scope} {d : Expr} {d' : E} {apos cpos : Pos} (hl : (apos.endLine == cpos.line) = true) (hc : isCallE d = false) (hd : cE g N k sc d = some d')
    (hpd : PE X d (tEX X cf Ex d')) : PE X (.Call (.Attribute d "pop" apos) [] [] cpos) (tEX X cf Ex (.mut .pop d' [])) := by
  refine PE.imp (L2.pe_bm0 PySem.F.plainAttrs_list PySem.F.slot_list_pop PySem.F.type_list_pop L2.mt_pop hpd (cE_base hd hc _ _) hl) fun σ H Q h => ?_
  refine tE_mono (tE_mut h) fun x H1 ⟨⟨c, G, ht, hcn⟩, q⟩ => ⟨lst_ty ht hcn, ?_⟩
  obtain ⟨G2, a, o, o', vs, v, ex, ob, pv, e5, ms, fin⟩ := tA_nil q
  subst ex
  change popSem o vs = _ at e5
  unfold popSem at e5
  split at e5
  · rename_i xs
    split at e5 <;> cases e5
    rename_i w hw
    obtain ⟨ys, h1, p1⟩ := ob
    obtain ⟨y, hy, py⟩ := p1.get (last_get hw)
    rw [p1.length] at hy
    have st := ms (.lst ys.dropLast)
    exact ⟨a, ys, y, rfl, rfl, h1, hy, fin _ _ ⟨_, upd_same, p1.dropLast.step st⟩ (py.step st)⟩
  · cases e5
end
end TP

set_option Elab.async false
set_option linter.all false
set_option maxRecDepth 100000
set_option maxHeartbeats 8000000
/-! Sal5b: more rules of expressions. -/
namespace TP
open PySem PySem.Spec PyProof.Rows
open L2 (V Hp HO Key upd upd_same upd_ne SqL SqT Rd OpR UnR CallR IxR Vals Inv PE PT PW PA PI PG PGs PO PTs Vis Gl Loc MtR PK)

section
variable {X : L2.Cx} {g : Cg} {cf : CF} {Ex : L2.WX}
/-! x is True -/
theorem blC_inv {b : Expr} {c : Bool} (h : isBlC b = some c) : ∃ k p, b = .Constant (.bool c) k p := by
  unfold isBlC at h
  split at h
  · cases h; exact ⟨_, _, rfl⟩
  · cases h
theorem pe_isB' {a b : Expr} {a' : E} {c : Bool} {pos : Pos} (hb : isBlC b = some c) (ha : PE X a (tEX X cf Ex a')) : PE X (.Compare a [.Is] [b] pos) (tEX X cf Ex (.prim (.isB c) [a'])) ∧ PT X (.Compare a [.Is] [b] pos) (tTX X cf Ex (.prim (.isB c) [a'])) := by
  obtain ⟨k, p, rfl⟩ := blC_inv hb
  have red : ∀ {σ H} {Q : L2.VK}, tEX X cf Ex (.prim (.isB c) [a']) σ H Q → L2.tOp (fun x y H Q => y = .bl c ∧ rP1 X.K X.mg (isBSem c) x H Q) (tEX X cf Ex a') (L2.tC (.bl c)) σ H Q := fun h =>
    tE_mono (tE_prim1 (f := isBSem c) (fun _ => rfl) h) fun x H1 q => ⟨rfl, q⟩
  exact ⟨PE.imp (L2.pe_cmpR (opIsB c) ha L2.pe_bl (L2.nomark _)) fun σ H Q h => red h, PT.imp (L2.pt_cmpR (opIsB c) ha L2.pe_bl (L2.nomark _)) fun σ H Q h => red (tE_of_tT h)⟩
theorem pe_notB' {a b : Expr} {a' : E} {c : Bool} {pos : Pos} (hb : isBlC b = some c) (ha : PE X a (tEX X cf Ex a')) : PE X (.Compare a [.IsNot] [b] pos) (tEX X cf Ex (.prim (.notB c) [a'])) ∧ PT X (.Compare a [.IsNot] [b] pos) (tTX X cf Ex (.prim (.notB c) [a'])) := by
  obtain ⟨k, p, rfl⟩ := blC_inv hb
  have red : ∀ {σ H} {Q : L2.VK}, tEX X cf Ex (.prim (.notB c) [a']) σ H Q → L2.tOp (fun x y H Q => y = .bl c ∧ rP1 X.K X.mg (notBSem c) x H Q) (tEX X cf Ex a') (L2.tC (.bl c)) σ H Q := fun h =>
    tE_mono (tE_prim1 (f := notBSem c) (fun _ => rfl) h) fun x H1 q => ⟨rfl, q⟩
  exact ⟨PE.imp (L2.pe_cmpR (opNotB c) ha L2.pe_bl (L2.nomark _)) fun σ H Q h => red h, PT.imp (L2.pt_cmpR (opNotB c) ha L2.pe_bl (L2.nomark _)) fun σ H Q h => red (tE_of_tT h)⟩
/-! x[::-1] of a list -/
theorem pe_revs {a st : Expr} {a' : E} {p p2 : Pos} (hs : isM1 st = true) (ha : PE X a (tEX X cf Ex a')) : PE X (.Subscript a (.Slice none none (some st) p) p2) (tEX X cf Ex (.prim .revs [a'])) := by
  unfold isM1 at hs
  split at hs
  · have hs := of_decide_eq_true hs
    subst hs
    refine PE.imp (L2.pe_revL ha) fun σ H Q h => tE_mono (tE_prim1 (f := revsSem) (fun _ => rfl) h) fun x H1 ⟨G, c, r, hc, e, q⟩ => ?_
    unfold revsSem at e
    split at e <;> cases e
    obtain ⟨a, ys, rfl, h1, p1⟩ := hc.lst
    exact ⟨a, ys, rfl, .of h1, fun p hp => q _ _ (.lst hp p1.reverse)⟩
  · cases hs
/-! d[e] of a dict of the module -/
theorem tE_didx {x : Str} {tb : List (List Nat × PV)} {e : E} {σ : L2.St} {H : Hp} {Q : L2.VK} (h : tEX X cf Ex (.didx x tb e) σ H Q) : tEX X cf Ex e σ H fun y H1 => ∃ z v, y = .str ⟨z.toArray⟩ ∧ tb.lookup z = some v ∧ ∀ V, (∀ G H, PVR X.K X.mg G H v V) → Q V H1 := by
  obtain ⟨G, s, R, h⟩ := h
  simp only [evalE] at h
  refine ⟨G, s, R, ?_⟩
  cases e1 : evalE cf e s with
  | bad => rw [e1] at h; rcases h with ⟨_, _, z, _⟩ | ⟨_, _, z, _⟩ <;> cases z
  | exc x s1 =>
    rw [e1] at h
    rcases h with ⟨_, _, z, _⟩ | ⟨_, _, z, h⟩ <;> cases z
    exact .inr ⟨_, _, rfl, h⟩
  | ok r s1 =>
    rw [e1] at h
    simp only [Res.bind] at h
    refine .inl ⟨r, s1, rfl, fun G1 H1 y R1 st1 rv => ?_⟩
    split at h
    · rename_i z ec
      split at h
      · rename_i v ev
        rcases h with ⟨_, _, z, h⟩ | ⟨_, _, z, _⟩ <;> cases z
        exact ⟨z, v, (cont_ok R1 rv ec).str, ev, fun V p => h G1 H1 V R1 st1 (p G1 H1)⟩
      · rcases h with ⟨_, _, z, _⟩ | ⟨_, _, z, _⟩ <;> cases z
    · rcases h with ⟨_, _, z, _⟩ | ⟨_, _, z, _⟩ <;> cases z
theorem pe_didx (o : XO X g cf Ex) {N : List Str} {a i : Expr} {i' : E} {q : Str × List (List Nat × PV)} {pos : Pos} (hs : isSliceE i = false) (hd : dcOf g N X.env.scope a = some q) (hi : PE X i (tEX X cf Ex i')) : PE X (.Subscript a i pos) (tEX X cf Ex (.didx q.1 q.2 i')) := by
  unfold dcOf at hd
  split at hd
  · rename_i x p
    split at hd
    · rename_i hp
      rw [Bool.and_eq_true] at hp
      obtain ⟨tb, hl, rfl⟩ := Option.map_eq_some_iff.mp hd
      obtain ⟨a, es, n, hm, kd, hz⟩ := o.dcs x tb hl
      refine PE.imp (L2.pe_ix L2.ix_kdict (L2.pe_glob (v := .ref a) (gl_of hp.2) hm rfl (nm_ne hp.1).1) hi (ix_plain hs)) fun σ H Q h => ?_
      refine tE_mono (tE_didx h) fun y H1 ⟨z, v, ey, ev, q⟩ => ?_
      obtain ⟨u, V, h1, h2, h3⟩ := hz z v ev
      exact ⟨a, _, V, rfl, ey, ⟨es, n, u, kd.at_, kd.lit, h1, h2⟩, q V h3⟩
    · cases hd
  · cases hd
/-! methods of one thing that are operations -/
theorem ops1 {m : Str} {p : P} (h : mth1 m = some p) : ∃ f id, (∀ c d, primSem p [c, d] = f c d) ∧ (∀ c d, (f c d).isSome = true → ∃ x, c = .str x) ∧ MtR X id (rM1 X.K X.mg f) ∧ Slot "str" m id ∧ typeOf (.builtin id) = pure (.type "method_descriptor") := by
  unfold mth1 at h
  split at h
  · rename_i e; subst e; cases h
    refine ⟨joinSem, _, fun _ _ => rfl, fun c d q => ?_, mtJoin, PySem.F.slot_str_join, PySem.F.type_str_join⟩
    unfold joinSem at q
    split at q <;> first | exact ⟨_, rfl⟩ | cases q
  split at h
  · rename_i e; subst e; cases h
    refine ⟨splitSem, _, fun _ _ => rfl, fun c d q => ?_, mtSplit, PySem.F.slot_str_split, PySem.F.type_str_split⟩
    unfold splitSem at q
    split at q <;> first | exact ⟨_, rfl⟩ | cases q
  split at h
  · rename_i e; subst e; cases h
    refine ⟨startsSem, _, fun _ _ => rfl, fun c d q => ?_, mtStarts, PySem.F.slot_str_startswith, PySem.F.type_str_startswith⟩
    unfold startsSem at q
    split at q <;> first | exact ⟨_, rfl⟩ | cases q
  cases h
theorem tE_sm {p : P} {t e : E} {f : PV → PV → Option RV} (hp : ∀ c d, primSem p [c, d] = f c d) {σ : L2.St} {H : Hp} {Q : L2.VK} (h : tEX X cf Ex (.sm p t e) σ H Q) :
    tEX X cf Ex t σ H fun x H1 => (∃ z, x = .str z) ∧ tEX X cf Ex e σ H1 fun y H2 => rP2 X.K X.mg f x y H2 Q := by
  obtain ⟨G, s, R, h⟩ := h
  simp only [evalE] at h
  refine ⟨G, s, R, ?_⟩
  cases e1 : evalE cf t s with
  | bad => rw [e1] at h; rcases h with ⟨_, _, z, _⟩ | ⟨_, _, z, _⟩ <;> cases z
  | exc x s1 =>
    rw [e1] at h
    rcases h with ⟨_, _, z, _⟩ | ⟨_, _, z, h⟩ <;> cases z
    exact .inr ⟨_, _, rfl, h⟩
  | ok r s1 =>
    rw [e1] at h
    simp only [Res.bind] at h
    refine .inl ⟨r, s1, rfl, fun G1 H1 x R1 st1 rv => ?_⟩
    split at h
    · rename_i z ec
      have ex := (cont_ok R1 rv ec).str
      subst ex
      refine ⟨⟨_, rfl⟩, G1, s1, R1, ?_⟩
      cases e2 : evalE cf e s1 with
      | bad => rw [e2] at h; rcases h with ⟨_, _, z, _⟩ | ⟨_, _, z, _⟩ <;> cases z
      | exc x s2 =>
        rw [e2] at h
        rcases h with ⟨_, _, z, _⟩ | ⟨_, _, z, h⟩ <;> cases z
        exact .inr ⟨_, _, rfl, h.step st1⟩
      | ok r2 s2 =>
        rw [e2] at h
        simp only at h
        refine .inl ⟨r2, s2, rfl, fun G2 H2 y R2 st2 rv2 => ?_⟩
        cases e3 : cont s2 r2 with
        | none => rw [e3] at h; rcases h with ⟨_, _, z, _⟩ | ⟨_, _, z, _⟩ <;> cases z
        | some d =>
          rw [e3] at h
          simp only [hp] at h
          cases e4 : f (.str z) d with
          | none => rw [e4] at h; rcases h with ⟨_, _, z, _⟩ | ⟨_, _, z, _⟩ <;> cases z
          | some w =>
            rw [e4] at h
            rcases h with ⟨_, _, z, h⟩ | ⟨_, _, z, _⟩ <;> cases z
            refine ⟨G2, .str _, d, _, .inl (.str _), cont_ok R2 rv2 e3, e4, fun z H' oz => ?_⟩
            obtain ⟨G3, R3, st3, rv3⟩ := oz.rel R2
            exact h G3 H' z R3 ((st1.trans st2).trans st3) (rv3.back (st1.trans st2))
    · rcases h with ⟨_, _, z, _⟩ | ⟨_, _, z, _⟩ <;> cases z
theorem pe_sm {N : List Str} {k : Nat} {sc : Scope} {m : Str} {p : P} {d e : Expr} {d' e' : E} {apos cpos : Pos} (hm : mth1 m = some p) (hl : (apos.endLine == cpos.line) = true) (hc : isCallE d = false) (hd : cE g N k sc d = some d') (he : cE g N k sc e = some e')
    (hpd : PE X d (tEX X cf Ex d')) (hpe : PE X e (tEX X cf Ex e')) : PE X (.Call (.Attribute d m apos) [e] [] cpos) (tEX X cf Ex (.sm p d' e')) := by
  obtain ⟨f, id, hf, _, mr, sl, ty⟩ := ops1 hm
  refine PE.imp (L2.pe_bm PySem.F.plainAttrs_str sl ty mr hpd (L2.pa_cons hpe L2.pa_nil (cE_star he [] X.env)) (cE_base hd hc _ _) (by rw [cE_star he]; rfl) hl (cE_star he [] X.env) rfl) fun σ H Q h => ?_
  refine tE_mono (tE_sm hf h) fun x H1 ⟨⟨z, ez⟩, q⟩ => ⟨?_, ?_⟩
  · subst ez; rfl
  · exact tE_mono q fun y H2 q => ⟨y, rfl, q⟩
/-- d.get(k, x) -/
theorem tE_dget {t k x : E} {σ : L2.St} {H : Hp} {Q : L2.VK} (h : tEX X cf Ex (.dget t k x) σ H Q) : L2.tDGet2 (tEX X cf Ex t) (tEX X cf Ex k) (tEX X cf Ex x) σ H Q := by
  obtain ⟨G, s, R, h⟩ := h
  simp only [evalE] at h
  refine ⟨G, s, R, ?_⟩
  cases e1 : evalE cf t s with
  | bad => rw [e1] at h; rcases h with ⟨_, _, z, _⟩ | ⟨_, _, z, _⟩ <;> cases z
  | exc x s1 =>
    rw [e1] at h
    rcases h with ⟨_, _, z, _⟩ | ⟨_, _, z, h⟩ <;> cases z
    exact .inr ⟨_, _, rfl, h⟩
  | ok r s1 =>
    rw [e1] at h
    simp only [Res.bind] at h
    refine .inl ⟨r, s1, rfl, fun G1 H1 y R1 st1 rv => ?_⟩
    split at h
    · rename_i ks0 vs0 ec
      obtain ⟨a, kvs0, rfl, g1, g2, g3⟩ := (cont_ok R1 rv ec).dct
      refine ⟨a, rfl, .inl ⟨kvs0, g1⟩, G1, s1, R1, ?_⟩
      cases e2 : evalE cf k s1 with
      | bad => rw [e2] at h; rcases h with ⟨_, _, z, _⟩ | ⟨_, _, z, _⟩ <;> cases z
      | exc x s2 =>
        rw [e2] at h
        rcases h with ⟨_, _, z, _⟩ | ⟨_, _, z, h⟩ <;> cases z
        exact .inr ⟨_, _, rfl, h.step st1⟩
      | ok rk s2 =>
        rw [e2] at h
        simp only at h
        refine .inl ⟨rk, s2, rfl, fun G2 H2 yk R2 st2 rvk => ⟨G2, s2, R2, ?_⟩⟩
        cases e3 : evalE cf x s2 with
        | bad => rw [e3] at h; rcases h with ⟨_, _, z, _⟩ | ⟨_, _, z, _⟩ <;> cases z
        | exc x s3 =>
          rw [e3] at h
          rcases h with ⟨_, _, z, _⟩ | ⟨_, _, z, h⟩ <;> cases z
          exact .inr ⟨_, _, rfl, h.step (st1.trans st2)⟩
        | ok rx s3 =>
          rw [e3] at h
          simp only at h
          refine .inl ⟨rx, s3, rfl, fun G3 H3 yx R3 st3 rvx => ?_⟩
          split at h
          · rename_i ks vs ck vx s4 c1 c2 c3
            obtain ⟨b, kvs, eb, f1, f2, f3⟩ := (cont_ok R3 (rv.mono (st2.trans st3)) c1).dct
            cases eb
            split at h
            · rename_i q hq
              rcases h with ⟨_, _, z, h⟩ | ⟨_, _, z, _⟩ <;> cases z
              have ek := (cont_ok R3 (rvk.mono st3) c2).key hq
              obtain ⟨G4, R4, st4, m4, p4, _⟩ := keep_ok R3 st3 rvx c3
              subst ek
              refine ⟨_, dget_k f1, ?_⟩
              cases e5 : lkD ks vs q with
              | some c =>
                rw [e5] at h
                obtain ⟨x', e6, p6⟩ := (lk_ok (q := q) f2 f3).1 c e5
                rw [e6]
                exact h G4 H3 _ R4 ((st1.trans st2).trans st4) (p6.step m4)
              | none =>
                rw [e5] at h
                rw [lk_no f2 f3 e5]
                exact h G4 H3 _ R4 ((st1.trans st2).trans st4) p4
            · rcases h with ⟨_, _, z, _⟩ | ⟨_, _, z, _⟩ <;> cases z
          · rcases h with ⟨_, _, z, _⟩ | ⟨_, _, z, _⟩ <;> cases z
    · rcases h with ⟨_, _, z, _⟩ | ⟨_, _, z, _⟩ <;> cases z
theorem pe_dget {N : List Str} {k : Nat} {sc : Scope} {d e f : Expr} {d' e' f' : E} {apos cpos : Pos} (o : XO X g cf Ex) (hl : (apos.endLine == cpos.line) = true) (hc : isCallE d = false) (hd : cE g N k sc d = some d') (he : cE g N k sc e = some e') (hf : cE g N k sc f = some f')
    (hpd : PE X d (tEX X cf Ex d')) (hpe : PE X e (tEX X cf Ex e')) (hpf : PE X f (tEX X cf Ex f')) : PE X (.Call (.Attribute d "get" apos) [e, f] [] cpos) (tEX X cf Ex (.dget d' e' f')) := by
  have s1 : starEach [e, f] X.env = [(false, eval e X.env), (false, eval f X.env)] := by rw [cE_star he, cE_star hf]; rfl
  refine PE.imp (L2.pe_dget2 (by have := o.hu; omega) hpd hpe hpf ⟨cE_base hd hc _ _, ?_, hl, ?_⟩) fun σ H Q h => tE_dget h
  · rw [s1]; rfl
  · rw [s1]; rfl
/-! deeds -/
theorem pe_clear {N : List Str} {k : Nat} {sc : Scope} {d : Expr} {d' : E} {apos cpos : Pos} (hl : (apos.endLine == cpos.line) = true) (hc : isCallE d = false) (hd : cE g N k sc d = some d')
    (hpd : PE X d (tEX X cf Ex d')) : PE X (.Call (.Attribute d "clear" apos) [] [] cpos) (tEX X cf Ex (.mut .clear d' [])) := by
  refine PE.imp (L2.pe_bm0 PySem.F.plainAttrs_list PySem.F.slot_list_clear PySem.F.type_list_clear L2.mt_clear hpd (cE_base hd hc _ _) hl) fun σ H Q h => ?_
  refine tE_mono (tE_mut h) fun x H1 ⟨⟨c, G, ht, hcn⟩, q⟩ => ⟨lst_ty ht hcn, ?_⟩
  obtain ⟨G2, a, o, o', vs, v, ex, ob, pv, e5, ms, fin⟩ := tA_nil q
  subst ex
  change clrSem o vs = _ at e5
  unfold clrSem at e5
  split at e5 <;> cases e5
  obtain ⟨ys, h1, p1⟩ := ob
  exact ⟨a, ys, rfl, rfl, h1, fin _ _ ⟨_, upd_same, .nil⟩ .non⟩
theorem pe_reverse {N : List Str} {k : Nat} {sc : Scope} {d : Expr} {d' : E} {apos cpos : Pos} (hl : (apos.endLine == cpos.line) = true) (hc : isCallE d = false) (hd : cE g N k sc d = some d')
    (hpd : PE X d (tEX X cf Ex d')) : PE X (.Call (.Attribute d "reverse" apos) [] [] cpos) (tEX X cf Ex (.mut .reverse d' [])) := by
  refine PE.imp (L2.pe_bm0 PySem.F.plainAttrs_list PySem.F.slot_list_reverse PySem.F.type_list_reverse L2.mt_reverse hpd (cE_base hd hc _ _) hl) fun σ H Q h => ?_
  refine tE_mono (tE_mut h) fun x H1 ⟨⟨c, G, ht, hcn⟩, q⟩ => ⟨lst_ty ht hcn, ?_⟩
  obtain ⟨G2, a, o, o', vs, v, ex, ob, pv, e5, ms, fin⟩ := tA_nil q
  subst ex
  change rvsSem o vs = _ at e5
  unfold rvsSem at e5
  split at e5 <;> cases e5
  obtain ⟨ys, h1, p1⟩ := ob
  have st := ms (.lst ys.reverse)
  exact ⟨a, ys, rfl, rfl, h1, fin _ _ ⟨_, upd_same, p1.reverse.step st⟩ .non⟩
theorem eraseIdx_pv {K : PySem.W.Frag} {mg : Str → Option Value} {G : Gh} {H : Hp} : ∀ {vs : List PV} {xs : List V} (i : Nat), PVRs K mg G H vs xs → PVRs K mg G H (vs.eraseIdx i) (xs.eraseIdx i)
  | _, _, _, .nil => .nil
  | _, _, 0, .cons _ t => t
  | _, _, i + 1, .cons h t => .cons h (eraseIdx_pv i t)
theorem pe_popAt {N : List Str} {k : Nat} {sc : Scope} {d e : Expr} {d' e' : E} {apos cpos : Pos} (hl : (apos.endLine == cpos.line) = true) (hc : isCallE d = false) (hd : cE g N k sc d = some d') (he : cE g N k sc e = some e')
    (hpd : PE X d (tEX X cf Ex d')) (hpe : PE X e (tEX X cf Ex e')) : PE X (.Call (.Attribute d "pop" apos) [e] [] cpos) (tEX X cf Ex (.mut .popAt d' [e'])) := by
  refine PE.imp (L2.pe_bm PySem.F.plainAttrs_list PySem.F.slot_list_pop PySem.F.type_list_pop L2.mt_popAt hpd (L2.pa_cons hpe L2.pa_nil (cE_star he [] X.env)) (cE_base hd hc _ _) (by rw [cE_star he]; rfl) hl (cE_star he [] X.env) rfl) fun σ H Q h => ?_
  refine tE_mono (tE_mut h) fun x H1 ⟨⟨c, G, ht, hcn⟩, q⟩ => ⟨lst_ty ht hcn, ?_⟩
  refine tE_mono (tA_one q) fun y H2 ⟨G2, a, o, o', vs, v, ex, ob, pv, e5, ms, fin⟩ => ?_
  subst ex
  change popASem o vs = _ at e5
  unfold popASem at e5
  split at e5
  · rename_i xs i
    split at e5
    · rename_i hz
      split at e5 <;> cases e5
      rename_i w hw
      obtain ⟨ys, h1, p1⟩ := ob
      obtain ⟨y', ey, py⟩ := pv.one
      cases ey
      cases py
      obtain ⟨y, hy, py⟩ := p1.get hw
      have hlt : i.toNat < ys.length := (List.getElem?_eq_some_iff.mp hy).1
      have st := ms (.lst (ys.eraseIdx i.toNat))
      refine ⟨a, ys, i, i.toNat, y, rfl, rfl, h1, by omega, hz.2, ?_, hy, fin _ _ ⟨_, upd_same, eraseIdx_pv _ (p1.step st)⟩ (py.step st)⟩
      have e1 : (if i < 0 then i + (ys.length : Int) else i) = i := if_neg (by omega)
      unfold seqIndex?
      simp only [e1]
      rw [if_pos (by simp only [Bool.and_eq_true, decide_eq_true_eq]; omega)]
    · cases e5
  · cases e5
theorem pe_insert {N : List Str} {k : Nat} {sc : Scope} {d e e2 : Expr} {d' e' e2' : E} {apos cpos : Pos} (hl : (apos.endLine == cpos.line) = true) (hc : isCallE d = false) (hd : cE g N k sc d = some d') (he : cE g N k sc e = some e') (he2 : cE g N k sc e2 = some e2')
    (hpd : PE X d (tEX X cf Ex d')) (hpe : PE X e (tEX X cf Ex e')) (hpe2 : PE X e2 (tEX X cf Ex e2')) : PE X (.Call (.Attribute d "insert" apos) [e, e2] [] cpos) (tEX X cf Ex (.mut .insert d' [e', e2'])) := by
  refine PE.imp (L2.pe_bm PySem.F.plainAttrs_list PySem.F.slot_list_insert PySem.F.type_list_insert L2.mt_insert hpd (L2.pa_cons hpe (L2.pa_cons hpe2 L2.pa_nil (cE_star he2 [] X.env)) (cE_star he [e2] X.env)) (cE_base hd hc _ _) (by rw [cE_star he, cE_star he2]; rfl) hl (cE_star he [e2] X.env) (by rw [cE_star he2]; rfl)) fun σ H Q h => ?_
  refine tE_mono (tE_mut h) fun x H1 ⟨⟨c, G, ht, hcn⟩, q⟩ => ⟨lst_ty ht hcn, ?_⟩
  refine tE_mono (tA_two q) fun y H2 q => tE_mono q fun y2 H3 ⟨G2, a, o, o', vs, v, ex, ob, pv, e5, ms, fin⟩ => ?_
  subst ex
  change insSem o vs = _ at e5
  unfold insSem at e5
  split at e5
  · rename_i xs i w
    split at e5 <;> cases e5
    rename_i hz
    obtain ⟨ys, h1, p1⟩ := ob
    cases pv with
    | cons p2 t => cases t with
      | cons p3 t =>
        cases t
        cases p2
        have st := ms (.lst (ys.take i.toNat ++ [y2] ++ ys.drop i.toNat))
        have p1' := p1.step st
        exact ⟨a, ys, i, y2, rfl, rfl, h1, by rw [← p1.length, ← szL_eq]; exact hz.1, hz.2.1, hz.2.2, fin _ _ ⟨_, upd_same, ((p1'.take _).append (.cons (p3.step st) .nil)).append (p1'.drop _)⟩ .non⟩
  · cases e5
/-! calls by keywords, of a slot's def -/
theorem permR_ok {K : PySem.W.Frag} {mg : Str → Option Value} {G0 G : Gh} {H : Hp} {σ : L2.St} {rs : List RV} {xs : List V} (rv : RVRs K mg G0 G H σ rs xs) : ∀ {pm : List (Sum Nat PV)} {qs : List RV} {ys : List V}, permR rs pm = some qs → PmRel K mg pm xs ys → (permIx pm).Nodup → RVRs K mg G0 G H σ qs ys ∧
    ∀ (j : Nat) o, qs[j]? = some (.fr o) → ∃ i ∈ permIx pm, rs[i]? = some (.fr o) ∧ ys[j]? = xs[i]?
  | [], qs, ys, e, pr, nd => by
    cases e
    have : ys = [] := List.eq_nil_of_length_eq_zero pr.1
    subst this
    exact ⟨.nil, fun j o h => by simp at h⟩
  | c :: pm, qs, ys, e, pr, nd => by
    obtain ⟨hl, hp⟩ := pr
    cases ys with
    | nil => simp at hl
    | cons y ys =>
      have pr' : PmRel K mg pm xs ys := ⟨by simpa using hl, fun j c h => by
        have := hp (j + 1) c (by simpa using h)
        cases c <;> simpa using this⟩
      cases c with
      | inl i =>
        simp only [permR] at e
        cases h1 : rs[i]? with
        | none => rw [h1] at e; cases e
        | some r =>
          cases h2 : permR rs pm with
          | none => rw [h1, h2] at e; cases e
          | some qs' =>
            rw [h1, h2] at e
            cases e
            obtain ⟨n1, n2⟩ := List.nodup_cons.mp (show (i :: permIx pm).Nodup from nd)
            obtain ⟨rv', fr'⟩ := permR_ok rv h2 pr' n2
            have hy : some y = xs[i]? := hp 0 (.inl i) rfl
            obtain ⟨x, ex, rx⟩ := rv.get h1
            rw [ex] at hy
            cases hy
            refine ⟨.cons rx (fun o eo o' j ej ey => ?_) rv', fun j o h => ?_⟩
            · subst eo
              obtain ⟨i', hi', er, ey'⟩ := fr' j o' ej
              rw [ey] at ey'
              have := rv.frU i i' o o' y h1 er ex ey'.symm
              exact n1 (this ▸ hi')
            · cases j with
              | zero =>
                simp at h
                subst h
                exact ⟨i, List.mem_cons_self .., h1, by simpa using ex.symm⟩
              | succ j =>
                obtain ⟨i', hi', er, ey'⟩ := fr' j o (by simpa using h)
                exact ⟨i', List.mem_cons_of_mem _ hi', er, by simpa using ey'⟩
      | inr v =>
        simp only [permR] at e
        obtain ⟨qs', h2, rfl⟩ := Option.map_eq_some_iff.mp e
        obtain ⟨rv', fr'⟩ := permR_ok rv h2 pr' nd
        obtain ⟨y', ey, py⟩ := hp 0 (.inr v) rfl
        simp at ey
        subst ey
        refine ⟨.cons (py G H) (fun o eo => by cases eo) rv', fun j o h => ?_⟩
        cases j with
        | zero => simp at h
        | succ j => simpa [permIx] using fr' j o (by simpa using h)
theorem tE_callK {f : Str} {es : List E} {pm : List (Sum Nat PV)} (hpm : permOk pm = true) {σ : L2.St} {H : Hp} {Q : L2.VK} (h : tEX X cf Ex (.callK f es pm) σ H Q) :
    tAX X cf Ex es σ H fun xs H1 => ∀ ys, PmRel X.K X.mg pm xs ys → spF X.K X.mg cf f ys H1 Q (fun c d H => Ex c d σ H) := by
  obtain ⟨G, s, R, h⟩ := h
  simp only [evalE] at h
  refine ⟨G, s, R, ?_⟩
  cases e1 : evalEs cf es s with
  | bad => rw [e1] at h; rcases h with ⟨_, _, z, _⟩ | ⟨_, _, z, _⟩ <;> cases z
  | exc x s1 =>
    rw [e1] at h
    rcases h with ⟨_, _, z, _⟩ | ⟨_, _, z, h⟩ <;> cases z
    exact .inr ⟨_, _, rfl, h⟩
  | ok rs s1 =>
    rw [e1] at h
    simp only [Res.bind] at h
    refine .inl ⟨rs, s1, rfl, fun G1 H1 xs R1 st1 rv ys pr => ?_⟩
    cases e2 : permR rs pm with
    | none => rw [e2] at h; rcases h with ⟨_, _, z, _⟩ | ⟨_, _, z, _⟩ <;> cases z
    | some qs =>
      rw [e2] at h
      exact call_ok R1 st1 (permR_ok rv e2 pr (of_decide_eq_true hpm)).1 h
theorem RVRs.app {K : PySem.W.Frag} {mg : Str → Option Value} {G0 G1 G : Gh} {H0 H1 H : Hp} {σ : L2.St} (s0 : Step G0 H0 G1 H1) (st : Step G1 H1 G H) {ts : List RV} {ys : List V} (t : RVRs K mg G1 G H σ ts ys) : ∀ {rs : List RV} {xs : List V}, RVRs K mg G0 G1 H1 σ rs xs → RVRs K mg G0 G H σ (rs ++ ts) (xs ++ ys)
  | _, _, .nil => t.back s0
  | _, _, .cons (r := r) (x := x) (rs := rs) (xs := xs) h d q => by
    refine .cons (h.mono st) (fun o e o' j ej ex => ?_) (RVRs.app s0 st t q)
    have hl := q.length
    change (rs ++ ts)[j]? = _ at ej
    change (xs ++ ys)[j]? = _ at ex
    by_cases hj : j < rs.length
    · rw [List.getElem?_append_left hj] at ej
      rw [List.getElem?_append_left (hl ▸ hj)] at ex
      exact d o e o' j ej ex
    · rw [List.getElem?_append_right (by omega)] at ej ex
      rw [← hl] at ex
      subst e
      obtain ⟨a, e1, g, _, _⟩ := h
      obtain ⟨y, e2, b, e3, _, n, _⟩ := t.get ej
      rw [ex] at e2
      cases e2
      rw [e1] at e3
      cases e3
      exact n g
theorem evalEs_app (cf : CF) : ∀ (as bs : List E) (s : SS), evalEs cf (as ++ bs) s = (evalEs cf as s).bind fun rs s1 => (evalEs cf bs s1).bind fun ts s2 => .ok (rs ++ ts) s2
  | [], bs, s => by
    simp only [List.nil_append, evalEs, Res.bind]
    cases evalEs cf bs s <;> rfl
  | a :: as, bs, s => by
    simp only [List.cons_append, evalEs]
    cases evalE cf a s with
    | ok r s1 =>
      simp only [Res.bind]
      rw [evalEs_app cf as bs s1]
      cases evalEs cf as s1 with
      | ok rs s2 =>
        simp only [Res.bind]
        cases evalEs cf bs s2 <;> rfl
      | exc _ _ => rfl
      | bad => rfl
    | exc _ _ => rfl
    | bad => rfl
theorem evalEs_ln : ∀ {es : List E} {s s' : SS} {rs : List RV}, evalEs cf es s = .ok rs s' → rs.length = es.length
  | [], s, s', rs, h => by simp only [evalEs] at h; cases h; rfl
  | e :: es, s, s', rs, h => by
    simp only [evalEs] at h
    cases h1 : evalE cf e s with
    | bad => rw [h1] at h; cases h
    | exc _ _ => rw [h1] at h; cases h
    | ok r s1 =>
      rw [h1] at h
      simp only [Res.bind] at h
      cases h2 : evalEs cf es s1 with
      | bad => rw [h2] at h; cases h
      | exc _ _ => rw [h2] at h; cases h
      | ok rs' s2 =>
        rw [h2] at h
        cases h
        simp [evalEs_ln h2]
theorem tA_app {as bs : List E} {σ : L2.St} {H : Hp} {Q : List V → Hp → Prop} (h : tAX X cf Ex (as ++ bs) σ H Q) : tAX X cf Ex as σ H fun xs H1 => xs.length = as.length ∧ tAX X cf Ex bs σ H1 fun ys H2 => ys.length = bs.length ∧ Q (xs ++ ys) H2 := by
  obtain ⟨G, s, R, h⟩ := h
  rw [evalEs_app] at h
  refine ⟨G, s, R, ?_⟩
  cases e1 : evalEs cf as s with
  | bad => rw [e1] at h; rcases h with ⟨_, _, z, _⟩ | ⟨_, _, z, _⟩ <;> cases z
  | exc x s1 =>
    rw [e1] at h
    rcases h with ⟨_, _, z, _⟩ | ⟨_, _, z, h⟩
    · cases z
    · cases z
      exact .inr ⟨_, _, rfl, h⟩
  | ok r s1 =>
    rw [e1] at h
    simp only [Res.bind] at h
    refine .inl ⟨r, s1, rfl, fun G1 H1 xs R1 st1 rv => ⟨rv.length.symm.trans (evalEs_ln e1), G1, s1, R1, ?_⟩⟩
    cases e2 : evalEs cf bs s1 with
    | bad => rw [e2] at h; rcases h with ⟨_, _, z, _⟩ | ⟨_, _, z, _⟩ <;> cases z
    | exc y s2 =>
      rw [e2] at h
      rcases h with ⟨_, _, z, _⟩ | ⟨_, _, z, h⟩
      · cases z
      · cases z
        exact .inr ⟨_, _, rfl, h.step st1⟩
    | ok rs s2 =>
      rw [e2] at h
      rcases h with ⟨_, _, z, h⟩ | ⟨_, _, z, _⟩
      · cases z
        exact .inl ⟨rs, s2, rfl, fun G2 H2 ys R2 st2 rvs => ⟨rvs.length.symm.trans (evalEs_ln e2), h G2 H2 _ R2 (st1.trans st2) (RVRs.app st1 st2 rvs rv)⟩⟩
      · cases z
theorem kwE_pk {N : List Str} {k : Nat} {sc : Scope} : ∀ {kws : List Keyword} {bs : List E}, mapO (cE g N k sc) (kwE kws) = some bs → PEs X cf Ex (kwE kws) bs → PK X kws (tAX X cf Ex bs)
  | [], bs, h, p => by
    cases h
    exact ⟨fun pos pins s σ H Q I h => L2.pk_nil.run pos pins s σ H Q I (tA_nil h)⟩
  | ⟨nm, e, kpos⟩ :: kws, bs, h, p => by
    change mapO (cE g N k sc) (e :: kwE kws) = some bs at h
    change PEs X cf Ex (e :: kwE kws) bs at p
    simp only [mapO] at h
    cases q1 : cE g N k sc e with
    | none => rw [q1] at h; cases h
    | some e1 =>
      cases q2 : mapO (cE g N k sc) (kwE kws) with
      | none => rw [q1, q2] at h; cases h
      | some bs' =>
        rw [q1, q2] at h
        cases h
        cases p with
        | cons p1 _ t =>
          have pk := L2.pk_cons (nm := nm) (kpos := kpos) p1 (kwE_pk q2 t)
          exact ⟨fun pos pins s σ H Q I h => pk.run pos pins s σ H Q I (tA_cons h)⟩
theorem kw_all : ∀ {kws : List Keyword} {ks : List Str} (pos : Pos) (env : Env), kwN kws = some ks → (backToKw pos (keywordEach kws env)).all (·.1.isSome) = true ∧ (backToKw pos (keywordEach kws env)).filterMap (·.1) = ks ∧ (backToKw pos (keywordEach kws env)).any (·.1.isNone) = false
  | [], ks, pos, env, h => by
    cases h
    exact ⟨rfl, rfl, rfl⟩
  | ⟨nm, e, kpos⟩ :: kws, ks, pos, env, h => by
    simp only [kwN, mapO] at h
    cases nm with
    | none => cases h
    | some x =>
      simp only at h
      split at h
      · cases h
      · rename_i ks' e2
        cases h
        obtain ⟨h1, h2, h3⟩ := kw_all (kws := kws) (ks := ks') pos env e2
        refine ⟨?_, ?_, ?_⟩
        · show (true && (backToKw pos (keywordEach kws env)).all (·.1.isSome)) = true
          rw [h1]; rfl
        · show x :: (backToKw pos (keywordEach kws env)).filterMap (·.1) = _
          rw [h2]
        · show (false || (backToKw pos (keywordEach kws env)).any (·.1.isNone)) = false
          rw [h3]; rfl
theorem run_fnNS {CX : L2.CXT} {k n : Nat} {f : Addr} {fd : FuncData} {ps ks : List Str} {sp : L2.Sp} {E : L2.XK} {gg : List Value → List Value → List Value} {gV : List V → List V → List V} {pins : List (Addr × Obj)} {σ : L2.St} {H : Hp} {s : Shared} {Q : L2.VK} {us ws : List Value} {vs zs : List V} (F : L2.FnOk X.prog X.w X.K X.mg X.base CX k f fd ps sp) (hr : L2.Room k X.A) (hb : L2.KBn X.K fd ps n ks gg gV) (hx : L2.PassesAt CX X σ E)
    (I : Inv X pins σ H s) (r : Vals vs us) (rz : Vals zs ws) (l1 : vs.length = n) (l2 : zs.length = ks.length) (h : sp (gV vs zs) H Q E) : wpAny (model X.prog X.w) X.A (call (.ref f) us (ks.zip ws)) (L2.EP X pins σ Q) X.xe s := by
  have r2 := hb.rel r rz
  refine wpAny_call (codeAny_mono (F.run X.A X.stack s H ⟨us, ks.zip ws⟩ (gg us ws) (gV vs zs) Q E hr I.env0 (hb.to s us ws I.kIn (r.length.symm.trans l1) (rz.length.symm.trans l2)) r2 h) fun r s' hq => ?_)
  cases r with
  | error e => exact hx pins H s e s' I hq
  | ok fl =>
    cases fl with
    | ret u => exact I.after hq
    | next => exact False.elim hq
    | brk => exact False.elim hq
    | cont => exact False.elim hq
theorem pe_callK' {N : List Str} {k : Nat} {sc : Scope} (o : XO X g cf Ex) {f : Str} {es : List Expr} {kws : List Keyword} {as bs : List E} {ks : List Str} {pm : List (Sum Nat PV)} {p pos : Pos} (hp : plainNm f = true) (hg : glB X.env.scope f = true) (hf : f ∈ g.fns) (he : mapO (cE g N k sc) es = some as) (hb : mapO (cE g N k sc) (kwE kws) = some bs)
    (hn : kwN kws = some ks) (hk : kpOf g f es.length ks = some pm) (ha : PA X es (tAX X cf Ex as)) (hkw : PK X kws (tAX X cf Ex bs)) : PE X (.Call (.Name f p) es kws pos) (tEX X cf Ex (.callK f (as ++ bs) pm)) := by
  unfold kpOf at hk
  split at hk
  · rename_i q hq
    split at hk
    · rename_i hpm
      cases hk
      rw [Bool.and_eq_true] at hpm
      have hq1 := List.find?_some hq
      have hq2 := List.mem_of_find?_eq_some hq
      obtain ⟨rfl, hqn, rfl⟩ := of_decide_eq_true hq1
      obtain ⟨n, a, fd, ps, F, hr, hm, hkp, _, hkb⟩ := o.fns _ hf
      obtain ⟨gg, gV, kb, pr⟩ := hkb q hq2 rfl
      obtain ⟨k1, k2, k3⟩ := kw_all pos X.env hn
      have las : as.length = es.length := by
        have : ∀ {es : List Expr} {as : List E}, mapO (cE g N k sc) es = some as → as.length = es.length := by
          intro es
          induction es with
          | nil => intro as h; cases h; rfl
          | cons e es ih =>
            intro as h
            simp only [mapO] at h
            split at h
            · cases h
            · split at h
              · cases h
              · rename_i e2; cases h; simp [ih e2]
        exact this he
      have lbs : bs.length = q.ks.length := by
        have l1 : ∀ {es : List Expr} {as : List E}, mapO (cE g N k sc) es = some as → as.length = es.length := by
          intro es
          induction es with
          | nil => intro as h; cases h; rfl
          | cons e es ih =>
            intro as h
            simp only [mapO] at h
            split at h
            · cases h
            · split at h
              · cases h
              · rename_i e2; cases h; simp [ih e2]
        have l2 : ∀ {kws : List Keyword} {ks : List Str}, kwN kws = some ks → ks.length = (kwE kws).length := by
          intro kws
          induction kws with
          | nil => intro ks h; cases h; rfl
          | cons c kws ih =>
            intro ks h
            obtain ⟨nm, e, kpos⟩ := c
            simp only [kwN, mapO] at h
            cases nm with
            | none => cases h
            | some x =>
              simp only at h
              split at h
              · cases h
              · rename_i e2; cases h; simp [ih e2, kwE]
        rw [l1 hb, l2 hn]
      have fin : ∀ (pins : List (Addr × Obj)) (s : Shared) (σ : L2.St) (H : Hp) (Q : L2.VK) (us ws : List Value) (vs zs : List V), Inv X pins σ H s → Vals vs us → Vals zs ws → vs.length = as.length → zs.length = bs.length → (∀ ys, PmRel X.K X.mg q.pm (vs ++ zs) ys → spF X.K X.mg cf q.f ys H Q (fun c d H => Ex c d σ H)) →
          wpAny (model X.prog X.w) X.A (call (.ref a) us (q.ks.zip ws)) (L2.EP X pins σ Q) X.xe s := fun pins s σ H Q us ws vs zs I r rz l1 l2 h =>
        run_fnNS F hr kb (o.pass σ) I r rz (l1.trans (las.trans hqn.symm)) (l2.trans lbs) (h _ (pr vs zs (l1.trans (las.trans hqn.symm)) (l2.trans lbs)))
      cases es with
      | nil =>
        refine ⟨fun pins s σ H Q I h => ?_⟩
        have h := tA_app (tE_callK hpm.1 h)
        cases he
        obtain ⟨l0, h⟩ := tA_nil h
        refine wpAny_Call_Name_kw (L2.ld_glob I (gl_of hg) hm ?_ (nm_ne hp).1)
        refine PySem.W.callWith_KW0 (h₀ := X.base) I.ok.mod.kin hkp k1 (L2.thn (hkw.run pos pins s σ H _ I h) fun ws s2 ⟨zs, H2, I2, rz, lz, q2⟩ => ⟨I2.kIn, ?_⟩) (by rw [k3]; rfl)
        rw [k2]
        exact fin pins s2 σ H2 Q [] ws [] zs I2 .nil rz rfl lz q2
      | cons e es =>
        have he1 := he
        simp only [mapO] at he1
        cases q1 : cE g N k sc e with
        | none => rw [q1] at he1; cases he1
        | some e1 =>
          cases q2 : mapO (cE g N k sc) es with
          | none => rw [q1, q2] at he1; cases he1
          | some es1 =>
            refine ⟨fun pins s σ H Q I h => ?_⟩
            have h := tA_app (tE_callK hpm.1 h)
            refine wpAny_Call_Name_kw (L2.ld_glob I (gl_of hg) hm ?_ (nm_ne hp).1)
            refine PySem.W.callWith_KW (h₀ := X.base) I.ok.mod.kin hkp k1 (L2.thn (ha.run pos pins s σ H _ I h) fun us s1 ⟨vs, H1, I1, r, lv, q⟩ => ?_) (by rw [cEs_star he, backTo_plain, k3]; rfl) (cE_star q1 es X.env)
            refine L2.thn (hkw.run pos pins s1 σ H1 _ I1 q) fun ws s2 ⟨zs, H2, I2, rz, lz, q2⟩ => ⟨I2.kIn, ?_⟩
            rw [k2]
            exact fin pins s2 σ H2 Q us ws vs zs I2 r rz lv lz q2
    · cases hk
  · cases hk
theorem pe_callL' {N : List Str} {k i : Nat} {sc : Scope} {fs : List Str} (o : XO X g cf Ex) (hfs : (fs.all fun f => g.fns.contains f) = true) {x : Str} {es : List Expr} {es' : List E} {p pos : Pos} (hp : plainNm x = true) (hi : X.N[i]? = some x) (hv : visB X.env.scope x = true) (he : mapO (cE g N k sc) es = some es') (ha : PA X es (tAX X cf Ex es')) :
    PE X (.Call (.Name x p) es [] pos) (tEX X cf Ex (.callL i fs es')) := by
  refine ⟨fun pins s σ H Q I h => ?_⟩
  obtain ⟨G, s0, R, h⟩ := h
  simp only [evalE] at h
  cases ei : s0.env[i]? with
  | none => rw [ei] at h; rcases h with ⟨_, _, z, _⟩ | ⟨_, _, z, _⟩ <;> cases z
  | some sl =>
    rw [ei] at h
    cases sl with
    | un => rcases h with ⟨_, _, z, _⟩ | ⟨_, _, z, _⟩ <;> cases z
    | own _ => rcases h with ⟨_, _, z, _⟩ | ⟨_, _, z, _⟩ <;> cases z
    | val v =>
      cases v with
      | glo f =>
        simp only at h
        split at h
        · rename_i hf
          have hf : f ∈ g.fns := by
            have := List.all_eq_true.mp hfs f (by simpa using hf)
            simpa using this
          obtain ⟨n, a, fd, ps, F, hr, hm, hkp, hb, _⟩ := o.fns f hf
          obtain ⟨xv, e1, pv⟩ := R.val ei
          cases pv with
          | glo em =>
            rw [hm] at em
            cases em
            have h' : tEX X cf Ex (.call f es') σ H Q := ⟨G, s0, R, by simp only [evalE]; exact h⟩
            have h' := tE_call h'
            simp only [plainNm, Bool.and_eq_true, Bool.not_eq_true'] at hp
            have vis : Vis X.env.scope x := by
              unfold visB at hv
              split at hv
              · rename_i z; exact .inl z
              · rename_i z; exact .inr (.inl z)
              · rename_i z; exact .inr (.inr z)
              · cases hv
            refine wpAny_Call_Name_kw (L2.thn ((L2.pe_var (pos := p) hi vis hp.1.1 hp.1.2).run pins s σ H (fun v H1 => v = .ref a ∧ H1 = H) I ⟨.ref a, e1, rfl, rfl⟩) fun u s1 ⟨v, H1, I1, r1, q1⟩ => ?_)
            obtain ⟨rfl, rfl⟩ := q1
            cases r1
            cases es with
            | nil =>
              cases he
              exact PySem.W.callWith_K0 I1.kIn hkp (L2.run_fnSD (us := []) (dvs := []) (E := fun σ c d H => Ex c d σ H) F hr hb .nil (o.pass σ) I1 .nil (tA_nil h'))
            | cons e es =>
              have he1 := he
              simp only [mapO] at he1
              cases q1 : cE g N k sc e with
              | none => rw [q1] at he1; cases he1
              | some e1 =>
                cases q2 : mapO (cE g N k sc) es with
                | none => rw [q1, q2] at he1; cases he1
                | some es1 =>
                  refine PySem.W.callWith_K (h₀ := X.base) I1.ok.mod.kin hkp (L2.thn (ha.run pos pins s1 σ _ _ I1 h') fun us s2 ⟨vs, H2, I2, r, q⟩ => ⟨I2.kIn, ?_⟩) (cE_star q1 es X.env) (by rw [cEs_star q2]; exact backTo_plain pos es X.env)
                  exact L2.run_fnSD (dvs := []) (ds := []) (E := fun σ c d H => Ex c d σ H) F hr hb .nil (o.pass σ) I2 r (by rw [List.append_nil]; exact q)
        · rcases h with ⟨_, _, z, _⟩ | ⟨_, _, z, _⟩ <;> cases z
      | _ => rcases h with ⟨_, _, z, _⟩ | ⟨_, _, z, _⟩ <;> cases z
end
end TP

set_option Elab.async false
set_option linter.all false
set_option maxRecDepth 100000
set_option maxHeartbeats 4000000
/-! Sal5z: list(zip(a, b)). -/
namespace TP
open PySem PySem.Spec PyProof.Rows
open L2 (V Hp HO Key upd upd_same upd_ne SqL SqT Rd OpR UnR CallR IxR Vals Inv PE PT PW PA PI PG PGs PO PTs Vis Gl Loc FpOk ObjOk)
theorem zip_no_len : typeLookup (.type "zip") "__len__" = pure none := am_miss_of_fast (by decide +kernel)
theorem zip_no_hint : typeLookup (.type "zip") "__length_hint__" = pure none := am_miss_of_fast (by decide +kernel)
/-- a zip of two lists behind i turns, its tuples all kept -/
def ZSt (z TI TO i1 i2 a b : Addr) (i : Nat) (h : Heap) : Prop := IsPair h TI (.ref i1) (.ref i2) ∧ h.IsListIter i1 a i ∧ h.IsListIter i2 b i ∧ (∃ x y, IsPair h TO x y) ∧
  (IsZip h z TI TO .none ∨ ∃ T f oT, IsZipHeld h z TI TO T f ∧ h.get? T = some oT ∧ T ≠ z ∧ T ≠ i1 ∧ T ≠ i2)
theorem ZSt.frame {z TI TO i1 i2 a b : Addr} {i : Nat} {h h' : Heap} {S : Addr} (st : ZSt z TI TO i1 i2 a b i h) (k : ∀ c o, c ≠ S → h.get? c = some o → h'.get? c = some o) (n : ∀ c ∈ [z, TI, TO, i1, i2], c ≠ S) (hT : ∀ T f, IsZipHeld h z TI TO T f → T ≠ S) : ZSt z TI TO i1 i2 a b i h' := by
  obtain ⟨hTI, h1, h2, ⟨x, y, hTO⟩, hz⟩ := st
  refine ⟨k _ _ (n _ (by simp)) hTI, h1.at fun o e => k _ o (n _ (by simp)) e, h2.at fun o e => k _ o (n _ (by simp)) e, ⟨x, y, k _ _ (n _ (by simp)) hTO⟩, ?_⟩
  rcases hz with hz | ⟨T, f, oT, hz, hT', r⟩
  · exact .inl (k _ _ (n _ (by simp)) hz)
  · exact .inr ⟨T, f, oT, k _ _ (n _ (by simp)) hz, k _ _ (hT T f hz) hT', r⟩
section
variable {prog : Program} {w : World} {A : Around} {E : Value → Shared → Prop} {s : Shared}
theorem zst_item {z TI TO i1 i2 a b : Addr} {i : Nat} {xs ys : Array Value} {x y : Value} {Q : Option Value → Shared → Prop} (D : ZipApart z TI TO i1 i2 a b) (st : ZSt z TI TO i1 i2 a b i s.heap) (hl1 : s.heap.IsList a xs) (hl2 : s.heap.IsList b ys) (hx : xs[i]? = some x) (hy : ys[i]? = some y)
    (hQ : ∀ h', ZSt z TI TO i1 i2 a b (i + 1) h' → IsPair h' s.heap.objs.size x y → (∀ T f, IsZipHeld h' z TI TO T f → T = s.heap.objs.size ∨ ∃ f', IsZipHeld s.heap z TI TO T f') → (∀ c o, c ∉ [z, TI, TO, i1, i2] → s.heap.get? c = some o → h'.get? c = some o) → Q (some (.ref s.heap.objs.size)) { s with heap := h' }) :
    wpAny (model prog w) A (pyNext (.ref z)) Q E s := by
  obtain ⟨hTI, h1, h2, ⟨x0, y0, hTO⟩, hz⟩ := st
  have lt : ∀ {c o}, s.heap.get? c = some o → s.heap.objs.size ≠ c := fun e => Nat.ne_of_gt (Heap.lt_size e)
  have n1 : s.heap.objs.size ≠ i1 := let ⟨_, e, _⟩ := h1; lt e
  have n2 : s.heap.objs.size ≠ i2 := let ⟨_, e, _⟩ := h2; lt e
  have hj : ∀ {h' : Heap} {T T2 : Addr} {f f2 : Bool}, IsZipHeld h' z TI TO T f → IsZipHeld h' z TI TO T2 f2 → T2 = T := fun {h' T T2 f f2} e1 e2 => by
    have e : (#[rawInt T, Value.bool f, .bool false, .ref TI, .ref TO] : Array Value) = #[rawInt T2, .bool f2, .bool false, .ref TI, .ref TO] := by
      have := e1.symm.trans e2
      injection this with this
      injection this with _ _ this
      injection this
    have h3 : rawInt (T : Int) = rawInt (T2 : Int) := by
      have := congrArg (fun v : Array Value => v[0]?) e
      simpa using this
    have h4 : (T : Int) = (T2 : Int) := by
      unfold rawInt at h3
      injection h3
    exact (Int.ofNat.inj h4).symm
  rcases hz with hz | ⟨T, f, oT, hz, hT, r1, r2, r3⟩
  · refine wpAny_pyNext_zip_item D hz hTI hTO h1 h2 hl1 hl2 hx hy fun h' a1 a2 a3 a4 a5 a6 hk => ?_
    refine hQ h' ⟨hk _ _ D.TIz D.TITO D.TIi1 D.TIi2 hTI, a3, a4, ⟨_, _, a2⟩, .inr ⟨s.heap.objs.size, false, _, a1, a5, lt hz, n1, n2⟩⟩ a5 (fun T f e => .inl (hj a1 e)) fun c o hc e => ?_
    simp only [List.mem_cons, List.not_mem_nil, or_false, not_or] at hc
    exact hk c o hc.1 hc.2.2.1 hc.2.2.2.1 hc.2.2.2.2 e
  · refine wpAny_pyNext_zip_item_held D hz hT hTI h1 h2 hl1 hl2 hx hy fun h' a1 a3 a4 a5 a6 hk => ?_
    refine hQ h' ⟨hk _ _ D.TIz D.TIi1 D.TIi2 hTI, a3, a4, ⟨_, _, hk _ _ D.TOz D.TOi1 D.TOi2 hTO⟩, .inr ⟨T, true, oT, a1, hk _ _ r1 r2 r3 hT, r1, r2, r3⟩⟩ a5 (fun T2 f2 e => .inr ⟨f, by rw [hj a1 e]; exact hz⟩) fun c o hc e => ?_
    simp only [List.mem_cons, List.not_mem_nil, or_false, not_or] at hc
    exact hk c o hc.1 hc.2.2.2.1 hc.2.2.2.2 e
theorem zst_end {z TI TO i1 i2 a b : Addr} {i : Nat} {xs ys : Array Value} {Q : Option Value → Shared → Prop} (hh : A.handled = none) (D : ZipApart z TI TO i1 i2 a b) (st : ZSt z TI TO i1 i2 a b i s.heap) (hl1 : s.heap.IsList a xs) (hl2 : s.heap.IsList b ys) (hend : xs[i]? = none ∨ ys[i]? = none)
    (hQ : ∀ h', (∀ c o, c ∉ [z, TI, TO, i1, i2] → s.heap.get? c = some o → h'.get? c = some o) → Q none { s with heap := h' }) :
    wpAny (model prog w) A (pyNext (.ref z)) Q E s := by
  obtain ⟨hTI, h1, h2, ⟨x0, y0, hTO⟩, hz⟩ := st
  rcases hz with hz | ⟨T, f, oT, hz, hT, r1, r2, r3⟩
  · refine wpAny_pyNext_zip_end hh D hz hTI hTO h1 h2 hl1 hl2 hend fun h' hk => hQ h' fun c o hc e => ?_
    simp only [List.mem_cons, List.not_mem_nil, or_false, not_or] at hc
    exact hk c o hc.1 hc.2.2.1 hc.2.2.2.1 hc.2.2.2.2 e
  · refine wpAny_pyNext_zip_end_held hh D hz hT hTI h1 h2 hl1 hl2 hend fun h' hk => hQ h' fun c o hc e => ?_
    simp only [List.mem_cons, List.not_mem_nil, or_false, not_or] at hc
    exact hk c o hc.1 hc.2.2.2.1 hc.2.2.2.2 e
end
section
variable {X : L2.Cx}
/-- what list(zip(a, b)) asks: the list at S grows by new tuples -/
def LZ (xs ys : List V) (H : Hp) (Q : L2.VK) : Prop := ∃ W : Addr → List V → Hp → Prop, (∀ S, H S = none → W S [] (upd H S (.lst []))) ∧
  (∀ S acc H1 x y T, W S acc H1 → xs[acc.length]? = some x → ys[acc.length]? = some y → H1 T = none → H1 S = some (.lst acc) → W S (acc ++ [.ref T]) (upd (upd H1 T (.tup [x, y])) S (.lst (acc ++ [.ref T])))) ∧
  ∀ S acc H1, acc.length = min xs.length ys.length → W S acc H1 → Q (.ref S) H1
theorem zip_loop {pins : List (Addr × Obj)} {σ : L2.St} {A : Around} (hh : A.in1.handled = none) {z TI TO i1 i2 a b S : Addr} (D : ZipApart z TI TO i1 i2 a b) {xs ys : List V} {its its2 : List Value} (rv : Vals xs its) (rv2 : Vals ys its2) (hz : min xs.length ys.length ≤ sizeLine) (hS : S ∉ [z, TI, TO, i1, i2]) (haS : a ≠ S) (hbS : b ≠ S)
    (ha : a ∉ [z, TI, TO, i1, i2]) (hb : b ∉ [z, TI, TO, i1, i2])
    (W : List V → Hp → Prop) (hW : ∀ acc H1 x y T, W acc H1 → xs[acc.length]? = some x → ys[acc.length]? = some y → H1 T = none → H1 S = some (.lst acc) → W (acc ++ [.ref T]) (upd (upd H1 T (.tup [x, y])) S (.lst (acc ++ [.ref T]))))
    {R : Result → Shared → Prop} (res : Value) (hR : ∀ s H acc, Inv X pins σ H s → acc.length = min xs.length ys.length → W acc H → R (.ok (.ret res)) s) :
    ∀ (k : Nat) (s : Shared) (H : Hp) (acc : List V), min xs.length ys.length - acc.length = k → acc.length ≤ min xs.length ys.length → Inv X pins σ H s → H S = some (.lst acc) → W acc H → ZSt z TI TO i1 i2 a b acc.length s.heap → (∀ T f, IsZipHeld s.heap z TI TO T f → T ≠ S) → s.heap.IsList a its.toArray → s.heap.IsList b its2.toArray → (∀ c ∈ [z, TI, TO, i1, i2], FpOk X pins H c) →
      codeAny (model X.prog X.w) A (.builtin "list.extend.loop" ⟨[.ref S, .ref z, res], []⟩) R s := by
  have l1 := rv.length
  have l2 := rv2.length
  intro k
  induction k with
  | zero =>
    intro s H acc hk hi I hHS hWa st hTS q1 q2 hf
    have hin : acc.length = min xs.length ys.length := by omega
    refine codeAny_builtin F.entry_extend_loop ?_
    rw [Around.under_plainId F.plain_extend_loop _]
    show wpAny _ A.in1 (pyNext (.ref z) >>= _) _ _ s
    have hend : its.toArray[acc.length]? = none ∨ its2.toArray[acc.length]? = none := by
      rcases Nat.le_total xs.length ys.length with q | q
      · exact .inl (by simp; omega)
      · exact .inr (by simp; omega)
    refine wpAny_bind (zst_end hh D st q1 q2 hend fun h' hk => ?_)
    exact wpAny_pure (hR _ H acc (I.turnedL (t' := s.toks) (ch := [z, TI, TO, i1, i2]) hk hf) hin hWa)
  | succ k ih =>
    intro s H acc hk hi I hHS hWa st hTS q1 q2 hf
    have hlt : acc.length < min xs.length ys.length := by omega
    have ex : xs[acc.length]? = some xs[acc.length] := List.getElem?_eq_getElem (by omega)
    have ey : ys[acc.length]? = some ys[acc.length] := List.getElem?_eq_getElem (by omega)
    obtain ⟨u, hu, ru⟩ := rv.get ex
    obtain ⟨u2, hu2, ru2⟩ := rv2.get ey
    refine codeAny_builtin F.entry_extend_loop ?_
    rw [Around.under_plainId F.plain_extend_loop _]
    show wpAny _ A.in1 (pyNext (.ref z) >>= _) _ _ s
    refine wpAny_bind (zst_item D st q1 q2 (x := u) (y := u2) (by simpa using hu) (by simpa using hu2) fun h' st' hT hTS' hkp => ?_)
    have new : ObjOk X.prog X.w (upd H s.heap.objs.size (.tup [xs[acc.length], ys[acc.length]])) h' s.heap.objs.size (.tup [xs[acc.length], ys[acc.length]]) :=
      ⟨by show 2 ≤ sizeLine; decide, [u, u2], .cons ru (.cons ru2 .nil), ⟨_, hT, rfl, _, rfl⟩⟩
    have I1 := I.turnedNew (t' := s.toks) (ch := [z, TI, TO, i1, i2]) hkp hf (Nat.le_refl _) new
    have hHT : H s.heap.objs.size = none := I.hok.fresh (Nat.le_refl _)
    have hST : S ≠ s.heap.objs.size := fun e => by rw [e, hHT] at hHS; cases hHS
    have hHS' : (upd H s.heap.objs.size (.tup [xs[acc.length], ys[acc.length]])) S = some (.lst acc) := by rw [upd_ne hST]; exact hHS
    obtain ⟨z1, itS, n, rS, lS, eS⟩ := I1.lstM hHS'
    show wpAny _ A.in1 (updateSeq S (·.push (.ref s.heap.objs.size)) >>= _) _ _ _
    refine wpAny_bind ?_
    have hsz : itS.length < sizeLine := by omega
    refine wpAny_updateSeq eS rfl (wpAny_pure ⟨plainId_quiet F.plain_extend_loop _, ?_⟩) (by simp; omega) (by simp; omega)
    have I2 := I1.lset (its' := itS ++ [.ref s.heap.objs.size]) (ys := acc ++ [.ref s.heap.objs.size]) (f := (·.push (.ref s.heap.objs.size))) (t' := s.toks) hHS' eS (by simp) (rS.append (.cons (show L2.RelV (.ref s.heap.objs.size) (.ref s.heap.objs.size) from rfl) .nil)) (by simp; omega)
    have oth : ∀ c o, c ≠ S → h'.get? c = some o → (h'.update S (Obj.mapSeq (·.push (Value.ref s.heap.objs.size)))).get? c = some o := fun c o hc e => (Heap.get?_update_other _ _ (Ne.symm hc)).trans e
    have nS : ∀ c ∈ [z, TI, TO, i1, i2], c ≠ S := fun c hc e => hS (e ▸ hc)
    have hTS2 : ∀ T f, IsZipHeld h' z TI TO T f → T ≠ S := fun T f e => by
      rcases hTS' T f e with q | ⟨f', q⟩
      · rw [q]; exact Ne.symm hST
      · exact hTS T f' q
    have gone : ∀ c ∈ [z, TI, TO, i1, i2], c ≠ s.heap.objs.size := fun c hc => by
      have there : ∃ o, s.heap.get? c = some o := by
        obtain ⟨hTI, ⟨o1, e1, _⟩, ⟨o2, e2, _⟩, ⟨_, _, hTO⟩, hz⟩ := st
        have hz' : ∃ o, s.heap.get? z = some o := by
          rcases hz with hz | ⟨_, _, _, hz, _⟩
          · exact ⟨_, hz⟩
          · exact ⟨_, hz⟩
        simp only [List.mem_cons, List.not_mem_nil, or_false] at hc
        rcases hc with q | q | q | q | q
        · rw [q]; exact hz'
        · rw [q]; exact ⟨_, hTI⟩
        · rw [q]; exact ⟨_, hTO⟩
        · rw [q]; exact ⟨_, e1⟩
        · rw [q]; exact ⟨_, e2⟩
      obtain ⟨o, e⟩ := there
      exact Nat.ne_of_lt (Heap.lt_size e)
    refine ih _ _ (acc ++ [.ref s.heap.objs.size]) (by simp; omega) (by simp; omega) I2 upd_same (hW acc H _ _ _ hWa ex ey hHT hHS) ?_ (fun T f e => ?_) ?_ ?_ (fun c hc => ?_)
    · rw [List.length_append]
      exact st'.frame oth nS hTS2
    · have e' : IsZipHeld h' z TI TO T f := by
        have q := Heap.get?_update_other h' (Obj.mapSeq (·.push (Value.ref s.heap.objs.size))) (a := S) (b := z) (Ne.symm (nS z (by simp)))
        exact q.symm.trans e
      exact hTS2 T f e'
    · exact (q1.at fun o e => hkp a o ha e).at fun o e => oth a o haS e
    · exact (q2.at fun o e => hkp b o hb e).at fun o e => oth b o hbS e
    · obtain ⟨f1, f2⟩ := hf c hc
      refine ⟨?_, f2⟩
      rw [upd_ne (nS c hc), upd_ne (gone c hc)]
      exact f1
theorem init_zip {pins : List (Addr × Obj)} {σ : L2.St} {A : Around} (hh : A.in1.handled = none) {z TI TO i1 i2 a b S : Addr} (D : ZipApart z TI TO i1 i2 a b) {xs ys : List V} {its its2 : List Value} (rv : Vals xs its) (rv2 : Vals ys its2) (hz : min xs.length ys.length ≤ sizeLine) (hS : S ∉ [z, TI, TO, i1, i2]) (haS : a ≠ S) (hbS : b ≠ S)
    (ha : a ∉ [z, TI, TO, i1, i2]) (hb : b ∉ [z, TI, TO, i1, i2])
    (W : List V → Hp → Prop) (hW : ∀ acc H1 x y T, W acc H1 → xs[acc.length]? = some x → ys[acc.length]? = some y → H1 T = none → H1 S = some (.lst acc) → W (acc ++ [.ref T]) (upd (upd H1 T (.tup [x, y])) S (.lst (acc ++ [.ref T]))))
    {R : Result → Shared → Prop} (hR : ∀ s H acc, Inv X pins σ H s → acc.length = min xs.length ys.length → W acc H → R (.ok (.ret .none)) s)
    {s0 s : Shared} {H : Hp} (I : Inv X pins σ H s0) (es : s = { s0 with heap := s0.heap.push { cls := .type "list", data := .seq #[] } }) (eS : S = s0.heap.objs.size) (h0 : W [] (upd H S (.lst [])))
    (hzp : IsZip s0.heap z TI TO .none) (hTI : IsPair s0.heap TI (.ref i1) (.ref i2)) (hTO : ∃ x y, IsPair s0.heap TO x y) (h1 : s0.heap.IsListIter i1 a 0) (h2 : s0.heap.IsListIter i2 b 0) (q1 : s0.heap.IsList a its.toArray) (q2 : s0.heap.IsList b its2.toArray) (hf : ∀ c ∈ [z, TI, TO, i1, i2], FpOk X pins H c) :
    wpAny (model X.prog X.w) A.in1 (Builtin.«list.__init__» ⟨[.ref S, .ref z], []⟩)
      (fun fin s' => match fin with | .done f => R (.ok f) s' | .again c' => c'.quiet = true ∧ codeAny (model X.prog X.w) A c' R s') (fun e s' => R (.error e) s') s := by
  have hS0 : s.heap.get? S = some { cls := .type "list", data := .seq #[] } := by rw [es, eS]; exact Heap.get?_push_size _ rfl
  have old : ∀ c o, s0.heap.get? c = some o → s.heap.get? c = some o ∧ c ≠ S := fun c o e => ⟨by rw [es]; exact Heap.get?_push_of_some _ e, by rw [eS]; exact Nat.ne_of_lt (Heap.lt_size e)⟩
  have hSz : S ≠ z := fun e => hS (by simp [e])
  show wpAny _ A.in1 (do let old ← Builtin.List.listItems (.ref S); Builtin.List.listUpdate (.ref S) (fun _ => #[]); letGo old.toList.reverse; Builtin.List.listExtendWith (.ref S) (.ref z) .none) _ _ s
  refine wpAny_bind ?_
  unfold Builtin.List.listItems
  refine wpAny_bind (wpAny_seqItems hS0 rfl (wpAny_pure ?_))
  show wpAny _ A.in1 (updateSeq S (fun _ => #[]) >>= fun _ => letGo (#[] : Array Value).toList.reverse >>= fun _ => Builtin.List.listExtendWith (.ref S) (.ref z) .none) _ _ s
  refine wpAny_bind (wpAny_updateSeq hS0 rfl ?_)
  have hS1 := Heap.get?_update_self (Obj.mapSeq (fun _ => (#[] : Array Value))) hS0 rfl
  have oth1 : ∀ c o, c ≠ S → s.heap.get? c = some o → (s.heap.update S (Obj.mapSeq (fun _ => (#[] : Array Value)))).get? c = some o :=
    fun c o hc e => (Heap.get?_update_other _ _ (Ne.symm hc)).trans e
  refine wpAny_bind (wpAny_letGo ?_)
  have hTy : ∀ tk, ({ s with heap := s.heap.update S (Obj.mapSeq (fun _ => (#[] : Array Value))), toks := tk } : Shared).TypeIs (.ref z) "zip" := fun tk => ⟨_, oth1 _ _ (Ne.symm hSz) (old _ _ hzp).1, rfl⟩
  unfold Builtin.List.listExtendWith
  refine wpAny_bind (wpAny_typeOf (hTy _) ?_)
  have g1 : Builtin.List.listSameRef (.ref S) (.ref z) = false := by simp [Builtin.List.listSameRef, hSz]
  have g2 : (Value.type "zip" == Value.type "list") = false := by decide
  have g3 : (Value.type "zip" == Value.type "tuple") = false := by decide
  simp only [g1, g2, g3, Bool.or_false, Bool.false_eq_true, if_false]
  refine wpAny_bind (wpAny_pyIter_zip (oth1 _ _ (Ne.symm hSz) (old _ _ hzp).1) ?_)
  refine wpAny_bind (wpAny_holding ?_)
  unfold Builtin.List.listLengthHint
  refine wpAny_bind (wpAny_specialOf (hTy _) zip_no_len ?_)
  show wpAny _ A.in1 (specialOf (Value.ref z) (Str.ofString "__length_hint__") >>= _) _ _ _
  refine wpAny_bind (wpAny_specialOf (hTy _) zip_no_hint ?_)
  refine wpAny_pure ?_
  show wpAny _ A.in1 (rule "list.extend.makes-room" >>= fun _ => Builtin.List.listTouch (.ref S) >>= fun _ =>
    again (.builtin "list.extend.loop" ⟨[.ref S, .ref z, .none], []⟩)) _ _ _
  refine wpAny_bind (wpAny_rule ?_)
  refine wpAny_bind ?_
  show wpAny _ A.in1 (updateSeq S (·.push .none) >>= fun _ => updateSeq S (·.pop)) _ _ _
  refine wpAny_bind (wpAny_updateSeq hS1 rfl ?_)
  have hS2 := Heap.get?_update_self (Obj.mapSeq (·.push Value.none)) hS1 rfl
  refine wpAny_updateSeq (hz := by seq_fits) hS2 rfl ?_
  have hS3 := Heap.get?_update_self (Obj.mapSeq (·.pop)) hS2 rfl
  have keep : ∀ c o, s0.heap.get? c = some o → (((s.heap.update S (Obj.mapSeq (fun _ => (#[] : Array Value)))).update S (Obj.mapSeq (·.push Value.none))).update S (Obj.mapSeq (·.pop))).get? c = some o := fun c o e => by
    obtain ⟨e1, hc⟩ := old c o e
    exact (Heap.get?_update_other _ _ (Ne.symm hc)).trans ((Heap.get?_update_other _ _ (Ne.symm hc)).trans (oth1 c o hc e1))
  have I1 : Inv X pins σ (upd H S (.lst [])) { s with heap := ((s.heap.update S (Obj.mapSeq (fun _ => (#[] : Array Value)))).update S (Obj.mapSeq (·.push Value.none))).update S (Obj.mapSeq (·.pop)) } := by
    have := I.laid (a := S) (o := .lst []) (t' := s0.toks) keep (by rw [eS]; exact Nat.le_refl _) ⟨by decide, [], _, .nil, hS3⟩
    rw [es] at this ⊢
    exact this
  refine wpAny_pure ⟨plainId_quiet F.plain_extend_loop _, zip_loop hh D rv rv2 hz hS haS hbS ha hb W hW .none hR _ _ _ [] rfl (Nat.zero_le _) I1 upd_same h0 ⟨keep _ _ hTI, h1.at fun o e => keep _ o e, h2.at fun o e => keep _ o e, ?_, .inl (keep _ _ hzp)⟩ (fun T f e => ?_) (q1.at fun o e => keep _ o e) (q2.at fun o e => keep _ o e) fun c hc => ?_⟩
  · obtain ⟨x, y, e⟩ := hTO
    exact ⟨x, y, keep _ _ e⟩
  · have e1 := keep _ _ hzp
    have : (#[rawInt T, Value.bool f, .bool false, .ref TI, .ref TO] : Array Value) = #[Value.none, .bool false, .bool false, .ref TI, .ref TO] := by
      have := e.symm.trans e1
      injection this with this
      injection this with _ _ this
      injection this
    have := congrArg (fun v : Array Value => v[0]?) this
    simp [rawInt] at this
  · obtain ⟨f1, f2⟩ := hf c hc
    exact ⟨by rw [upd_ne (show c ≠ S from fun e => hS (e ▸ hc))]; exact f1, f2⟩
theorem call_listzip {pins : List (Addr × Obj)} {σ : L2.St} {z TI TO i1 i2 a b : Addr} (hh : X.A.handled = none) (D : ZipApart z TI TO i1 i2 a b) {xs ys : List V} {its its2 : List Value} (rv : Vals xs its) (rv2 : Vals ys its2) (hz : min xs.length ys.length ≤ sizeLine)
    (ha : a ∉ [z, TI, TO, i1, i2]) (hb : b ∉ [z, TI, TO, i1, i2]) {s : Shared} {H : Hp} {Q : L2.VK} (I : Inv X pins σ H s) (lz : LZ xs ys H Q)
    (hzp : IsZip s.heap z TI TO .none) (hTI : IsPair s.heap TI (.ref i1) (.ref i2)) (hTO : ∃ x y, IsPair s.heap TO x y) (h1 : s.heap.IsListIter i1 a 0) (h2 : s.heap.IsListIter i2 b 0) (q1 : s.heap.IsList a its.toArray) (q2 : s.heap.IsList b its2.toArray) (hf : ∀ c ∈ [z, TI, TO, i1, i2], FpOk X pins H c) :
    wpAny (model X.prog X.w) X.A (call (.type "list") [.ref z]) (L2.EP X pins σ Q) X.xe s := by
  obtain ⟨W, w0, w1, w2⟩ := lz
  have lt : ∀ {c o}, s.heap.get? c = some o → c ≠ s.heap.objs.size := fun e => Nat.ne_of_lt (Heap.lt_size e)
  have hS : s.heap.objs.size ∉ [z, TI, TO, i1, i2] := fun hm => by
    obtain ⟨x, y, hTO⟩ := hTO
    obtain ⟨o1, e1, _⟩ := h1
    obtain ⟨o2, e2, _⟩ := h2
    simp only [List.mem_cons, List.not_mem_nil, or_false] at hm
    rcases hm with q | q | q | q | q
    · exact lt hzp q.symm
    · exact lt hTI q.symm
    · exact lt hTO q.symm
    · exact lt e1 q.symm
    · exact lt e2 q.symm
  have haS : a ≠ s.heap.objs.size := let ⟨_, e, _⟩ := q1; lt e
  have hbS : b ≠ s.heap.objs.size := let ⟨_, e, _⟩ := q2; lt e
  refine callType_codes (Q₁ := fun obj s₁ => obj = .ref s.heap.objs.size ∧ s₁ = { s with heap := s.heap.push { cls := .type "list", data := .seq #[] } }) F.called_list (F.typeCall_list_1 _) F.entry_list_init
    (code_list_new _ ⟨rfl, rfl⟩) fun obj s₁ h₁ => ?_
  obtain ⟨rfl, rfl⟩ := h₁
  have hL : (s.heap.push { cls := .type "list", data := .seq #[] }).get? s.heap.objs.size = some { cls := .type "list", data := .seq #[] } := Heap.get?_push_size _ rfl
  refine ⟨⟨_, hL, rfl⟩, F.args_list_init_2 _ _, init_zip (A := X.A.in1) (R := wants (fun r s₂ => r = Value.none ∧ L2.EP X pins σ Q (Value.ref s.heap.objs.size) s₂) X.xe) (by exact hh) D rv rv2 hz hS haS hbS ha hb (W s.heap.objs.size) (w1 _) (fun s' H' acc I' hl hw => ?_) I rfl rfl (w0 _ (I.hok.fresh (Nat.le_refl _))) hzp hTI hTO h1 h2 q1 q2 hf⟩
  exact ⟨rfl, .ref s.heap.objs.size, H', I', rfl, w2 _ _ _ hl hw⟩
/-- list(zip(e, e2)) -/
def tLZ (K : PySem.W.Frag) (ta : L2.TA) : L2.TE := fun σ H Q => ta σ H fun vs H1 => ∃ a b xs ys, vs = [.ref a, .ref b] ∧ SqL K H1 a xs ∧ SqL K H1 b ys ∧ min xs.length ys.length ≤ sizeLine ∧ LZ xs ys H1 Q
theorem pe_listzip {e e2 : Expr} {ta : L2.TA} {p p2 pos pos2 : Pos} (hc : X.calm = true) (hg1 : Gl X "list") (hm1 : X.mg "list" = none) (hg : Gl X "zip") (hm : X.mg "zip" = none) (ha : PA X [e, e2] ta)
    (hs : starEach [e, e2] X.env = (false, eval e X.env) :: starEach [e2] X.env) (hpl : (backTo pos2 (starEach [e2] X.env)).any (·.1) = false) :
    PE X (.Call (.Name "list" p) [.Call (.Name "zip" p2) [e, e2] [] pos2] [] pos) (tLZ X.K ta) := by
  refine ⟨fun pins s σ H Q I h => ?_⟩
  refine PyProof.Rows.Call_ (L2.ld_blt (u := .type "list") I hg1 hm1 (by decide +kernel) (PyProof.Rows.callWith_type1 ?_ rfl rfl))
  refine PyProof.Rows.args_cons ?_ rfl
  refine PyProof.Rows.Call_ (L2.ld_blt I hg hm PyProof.Rows.boot_zip (PyProof.Rows.callWith_type1 (L2.thn (ha.run pos2 pins s σ H _ I h) fun us s1 ⟨vs, H1, I1, r1, q1⟩ => ?_) hs hpl))
  obtain ⟨a, b, xs, ys, ex, hqx, hqy, hz, lz⟩ := q1
  subst ex
  cases r1 with
  | cons r rr =>
    cases rr with
    | cons r' rr =>
      cases rr
      cases r
      cases r'
      have fresh5 : ∀ c, c ∈ [s1.heap.objs.size + 4, s1.heap.objs.size + 2, s1.heap.objs.size + 3, s1.heap.objs.size, s1.heap.objs.size + 1] → s1.heap.objs.size ≤ c := fun c hcm => by
        have e' : c = s1.heap.objs.size + 4 ∨ c = s1.heap.objs.size + 2 ∨ c = s1.heap.objs.size + 3 ∨ c = s1.heap.objs.size ∨ c = s1.heap.objs.size + 1 := by simpa using hcm
        rcases e' with z | z | z | z | z
        · rw [z]; exact Nat.le_add_right _ _
        · rw [z]; exact Nat.le_add_right _ _
        · rw [z]; exact Nat.le_add_right _ _
        · rw [z]; exact Nat.le_refl _
        · rw [z]; exact Nat.le_add_right _ _
      obtain ⟨its, rv, p1, _⟩ := I1.list hqx
      obtain ⟨its2, rv2, p2, _⟩ := I1.list hqy
      refine call_zip_2 p1.isList p2.isList fun h' hz' hTI hTO h1 h2 hsz hk => ?_
      have I2 : Inv X pins σ H1 { s1 with heap := h' } := I1.kept (t' := s1.toks) hk
      refine PyProof.Rows.args_nil ?_
      exact call_listzip (I1.ok.hd hc) (PySem.W.ktu_apart s1.heap.objs.size a b p1.lt p2.lt) rv rv2 hz (fun m => absurd p1.lt (Nat.not_lt.mpr (fresh5 _ m))) (fun m => absurd p2.lt (Nat.not_lt.mpr (fresh5 _ m))) I2 lz hz' hTI ⟨_, _, hTO⟩ h1 h2 (p1.isList.at fun o e => hk _ o e) (p2.isList.at fun o e => hk _ o e) fun c m => I1.fpOk (fresh5 c m) (I1.hok.fresh (fresh5 c m))
end
/-- an object that is held grows -/
theorem Rel.updHold {K : PySem.W.Frag} {mg : Str → Option Value} {G : Gh} {s : SS} {σ : L2.St} {H : Hp} {D : Addr} {acc : List V} {ho : HO} (R : Rel K mg G s σ H) (g : G D = .hold) (h : H D = some (.lst acc)) : Rel K mg G s σ (upd H D ho) ∧ Mono G H G (upd H D ho) := by
  have m : Mono G H G (upd H D ho) := ⟨fun b e => ⟨e, .inl (upd_ne fun z => by rw [z, g] at e; cases e)⟩, fun _ _ e => e,
    fun b xs e => by rw [upd_ne (fun z => by rw [z, h] at e; cases e)]; exact e, fun b q u e => by rw [upd_ne (fun z => by rw [z, h] at e; cases e)]; exact e⟩
  refine ⟨⟨R.len, fun j sl ej => ?_, fun l so el => ?_, R.uniq, fun b hb => ?_, R.lim⟩, m⟩
  · have sr := R.slots j sl ej
    cases sl with
    | un => trivial
    | val v => obtain ⟨y, e1, p⟩ := sr; exact ⟨y, e1, p.step m⟩
    | own c =>
      obtain ⟨b, e1, gb, ob⟩ := sr
      exact ⟨b, e1, gb, ob.step (upd_ne fun z => by rw [z, g] at gb; cases gb) m⟩
  · obtain ⟨b, gb, ob⟩ := R.sto l so el
    exact ⟨b, gb, ob.step (upd_ne fun z => by rw [z, g] at gb; cases gb) m⟩
  · by_cases n : b = D
    · subst n; rw [upd_same]; exact fun z => nomatch z
    · rw [upd_ne n]; exact R.trk b hb
theorem Step.updHold {G0 G : Gh} {H0 H : Hp} {D : Addr} {ho : HO} (st : Step G0 H0 G H) (h0 : H0 D = none) (t0 : G0 D = .free) : Step G0 H0 G (upd H D ho) where
  mono := ⟨fun b e => let ⟨e1, e2⟩ := st.fz b e; ⟨e1, FzH.trans e2 (.inl (upd_ne fun z => by rw [z, t0] at e; cases e))⟩, fun b l e => st.loc b l e,
    fun b xs e => by rw [upd_ne (fun z => by rw [z, h0] at e; cases e)]; exact st.tup b xs e, fun b q u e => by rw [upd_ne (fun z => by rw [z, h0] at e; cases e)]; exact st.frz b q u e⟩
  hold := fun b e => let ⟨e1, e2⟩ := st.hold b e; ⟨e1, (upd_ne fun z => by rw [z, t0] at e; cases e).trans e2⟩
section
variable {K : PySem.W.Frag} {mg : Str → Option Value}
theorem lz_of {G : Gh} {H : Hp} {xs ys : List PV} {Vs Ws : List V} {Q : L2.VK} (p : PVRs K mg G H xs Vs) (p' : PVRs K mg G H ys Ws) (q : ∀ z H', Out K mg G H (.fr (.lst (zipPs xs ys))) z H' → Q z H') : LZ Vs Ws H Q := by
  have lz : (zipPs xs ys).length = min Vs.length Ws.length := by unfold zipPs; rw [List.length_map, List.length_zip, p.length, p'.length]
  refine ⟨fun S acc H' => H S = none ∧ H' S = some (.lst acc) ∧ ∀ (s : SS) (σ : L2.St), Rel K mg G s σ H → ∃ G', Rel K mg G' s σ H' ∧ Step G H G' H' ∧ G' S = .hold ∧ PVRs K mg G' H' ((zipPs xs ys).take acc.length) acc, fun S hS => ⟨hS, upd_same, fun s σ R => ?_⟩, ?_, ?_⟩
  · have q0 := Same.new (t := .hold) (o := .lst []) R.trk hS (fun _ z => nomatch z)
    exact ⟨_, R.same q0, q0.st, tg_same, .nil⟩
  · rintro S acc H1 x y T ⟨h0, h1, hr⟩ hx hy hT _
    refine ⟨h0, upd_same, fun s σ R => ?_⟩
    obtain ⟨G1, R1, st1, g1, ps⟩ := hr s σ R
    have q1 := Same.new (t := .free) (o := .tup [x, y]) R1.trk hT (fun _ z => nomatch z)
    have R2 := R1.same q1
    have g2 := q1.st.hold S g1
    have hHS : upd H1 T (.tup [x, y]) S = some (.lst acc) := g2.2.trans h1
    obtain ⟨R3, m3⟩ := R2.updHold (ho := .lst (acc ++ [.ref T])) g2.1 hHS
    refine ⟨_, R3, (st1.trans q1.st).updHold h0 (R.free h0), g2.1, ?_⟩
    have hlt : acc.length < (zipPs xs ys).length := by
      rw [lz]
      have a1 := (List.getElem?_eq_some_iff.mp hx).1
      have a2 := (List.getElem?_eq_some_iff.mp hy).1
      omega
    rw [List.length_append, List.length_singleton, List.take_add_one, List.getElem?_eq_getElem hlt]
    refine ((ps.step q1.st.mono).step m3).append (.cons ?_ .nil)
    have hx' : acc.length < xs.length := by rw [p.length]; exact (List.getElem?_eq_some_iff.mp hx).1
    have hy' : acc.length < ys.length := by rw [p'.length]; exact (List.getElem?_eq_some_iff.mp hy).1
    have e1 : (zipPs xs ys)[acc.length] = .tup [xs[acc.length], ys[acc.length]] := by
      simp only [zipPs, List.getElem_map, List.getElem_zip]
    rw [e1]
    obtain ⟨x', ex, px⟩ := p.get (List.getElem?_eq_getElem hx')
    obtain ⟨y', ey, py⟩ := p'.get (List.getElem?_eq_getElem hy')
    rw [hx] at ex; cases ex
    rw [hy] at ey; cases ey
    have mo := (st1.mono.trans q1.st.mono).trans m3
    refine .tup (.inl (.inl ?_)) (.cons (px.step mo) (.cons (py.step mo) .nil))
    have hTS : T ≠ S := fun e => by rw [e, h1] at hT; cases hT
    rw [upd_ne hTS]; exact upd_same
  · rintro S acc H1 hl ⟨h0, h1, hr⟩
    refine q _ _ (.gen fun s σ R => ?_)
    obtain ⟨G1, R1, st1, g1, ps⟩ := hr s σ R
    refine ⟨G1, R1, st1, S, rfl, g1, (by rw [R.free h0]; exact (fun z => nomatch z)), acc, h1, ?_⟩
    rw [hl, ← lz, List.take_length] at ps
    exact ps
end
section
variable {X : L2.Cx} {g : Cg} {cf : CF} {Ex : L2.WX}
theorem pe_zipL {N : List Str} {k : Nat} {sc : Scope} (o : XO X g cf Ex) {f : Str} {args : List Expr} {e d : Expr} {e' d' : E} {np pos : Pos} (hm : lzOf f args = some (e, d)) (hg1 : glB X.env.scope "list" = true) (hg2 : glB X.env.scope "zip" = true) (he : cE g N k sc e = some e') (hd : cE g N k sc d = some d')
    (ha : PE X e (tEX X cf Ex e')) (hb' : PE X d (tEX X cf Ex d')) : PE X (.Call (.Name f np) args [] pos) (tEX X cf Ex (.prim .zipL [e', d'])) := by
  unfold lzOf at hm
  split at hm
  · rename_i hf
    subst hf
    split at hm
    · split at hm
      · rename_i hx
        subst hx
        cases hm
        refine PE.imp (pe_listzip o.calm (gl_of hg1) (o.bn _ (by decide +kernel)) (gl_of hg2) (o.bn _ (by decide +kernel)) (L2.pa_cons ha (L2.pa_cons hb' L2.pa_nil (cE_star hd [] X.env)) (cE_star he [d] X.env)) (cE_star he [d] X.env) (by rw [cE_star hd]; rfl)) fun σ H Q h => ?_
        refine tE_mono (tE_prim2 (f := zipLSem) (fun _ _ => rfl) h) fun x H1 q => tE_mono q fun y H2 q => ?_
        obtain ⟨G, c, d, r, hc, hd, e, qq⟩ := q
        unfold zipLSem at e
        split at e
        · split at e <;> cases e
          rename_i hz
          obtain ⟨a, Vs, rfl, h1, p1⟩ := hc.lst
          obtain ⟨b, Ws, rfl, h2, p2⟩ := hd.lst
          exact ⟨a, b, Vs, Ws, rfl, .of h1, .of h2, by rw [← p1.length, ← p2.length, ← szL_eq]; exact hz, lz_of p1 p2 qq⟩
        · cases e
      · cases hm
    · cases hm
  · cases hm
end
end TP

set_option Elab.async false
set_option linter.all false
set_option maxRecDepth 100000
set_option maxHeartbeats 8000000
/-! Sal6: targets, what loops walk, comprehensions; every expression. -/
namespace TP
open PySem PySem.Spec PyProof.Rows
open L2 (V Hp HO Key upd upd_same upd_ne SqL SqT Rd OpR UnR CallR IxR Vals Inv PE PT PW PA PI PG PGs PO PTs Vis Gl Loc It Itl Itt Itr Its Ite Itz Itv)

section
variable {X : L2.Cx} {g : Cg} {cf : CF} {Ex : L2.WX}

/-! ### targets -/
def tG (K : PySem.W.Frag) (mg : Str → Option Value) (t : T) : L2.TG := fun x σ H Q => ∃ G v s s', Rel K mg G s σ H ∧ PVR K mg G H v x ∧ bindT t v s = some s' ∧
  ∀ σ', Rel K mg G s' σ' H → σ'.length = σ.length → (∀ j : Nat, tIn t j = false → σ'[j]? = σ[j]?) → Q σ' H
def tGs (K : PySem.W.Frag) (mg : Str → Option Value) (ts : List T) : L2.TGs := fun xs σ H Q => ∃ G vs s s', Rel K mg G s σ H ∧ PVRs K mg G H vs xs ∧ bindTs ts vs s = some s' ∧
  ∀ σ', Rel K mg G s' σ' H → σ'.length = σ.length → (∀ j : Nat, tIns ts j = false → σ'[j]? = σ[j]?) → Q σ' H
theorem PG.imp {X : L2.Cx} {e : Expr} {t t' : L2.TG} (h : PG X e t) (i : ∀ x σ H Q, t' x σ H Q → t x σ H Q) : PG X e t' := ⟨fun pins s σ H v u Q I r q => h.run pins s σ H v u Q I r (i v σ H Q q)⟩
theorem PGs.imp {X : L2.Cx} {e : List Expr} {t t' : L2.TGs} (h : PGs X e t) (i : ∀ x σ H Q, t' x σ H Q → t x σ H Q) : PGs X e t' := ⟨fun pins s σ H v u Q I r q => h.run pins s σ H v u Q I r (i v σ H Q q)⟩
/-- the names that may be stored -/
def NkOk (X : L2.Cx) (nk : Str → Bool) : Prop := ∀ x, nk x = true → Loc X.env.scope x ∧ (X.fn x = true ∨ X.env.scope.names.lookup x = some .local)
theorem cT_star {ok : Nat → Bool} {nk : Str → Bool} {N : List Str} {k : Nat} {e : Expr} {t : T} (h : cT ok nk N k e = some t) : ∀ (es : List Expr) (env : Env), assignEach (e :: es) env = (false, assign e env) :: assignEach es env := by
  cases k with
  | zero => simp only [cT] at h; cases h
  | succ k => cases e <;> first | (intro _ _; rfl) | (simp only [cT] at h; cases h)
theorem cTs_star {ok : Nat → Bool} {nk : Str → Bool} {N : List Str} : ∀ {k : Nat} {es : List Expr} {ts : List T}, cTs ok nk N k es = some ts → ∀ env : Env, assignEach es env = es.map (fun e => (false, assign e env)) ∧ es.length = ts.length
  | 0, es, ts, h, env => by simp only [cTs] at h; cases h
  | k + 1, [], ts, h, env => by simp only [cTs] at h; cases h; exact ⟨rfl, rfl⟩
  | k + 1, e :: es, ts, h, env => by
    simp only [cTs] at h
    cases h1 : cT ok nk N k e with
    | none => rw [h1] at h; cases h
    | some t =>
      cases h2 : cTs ok nk N k es with
      | none => rw [h1, h2] at h; cases h
      | some ts' =>
        rw [h1, h2] at h
        cases h
        obtain ⟨q1, q2⟩ := cTs_star h2 env
        exact ⟨by rw [cT_star h1, q1, List.map_cons], by simp [q2]⟩
theorem findIdx_none (es : List Expr) (env : Env) : (es.map fun e => (false, assign e env)).findIdx? (·.1) = none := by
  induction es with
  | nil => rfl
  | cons e es ih => simp [List.findIdx?_cons]
mutual
theorem pg_T {ok : Nat → Bool} {nk : Str → Bool} (o : XO X g cf Ex) (hn : NkOk X nk) : ∀ (k : Nat) {e : Expr} {t : T}, cT ok nk X.N k e = some t → PG X e (tG X.K X.mg t)
  | 0, e, t, h => by simp only [cT] at h; cases h
  | k + 1, e, t, h => by
    cases e with
    | Name x pos =>
      simp only [cT] at h
      cases hi : ixOf x X.N with
      | none => rw [hi] at h; cases h
      | some i =>
        rw [hi] at h
        simp only at h
        split at h <;> cases h
        rename_i hk
        rw [Bool.and_eq_true] at hk
        obtain ⟨hl, hf⟩ := hn x hk.2
        refine PG.imp (L2.pg_name o.nd (ixOf_get hi) hl hf) fun y σ H Q q => ?_
        obtain ⟨G, v, s, s', R, p, e, q⟩ := q
        simp only [bindT] at e
        split at e <;> cases e
        rename_i hlt
        refine q _ (R.setVal p hlt) (by simp) fun j hj => ?_
        simp only [tIn, decide_eq_false_iff_not] at hj
        exact List.getElem?_set_ne hj
    | Tuple es kk pos =>
      simp only [cT, Option.map_eq_some_iff] at h
      obtain ⟨ts, h, rfl⟩ := h
      obtain ⟨q1, q2⟩ := cTs_star h X.env
      have hlen : ∀ {ts : List T} {xs : List PV} {s s' : SS}, bindTs ts xs s = some s' → xs.length = ts.length := by
        intro ts
        induction ts with
        | nil =>
          intro xs s s' e
          cases xs with
          | nil => rfl
          | cons _ _ => simp only [bindTs] at e; cases e
        | cons t ts ih =>
          intro xs s s' e
          cases xs with
          | nil => simp only [bindTs] at e; cases e
          | cons x xs =>
            simp only [bindTs] at e
            split at e
            · simp [ih e]
            · cases e
      have both : PG X (.Tuple es kk pos) (fun v σ H Q => L2.gTup X.K ts.length (tGs X.K X.mg ts) v σ H Q ∨ L2.gUnl X.K ts.length (tGs X.K X.mg ts) v σ H Q) := ⟨fun pins s σ H v u Q I r q => by
        rcases q with q | q
        · exact (L2.pg_tup (k := kk) (pos := pos) (n := ts.length) o.calm (pgs_T o hn k h) (by rw [q1, List.length_map]; exact q2) (by rw [q1]; exact findIdx_none es X.env)).run pins s σ H v u Q I r q
        · exact (L2.pg_unl (k := kk) (pos := pos) (n := ts.length) o.calm (pgs_T o hn k h) (by rw [q1, List.length_map]; exact q2) (by rw [q1]; exact findIdx_none es X.env)).run pins s σ H v u Q I r q⟩
      refine PG.imp both fun y σ H Q q => ?_
      obtain ⟨G, v, s, s', R, p, e, q⟩ := q
      cases v <;> first | (simp only [bindT] at e; cases e; done) | skip
      · rename_i xs
        cases p with
        | tup h1 ps =>
          rename_i a Vs
          simp only [bindT] at e
          exact .inl ⟨a, Vs, rfl, h1, by rw [← ps.length]; exact hlen e, ⟨G, xs, s, s', R, ps, e, fun σ' R' hl hs => q σ' R' hl fun j hj => hs j (by simpa only [tIn] using hj)⟩⟩
      · rename_i xs
        cases p with
        | lst h1 hg ps =>
          rename_i a Vs
          simp only [bindT] at e
          exact .inr ⟨a, Vs, rfl, .of h1, by rw [← ps.length]; exact hlen e, ⟨G, xs, s, s', R, ps, e, fun σ' R' hl hs => q σ' R' hl fun j hj => hs j (by simpa only [tIn] using hj)⟩⟩
    | _ => simp only [cT] at h; cases h
theorem pgs_T {ok : Nat → Bool} {nk : Str → Bool} (o : XO X g cf Ex) (hn : NkOk X nk) : ∀ (k : Nat) {es : List Expr} {ts : List T}, cTs ok nk X.N k es = some ts → PGs X es (tGs X.K X.mg ts)
  | 0, es, ts, h => by simp only [cTs] at h; cases h
  | k + 1, [], ts, h => by
    simp only [cTs] at h
    cases h
    refine PGs.imp L2.pgs_nil fun xs σ H Q q => ?_
    obtain ⟨G, vs, s, s', R, p, e, q⟩ := q
    cases p with
    | nil =>
      simp only [bindTs] at e
      cases e
      exact ⟨rfl, q σ R rfl fun _ _ => rfl⟩
    | cons _ _ => simp only [bindTs] at e; cases e
  | k + 1, e :: es, ts, h => by
    simp only [cTs] at h
    cases h1 : cT ok nk X.N k e with
    | none => rw [h1] at h; cases h
    | some t =>
      cases h2 : cTs ok nk X.N k es with
      | none => rw [h1, h2] at h; cases h
      | some ts' =>
        rw [h1, h2] at h
        cases h
        refine PGs.imp (L2.pgs_cons (pg_T o hn k h1) (pgs_T o hn k h2) (by rw [cT_star h1, List.map_cons])) fun xs σ H Q q => ?_
        obtain ⟨G, vs, s, s', R, p, e, q⟩ := q
        cases p with
        | nil => simp only [bindTs] at e; cases e
        | cons p ps =>
          simp only [bindTs] at e
          split at e
          · rename_i s1 e1
            refine ⟨_, _, rfl, G, _, s, s1, R, p, e1, fun σ1 R1 l1 h1 => ⟨G, _, s1, s', R1, ps, e, fun σ2 R2 l2 h2 => q σ2 R2 (l2.trans l1) fun j hj => ?_⟩⟩
            simp only [tIns, Bool.or_eq_false_iff] at hj
            rw [h2 j hj.2, h1 j hj.1]
          · cases e
end
theorem cT_ok {ok : Nat → Bool} {nk : Str → Bool} {N : List Str} : ∀ (k : Nat), (∀ {e : Expr} {t : T}, cT ok nk N k e = some t → ∀ j, tIn t j = true → ok j = true) ∧ (∀ {es : List Expr} {ts : List T}, cTs ok nk N k es = some ts → ∀ j, tIns ts j = true → ok j = true) := by
  intro k
  induction k with
  | zero => exact ⟨fun {e t} h => (by simp only [cT] at h; cases h), fun {es ts} h => (by simp only [cTs] at h; cases h)⟩
  | succ k ih =>
    refine ⟨fun {e t} h j hj => ?_, fun {es ts} h j hj => ?_⟩
    · cases e <;> first | (simp only [cT] at h; cases h; done) | skip
      · simp only [cT] at h
        split at h
        · split at h <;> cases h
          rename_i hk
          rw [Bool.and_eq_true] at hk
          simp only [tIn, decide_eq_true_eq] at hj
          rw [← hj]; exact hk.1
        · cases h
      · simp only [cT, Option.map_eq_some_iff] at h
        obtain ⟨ts, h, rfl⟩ := h
        exact ih.2 h j (by simpa only [tIn] using hj)
    · cases es with
      | nil => simp only [cTs] at h; cases h; simp only [tIns] at hj; cases hj
      | cons e es =>
        simp only [cTs] at h
        cases h1 : cT ok nk N k e with
        | none => rw [h1] at h; cases h
        | some t =>
          cases h2 : cTs ok nk N k es with
          | none => rw [h1, h2] at h; cases h
          | some ts' =>
            rw [h1, h2] at h
            cases h
            simp only [tIns, Bool.or_eq_true] at hj
            rcases hj with hj | hj
            · exact ih.1 h1 j hj
            · exact ih.2 h2 j hj

/-! ### what loops walk -/
section
variable {K : PySem.W.Frag} {mg : Str → Option Value} {G : Gh} {H : Hp}
theorem walks_list {a : Addr} {Vs : List V} {xs : List PV} (hs : ∀ G' H', Mono G H G' H' → SqL K H' a Vs) (hu : ∀ H' Ws, SqL K H' a Vs → SqL K H' a Ws → True) (p : PVRs K mg G H xs Vs) : Walks K mg (Itl K a) G H xs := fun i G' H' st tr => by
  refine ⟨fun v e => ?_, fun e => ⟨Vs, hs G' H' st, by rw [e, p.length]; exact Nat.le_refl _⟩⟩
  obtain ⟨x, e1, px⟩ := p.get e
  refine ⟨⟨Vs, x, hs G' H' st, e1⟩, fun y H'' hy => ?_⟩
  obtain ⟨rfl, h2⟩ := hy
  have := h2 Vs (hs G' _ st)
  rw [e1] at this
  cases this
  exact ⟨G', .refl tr, px.step st⟩
theorem walks_tup {a : Addr} {Vs : List V} {xs : List PV} (h : SqT K H a Vs) (p : PVRs K mg G H xs Vs) : Walks K mg (Itt K a) G H xs := fun i G' H' st tr => by
  have hs : SqT K H' a Vs := SqT.step h st
  refine ⟨fun v e => ?_, fun e => ⟨Vs, hs, by rw [e, p.length]; exact Nat.le_refl _⟩⟩
  obtain ⟨x, e1, px⟩ := p.get e
  refine ⟨⟨Vs, x, hs, e1⟩, fun y H'' hy => ?_⟩
  obtain ⟨rfl, h2⟩ := hy
  have := h2 Vs hs
  rw [e1] at this
  cases this
  exact ⟨G', .refl tr, px.step st⟩
theorem pvKey_ok {k : Key} : PVR K mg G H (pvKey k) (L2.kV k) := by
  cases k with
  | inl i => exact .int i
  | inr x =>
    have : PVR K mg G H (.str x.cps.toList) (.str ⟨x.cps.toList.toArray⟩) := .str _
    rw [Array.toArray_toList] at this
    exact this
theorem walks_keys {a : Addr} {o : Obj} {kvs : List (Key × V)} (h : H a = some (.frz o (.dK kvs))) : Walks K mg (L2.Itk a o kvs) G H ((kvs.map (·.1)).map pvKey) := fun i G' H' st tr => by
  have hs := st.frz a o _ h
  refine ⟨fun v e => ?_, fun e => ⟨hs, by rw [e]; simp⟩⟩
  rw [List.getElem?_map, List.getElem?_map, Option.map_map] at e
  obtain ⟨kv, ek, rfl⟩ := Option.map_eq_some_iff.mp e
  refine ⟨⟨hs, (List.getElem?_eq_some_iff.mp ek).1⟩, fun y H'' hy => ?_⟩
  obtain ⟨rfl, k, v, e1, rfl⟩ := hy
  rw [ek] at e1
  cases e1
  exact ⟨G', .refl tr, pvKey_ok⟩
/-- a frozen dict is locked -/
theorem same_lock {a : Addr} {o : Obj} {kvs : List (Key × V)} (tr : ∀ a, G a ≠ .free → H a ≠ none) (g : G a = .fz) (h : H a = some (.dK kvs)) : Same G H G (upd H a (.frz o (.dK kvs))) := by
  refine ⟨⟨⟨fun b e => ⟨e, ?_⟩, fun _ _ e => e, fun b xs e => ?_, fun b q u e => ?_⟩, fun b e => ⟨e, upd_ne fun z => by rw [z, g] at e; cases e⟩⟩, fun b i e => ⟨e, upd_ne fun z => by rw [z, g] at e; cases e⟩, fun b l e => upd_ne (fun z => by rw [z, g] at e; cases e), fun _ _ e => e, fun b e => ?_⟩
  · by_cases n : b = a
    · subst n; exact .inr ⟨o, kvs, h, upd_same⟩
    · exact .inl (upd_ne n)
  · rw [upd_ne (fun z => by rw [z, h] at e; cases e)]; exact e
  · rw [upd_ne (fun z => by rw [z, h] at e; cases e)]; exact e
  · by_cases n : b = a
    · subst n; rw [upd_same]; exact fun z => nomatch z
    · rw [upd_ne n]; exact tr b e
theorem walks_str {x : List Nat} : Walks K mg (Its ⟨x.toArray⟩) G H (x.map fun c => .str [c]) := fun i G' H' st tr => by
  refine ⟨fun v e => ?_, fun e => by show x.toArray.size ≤ i; rw [e]; simp⟩
  rw [List.getElem?_map] at e
  obtain ⟨c, ec, rfl⟩ := Option.map_eq_some_iff.mp e
  have hlt := (List.getElem?_eq_some_iff.mp ec).1
  refine ⟨by show i < x.toArray.size; simpa using hlt, fun y H'' hy => ?_⟩
  obtain ⟨rfl, d, ed, rfl⟩ := hy
  have : c = d := by
    have ed' : x[i]? = some d := by simpa using ed
    rw [ec] at ed'; exact Option.some.inj ed'
  subst this
  exact ⟨G', .refl tr, .str [c]⟩
theorem walks_range {a : Int} {n : Nat} : Walks K mg (Itr a n) G H (rangeL a n) := fun i G' H' st tr => by
  unfold rangeL
  refine ⟨fun v e => ?_, fun e => by show n ≤ i; rw [e]; simp⟩
  rw [List.getElem?_map] at e
  obtain ⟨c, ec, rfl⟩ := Option.map_eq_some_iff.mp e
  obtain ⟨hlt, ec⟩ := List.getElem?_eq_some_iff.mp ec
  rw [List.getElem_range] at ec
  subst ec
  refine ⟨by show i < n; simpa using hlt, fun y H'' hy => ?_⟩
  obtain ⟨rfl, rfl⟩ := hy
  exact ⟨G', .refl tr, .int _⟩
theorem enumL_get : ∀ {xs : List PV} {k i : Nat} {v : PV}, (enumL k xs)[i]? = some v → ∃ x, xs[i]? = some x ∧ v = .tup [.int ((k + i : Nat) : Int), x]
  | [], k, i, v, h => by simp [enumL] at h
  | x :: xs, k, 0, v, h => by simp [enumL] at h; exact ⟨x, rfl, h.symm⟩
  | x :: xs, k, i + 1, v, h => by
    obtain ⟨y, h1, h2⟩ := enumL_get (xs := xs) (k := k + 1) (i := i) (by simpa [enumL] using h)
    exact ⟨y, by simpa using h1, by rw [h2]; congr 3; omega⟩
theorem enumL_len : ∀ {xs : List PV} {k : Nat}, (enumL k xs).length = xs.length
  | [], _ => rfl
  | _ :: xs, k => by simp [enumL, enumL_len (xs := xs)]
theorem walks_enum {a : Addr} {Vs : List V} {xs : List PV} (h : H a = some (.lst Vs)) (hg : G a = .fz) (p : PVRs K mg G H xs Vs) : Walks K mg (Ite K a) G H (enumL 0 xs) := fun i G' H' st tr => by
  have hs : SqL K H' a Vs := .of ((st.fz a hg).2.lst h)
  refine ⟨fun v e => ?_, fun e => ⟨Vs, hs, by rw [e, enumL_len, p.length]; exact Nat.le_refl _⟩⟩
  obtain ⟨w, e0, rfl⟩ := enumL_get e
  obtain ⟨x, e1, px⟩ := p.get e0
  refine ⟨⟨Vs, x, hs, e1⟩, fun y H'' hy => ?_⟩
  obtain ⟨t, y', rfl, ht, rfl, h2⟩ := hy
  have := h2 Vs hs
  rw [e1] at this
  cases this
  have q := Same.new (t := .free) (o := .tup [.int (i : Nat), x]) tr ht (fun _ z => nomatch z)
  refine ⟨_, q, .tup (.inl (.inl upd_same)) (.cons ?_ (.cons ((px.step st).step q.st.mono) .nil))⟩
  rw [Nat.zero_add]
  exact .int _
theorem walks_zipL {a b : Addr} {Vs Ws : List V} {xs ys : List PV} (h : H a = some (.lst Vs)) (hg : G a = .fz) (p : PVRs K mg G H xs Vs) (h' : H b = some (.lst Ws)) (hg' : G b = .fz) (p' : PVRs K mg G H ys Ws) :
    Walks K mg (Itz K a b) G H ((xs.zip ys).map fun p => .tup [p.1, p.2]) := fun i G' H' st tr => by
  have hs : SqL K H' a Vs := .of ((st.fz a hg).2.lst h)
  have hs' : SqL K H' b Ws := .of ((st.fz b hg').2.lst h')
  refine ⟨fun v e => ?_, fun e => ⟨Vs, Ws, hs, hs', by rw [e, List.length_map, List.length_zip, p.length, p'.length]; omega⟩⟩
  rw [List.getElem?_map] at e
  obtain ⟨⟨c, d⟩, ec, rfl⟩ := Option.map_eq_some_iff.mp e
  obtain ⟨q1, q2⟩ := List.getElem?_zip_eq_some.mp ec
  obtain ⟨x, e1, px⟩ := p.get q1
  obtain ⟨y, e2, py⟩ := p'.get q2
  refine ⟨⟨Vs, Ws, x, y, hs, hs', e1, e2⟩, fun z H'' hz => ?_⟩
  obtain ⟨t, x', y', rfl, ht, rfl, h2, h3⟩ := hz
  have z1 := h2 Vs hs
  have z2 := h3 Ws hs'
  rw [e1] at z1; cases z1
  rw [e2] at z2; cases z2
  have q := Same.new (t := .free) (o := .tup [x, y]) tr ht (fun _ z => nomatch z)
  exact ⟨_, q, .tup (.inl (.inl upd_same)) (.cons ((px.step st).step q.st.mono) (.cons ((py.step st).step q.st.mono) .nil))⟩
theorem walks_zipT {a b : Addr} {Vs Ws : List V} {xs ys : List PV} (h : SqT K H a Vs) (p : PVRs K mg G H xs Vs) (h' : SqT K H b Ws) (p' : PVRs K mg G H ys Ws) :
    Walks K mg (RZ.ItzT K a b) G H ((xs.zip ys).map fun p => .tup [p.1, p.2]) := fun i G' H' st tr => by
  have hs : SqT K H' a Vs := SqT.step h st
  have hs' : SqT K H' b Ws := SqT.step h' st
  refine ⟨fun v e => ?_, fun e => ⟨Vs, Ws, hs, hs', by rw [e, List.length_map, List.length_zip, p.length, p'.length]; omega⟩⟩
  rw [List.getElem?_map] at e
  obtain ⟨⟨c, d⟩, ec, rfl⟩ := Option.map_eq_some_iff.mp e
  obtain ⟨q1, q2⟩ := List.getElem?_zip_eq_some.mp ec
  obtain ⟨x, e1, px⟩ := p.get q1
  obtain ⟨y, e2, py⟩ := p'.get q2
  refine ⟨⟨Vs, Ws, x, y, hs, hs', e1, e2⟩, fun z H'' hz => ?_⟩
  obtain ⟨t, x', y', rfl, ht, rfl, h2, h3⟩ := hz
  have z1 := h2 Vs hs
  have z2 := h3 Ws hs'
  rw [e1] at z1; cases z1
  rw [e2] at z2; cases z2
  have q := Same.new (t := .free) (o := .tup [x, y]) tr ht (fun _ z => nomatch z)
  exact ⟨_, q, .tup (.inl (.inl upd_same)) (.cons ((px.step st).step q.st.mono) (.cons ((py.step st).step q.st.mono) .nil))⟩
theorem rev_get {α : Type} {xs : List α} {i : Nat} {v : α} (h : xs.reverse[i]? = some v) : xs[xs.length - 1 - i]? = some v := by
  have hlt := (List.getElem?_eq_some_iff.mp h).1
  rw [List.length_reverse] at hlt
  rw [List.getElem?_reverse hlt] at h
  exact h
theorem walks_revL {a : Addr} {Vs : List V} {xs : List PV} (h : H a = some (.lst Vs)) (hg : G a = .fz) (p : PVRs K mg G H xs Vs) : Walks K mg (Itv K a Vs.length) G H xs.reverse := fun i G' H' st tr => by
  have hs : SqL K H' a Vs := .of ((st.fz a hg).2.lst h)
  refine ⟨fun v e => ?_, fun e => by show Vs.length ≤ i; rw [e, List.length_reverse, p.length]; exact Nat.le_refl _⟩
  have hlt := (List.getElem?_eq_some_iff.mp e).1
  rw [List.length_reverse, p.length] at hlt
  obtain ⟨x, e1, px⟩ := p.get (rev_get e)
  rw [p.length] at e1
  refine ⟨⟨hlt, Vs, x, hs, e1⟩, fun y H'' hy => ?_⟩
  obtain ⟨rfl, h2⟩ := hy
  have := h2 Vs hs
  rw [e1] at this
  cases this
  exact ⟨G', .refl tr, px.step st⟩
theorem walks_revT {a : Addr} {Vs : List V} {xs : List PV} (h : SqT K H a Vs) (p : PVRs K mg G H xs Vs) : Walks K mg (RT.ItvT K a Vs.length) G H xs.reverse := fun i G' H' st tr => by
  have hs : SqT K H' a Vs := SqT.step h st
  refine ⟨fun v e => ?_, fun e => by show Vs.length ≤ i; rw [e, List.length_reverse, p.length]; exact Nat.le_refl _⟩
  have hlt := (List.getElem?_eq_some_iff.mp e).1
  rw [List.length_reverse, p.length] at hlt
  obtain ⟨x, e1, px⟩ := p.get (rev_get e)
  rw [p.length] at e1
  refine ⟨⟨hlt, Vs, x, hs, e1⟩, fun y H'' hy => ?_⟩
  obtain ⟨rfl, h2⟩ := hy
  have := h2 Vs hs
  rw [e1] at this
  cases this
  exact ⟨G', .refl tr, px.step st⟩
end
end
end TP

set_option Elab.async false
set_option linter.all false
set_option maxRecDepth 100000
set_option maxHeartbeats 8000000
/-! Sal6b: a, b, *c = .. -/
namespace TP
open PySem PySem.Spec PyProof.Rows
open L2 (V Hp HO Key upd upd_same upd_ne SqL SqT Rd OpR UnR CallR IxR Vals Inv PE PT PW PA PI PG PGs PO PTs Vis Gl Loc)
/-- names, the last one starred -/
def starT (ok : Nat → Bool) (nk : Str → Bool) (N : List Str) : List Expr → Option (List Nat × Nat)
  | [.Starred (.Name x _) _] => (match ixOf x N with
    | some i => if ok i && nk x then some ([], i) else none
    | none => none)
  | .Name x _ :: r => (match ixOf x N, starT ok nk N r with
    | some i, some q => if ok i && nk x then some (i :: q.1, q.2) else none
    | _, _ => none)
  | _ => none
def putV : List Nat → List V → L2.St → L2.St
  | i :: is, x :: xs, σ => putV is xs (σ.set i (some x))
  | _, _, σ => σ
def gPut (js : List Nat) : L2.TGs := fun xs σ H Q => xs.length = js.length ∧ Q (putV js xs σ) H
section
variable {X : L2.Cx}
theorem starT_ok {ok : Nat → Bool} {nk : Str → Bool} (nd : X.N.Nodup) (hn : NkOk X nk) : ∀ {ts : List Expr} {q : List Nat × Nat}, starT ok nk X.N ts = some q → PGs X ts (gPut (q.1 ++ [q.2])) ∧ ts.length = q.1.length + 1 ∧ (assignEach ts X.env).length = q.1.length + 1 ∧ (assignEach ts X.env).findIdx? (·.1) = some q.1.length ∧ ∀ i ∈ q.1 ++ [q.2], ok i = true
  | [], q, h => by cases h
  | e :: r, q, h => by
    unfold starT at h
    split at h
    · rename_i x p p2 heq
      injection heq with h1 h2
      subst h1 h2
      split at h
      · rename_i i hi
        split at h <;> cases h
        rename_i hk
        rw [Bool.and_eq_true] at hk
        obtain ⟨hl, hf⟩ := hn x hk.2
        refine ⟨⟨fun pins s σ H vs us Q I rr hq => ?_⟩, rfl, rfl, rfl, fun j hj => by simp at hj; rw [hj]; exact hk.1⟩
        obtain ⟨hlen, hq⟩ := hq
        cases rr with
        | nil => simp at hlen
        | cons r1 rr =>
          cases rr with
          | cons _ _ => simp at hlen
          | nil =>
            show wpAny _ _ (assignInOrder [assign (.Name x p) X.env] _) _ _ _
            refine assignInOrder_cons (L2.thn ((L2.pg_name nd (ixOf_get hi) hl hf).run pins s σ H _ _ (fun σ' H' => σ' = σ.set i (some _) ∧ H' = H) I r1 ⟨rfl, rfl⟩) fun _ s1 ⟨σ1, H1, I1, e1, e2⟩ => ?_)
            subst e1 e2
            exact assignInOrder_nil ⟨_, _, I1, hq⟩
      · cases h
    · rename_i x p r' heq
      injection heq with h1 h2
      subst h1 h2
      split at h
      · rename_i i q' hi hr
        split at h <;> cases h
        rename_i hk
        rw [Bool.and_eq_true] at hk
        obtain ⟨hl, hf⟩ := hn x hk.2
        obtain ⟨pg, l1, l2, l3, l4⟩ := starT_ok nd hn hr
        refine ⟨⟨fun pins s σ H vs us Q I rr hq => ?_⟩, by simp [l1], by show (assignEach _ X.env).length + 1 = _; rw [l2]; rfl, ?_, fun j hj => ?_⟩
        · obtain ⟨hlen, hq⟩ := hq
          cases rr with
          | nil => simp at hlen
          | cons r1 rr =>
            show wpAny _ _ (assignInOrder (assign (.Name x p) X.env :: _) _) _ _ _
            refine assignInOrder_cons (L2.thn ((L2.pg_name nd (ixOf_get hi) hl hf).run pins s σ H _ _ (fun σ' H' => σ' = σ.set i (some _) ∧ H' = H) I r1 ⟨rfl, rfl⟩) fun _ s1 ⟨σ1, H1, I1, e1, e2⟩ => ?_)
            subst e1 e2
            exact pg.run pins s1 _ _ _ _ Q I1 rr ⟨by simpa using hlen, hq⟩
        · show ((false, assign (.Name x p) X.env) :: assignEach _ X.env).findIdx? (·.1) = _
          rw [List.findIdx?_cons]
          simp only [Bool.false_eq_true, if_false, l3, Option.map_some, List.length_cons]
        · simp only [List.cons_append, List.mem_cons] at hj
          rcases hj with z | z
          · rw [z]; exact hk.1
          · exact l4 j z
      · cases h
    · cases h
/-- the rest is a new list -/
def gStar (K : PySem.W.Frag) (is : List Nat) (j : Nat) : L2.TG := fun v σ H Q => ∃ a xs, v = .ref a ∧ (SqT K H a xs ∨ SqL K H a xs) ∧ is.length ≤ xs.length ∧ xs.length ≤ 16384 ∧ ∀ D, H D = none → Q (putV (is ++ [j]) (xs.take is.length ++ [.ref D]) σ) (upd H D (.lst (xs.drop is.length)))
theorem take_vals {xs : List V} {us : List Value} (n : Nat) (h : Vals xs us) : Vals (xs.take n) (us.take n) := h.take n
theorem pg_star {ts : List Expr} {k : Nat} {pos : Pos} {is : List Nat} {j : Nat} (hc : X.calm = true) (h : PGs X ts (gPut (is ++ [j]))) (hl : (assignEach ts X.env).length = is.length + 1) (hst : (assignEach ts X.env).findIdx? (·.1) = some is.length) : PG X (.Tuple ts k pos) (gStar X.K is j) := by
  refine ⟨fun pins s σ H v u Q I r hw => ?_⟩
  obtain ⟨a, xs, e1, hq, hle, hz, hw⟩ := hw
  subst e1
  cases r
  have hh := I.ok.hd hc
  -- behind the items
  have fin : ∀ (its : List Value) (h₂ : Heap) (tk : Tok), Vals xs its → (∀ b o, s.heap.get? b = some o → h₂.get? b = some o) → wpAny (model X.prog X.w) X.A (newList (its.drop is.length) >>= fun d => pure (its.take is.length ++ [d] ++ [])) (fun items s3 => wpAny (model X.prog X.w) X.A (assignInOrder ((assignEach ts X.env).map (·.2)) items) (fun _ s' => ∃ σ' H', Inv X pins σ' H' s' ∧ Q σ' H') X.xe s3) X.xe { s with heap := h₂, toks := tk } := fun its h₂ tk rv hk => by
    have I2 : Inv X pins σ H { s with heap := h₂, toks := tk } := I.kept (t' := tk) hk
    have hll := rv.length
    refine wpAny_bind (wpAny_newList (wpAny_pure ?_) (by rw [List.length_drop, sizeLine_eq]; omega))
    have hf : H h₂.objs.size = none := I2.hok.fresh (Nat.le_refl _)
    have I3 : Inv X pins σ (upd H h₂.objs.size (.lst (xs.drop is.length))) { s with heap := h₂.push { cls := .type "list", data := .seq (its.drop is.length).toArray 0 }, toks := tk } :=
      I2.laid (t' := tk) (fun b u e => Heap.get?_push_of_some _ e) (Nat.le_refl _) ⟨by rw [List.length_drop, sizeLine_eq]; omega, its.drop is.length, 0, rv.drop _, Heap.get?_push_size _ rfl⟩
    refine h.run pins _ σ _ (xs.take is.length ++ [.ref h₂.objs.size]) _ Q I3 ?_ ⟨by simp; omega, hw _ hf⟩
    rw [List.append_nil]
    exact (rv.take _).append (.cons rfl .nil)
  rw [PyProof.Rows.assign_Tuple]
  refine wpAny_bind (wpAny_standAt ?_)
  unfold unpack
  rw [hl, hst]
  rcases hq with hq | hq
  · obtain ⟨its, rv, ht, _⟩ := I.tuple hq
    have hll := rv.length
    have hlt : a ≠ s.heap.objs.size := by obtain ⟨o, ho, _⟩ := ht; exact Nat.ne_of_lt (Heap.lt_size ho)
    refine wpAny_bind (wpAny_holding ?_)
    unfold unpackItems
    refine wpAny_bind ?_
    unfold notIterableAtAll
    refine wpAny_bind (wpAny_specialOf ht.typeIs slot_tuple_iter.lookup ?_)
    refine wpAny_pure ?_
    simp only [Bool.false_eq_true, if_false]
    refine wpAny_bind (wpAny_holding (iter_tuple ht ?_))
    refine wpAny_bind (wpAny_holding (draw_tuple hlt is.length 0 _ _ ⟨_, Heap.get?_push_size _ rfl, rfl, rfl⟩ (ht.push _) (by simp; omega) fun h₁ hit₁ hs₁ => ?_))
    have ht₁ : IsTup h₁ a its.toArray := (ht.push _).extBut hs₁.extBut hlt
    rw [Nat.zero_add] at hit₁
    have hit₁' := hit₁
    obtain ⟨oi, hoi, _⟩ := hit₁'
    have ht₁' := ht₁
    obtain ⟨ol, hol, _⟩ := ht₁'
    rw [List.drop_zero]
    have hfl : (its.toArray.toList.take is.length).length = is.length := by rw [List.length_take]; simp; omega
    rw [if_neg (show ¬ ((its.toArray.toList.take is.length).length < is.length) by rw [hfl]; omega)]
    refine wpAny_bind (wpAny_holding (PySem.W.kun_collect (s := { s with heap := h₁ }) (T := "tuple_iterator") (.inr (.inr (.inr rfl))) (Walks.tuple (A := X.A.in1) hh s.heap.objs.size a hlt its.toArray) (fun j u st => st.1.typeIs) (k := is.length) (by simp; omega) ⟨hit₁, ht₁⟩ (Heap.lt_size hoi) (Heap.lt_size hol) (fun h₂ tk hk => ?_) (by rw [sizeLine_eq]; simp; omega)))
    have hrl : (its.toArray.toList.drop is.length).length = its.length - is.length := by rw [List.length_drop]
    have e0 : is.length + 1 - 1 - is.length = 0 := by omega
    rw [e0]
    show wpAny _ _ (if (its.toArray.toList.drop is.length).length < 0 then _ else _) _ _ _
    rw [if_neg (by omega)]
    have he : ∀ b o, s.heap.get? b = some o → h₂.get? b = some o := fun b o e => by
      have hb : b ≠ s.heap.objs.size := Nat.ne_of_lt (Heap.lt_size e)
      exact hk b o hb (hs₁.extBut b o hb (Heap.get?_push_of_some _ e))
    have := fin its h₂ tk rv he
    simp only [Nat.sub_zero, List.take_length, List.drop_length]
    exact this
  · obtain ⟨its, rv, pl, _⟩ := I.list hq
    have hll := rv.length
    have ht : s.heap.IsList a its.toArray := by
      obtain ⟨o, m, e, c, d, q⟩ := pl
      exact ⟨o, e, c, m, q⟩
    have hlt : a ≠ s.heap.objs.size := by obtain ⟨o, ho, _⟩ := ht; exact Nat.ne_of_lt (Heap.lt_size ho)
    refine wpAny_bind (wpAny_holding ?_)
    unfold unpackItems
    refine wpAny_bind ?_
    unfold notIterableAtAll
    refine wpAny_bind (wpAny_specialOf ht.typeIs slot_list_iter.lookup ?_)
    refine wpAny_pure ?_
    simp only [Bool.false_eq_true, if_false]
    refine wpAny_bind (wpAny_holding (wpAny_pyIter_list ht ?_))
    refine wpAny_bind (wpAny_holding (PySem.W.kun_draw hlt is.length 0 _ _ ⟨_, Heap.get?_push_size _ rfl, rfl, rfl⟩ (ht.push _) (by simp; omega) fun h₁ hit₁ hs₁ => ?_))
    have ht₁ : h₁.IsList a its.toArray := (ht.push _).extBut hs₁.extBut hlt
    rw [Nat.zero_add] at hit₁
    have hit₁' := hit₁
    obtain ⟨oi, hoi, _⟩ := hit₁'
    have ht₁' := ht₁
    obtain ⟨ol, hol, _⟩ := ht₁'
    rw [List.drop_zero]
    have hfl : (its.toArray.toList.take is.length).length = is.length := by rw [List.length_take]; simp; omega
    rw [if_neg (show ¬ ((its.toArray.toList.take is.length).length < is.length) by rw [hfl]; omega)]
    refine wpAny_bind (wpAny_holding (PySem.W.kun_collect (s := { s with heap := h₁ }) (T := "list_iterator") (.inr (.inr (.inl rfl))) (Walks.list (A := X.A.in1) hh s.heap.objs.size a hlt its.toArray) (fun j u st => st.1.typeIs) (k := is.length) (by simp; omega) ⟨hit₁, ht₁⟩ (Heap.lt_size hoi) (Heap.lt_size hol) (fun h₂ tk hk => ?_) (by rw [sizeLine_eq]; simp; omega)))
    have hrl : (its.toArray.toList.drop is.length).length = its.length - is.length := by rw [List.length_drop]
    have e0 : is.length + 1 - 1 - is.length = 0 := by omega
    rw [e0]
    show wpAny _ _ (if (its.toArray.toList.drop is.length).length < 0 then _ else _) _ _ _
    rw [if_neg (by omega)]
    have he : ∀ b o, s.heap.get? b = some o → h₂.get? b = some o := fun b o e => by
      have hb : b ≠ s.heap.objs.size := Nat.ne_of_lt (Heap.lt_size e)
      exact hk b o hb (hs₁.extBut b o hb (Heap.get?_push_of_some _ e))
    have := fin its h₂ tk rv he
    simp only [Nat.sub_zero, List.take_length, List.drop_length]
    exact this
end
end TP

set_option Elab.async false
set_option linter.all false
set_option maxRecDepth 100000
set_option maxHeartbeats 8000000
/-! Sal7: what is walked, by the text; comprehensions; every expression. -/
namespace TP
open PySem PySem.Spec PyProof.Rows
open L2 (V Hp HO Key upd upd_same upd_ne SqL SqT Rd OpR UnR CallR IxR Vals Inv PE PT PW PA PI PG PGs PO PTs Vis Gl Loc It Itl Itt Itr Its Ite Itz Itv)

section
variable {X : L2.Cx} {g : Cg} {cf : CF} {Ex : L2.WX}
/-- the dict is locked from now on -/
def tLk (t : L2.TE) : L2.TE := fun σ H Q => t σ H fun x H1 => (∃ d o kvs, x = .ref d ∧ H1 d = some (.frz o (.dK kvs)) ∧ Q x H1) ∨ ∃ d kvs, x = .ref d ∧ H1 d = some (.dK kvs) ∧ ∀ o, Q x (upd H1 d (.frz o (.dK kvs)))
theorem pe_lk {e : Expr} {t : L2.TE} (h : PE X e t) : PE X e (tLk t) := by
  refine ⟨fun pins s σ H Q I hw => ?_⟩
  refine L2.thn (h.run pins s σ H _ I hw) fun v s1 ⟨x, H1, I1, r, q⟩ => ?_
  rcases q with ⟨d, o, kvs, rfl, hd, q⟩ | ⟨d, kvs, rfl, hd, q⟩
  · exact ⟨_, H1, I1, r, q⟩
  · obtain ⟨od, I2⟩ := I1.lock hd trivial
    exact ⟨_, _, I2, r, q od⟩
/-- the first evaluation, kept -/
theorem pi_of' {t e : Expr} {e' : E} (hp : PE X e (tEX X cf Ex e')) : PI X t e (tIX X cf Ex (.of e')) := by
  refine ⟨fun pins s σ H R I h => ?_⟩
  obtain ⟨G, st, Rl, h⟩ := h
  simp only [evalI] at h
  cases e1 : evalE cf e' st with
  | bad => rw [e1] at h; rcases h with ⟨_, _, z, _⟩ | ⟨_, _, z, _⟩ <;> cases z
  | exc x s1 =>
    rw [e1] at h
    rcases h with ⟨_, _, z, _⟩ | ⟨_, _, z, h⟩ <;> cases z
    exact (L2.pi_list hp).run pins s σ H R I ⟨G, st, Rl, .inr ⟨_, _, e1, h⟩⟩
  | ok r s1 =>
    rw [e1] at h
    simp only [Res.bind] at h
    cases e2 : keep s1 r with
    | none => rw [e2] at h; rcases h with ⟨_, _, z, _⟩ | ⟨_, _, z, _⟩ <;> cases z
    | some q =>
      obtain ⟨v, s2⟩ := q
      rw [e2] at h
      simp only at h
      have fin : ∀ {G1 H1 x}, Rel X.K X.mg G1 s1 σ H1 → Step G H G1 H1 → RVR X.K X.mg G G1 H1 σ r x → ∃ G2, Rel X.K X.mg G2 s2 σ H1 ∧ Step G H G2 H1 ∧ PVR X.K X.mg G2 H1 v x := fun R1 st1 rv => by
        obtain ⟨G2, R2, st2, _, p2, _⟩ := keep_ok R1 st1 rv e2
        exact ⟨G2, R2, st2, p2⟩
      cases v with
      | lst xs =>
        simp only [itemsOf] at h
        rcases h with ⟨_, _, z, h⟩ | ⟨_, _, z, _⟩ <;> cases z
        refine (L2.pi_list hp).run pins s σ H R I ⟨G, st, Rl, .inl ⟨r, s1, e1, fun G1 H1 x R1 st1 rv => ?_⟩⟩
        obtain ⟨G2, R2, st2, p2⟩ := fin R1 st1 rv
        cases p2 with
        | lst h1 hg ps => exact ⟨_, rfl, ⟨_, .of h1⟩, h G2 H1 _ R2 st2 (walks_list (fun G' H' st => .of ((st.fz _ hg).2.lst h1)) (fun _ _ _ _ => trivial) ps)⟩
      | rol xs =>
        simp only [itemsOf] at h
        rcases h with ⟨_, _, z, h⟩ | ⟨_, _, z, _⟩ <;> cases z
        refine (L2.pi_list hp).run pins s σ H R I ⟨G, st, Rl, .inl ⟨r, s1, e1, fun G1 H1 x R1 st1 rv => ?_⟩⟩
        obtain ⟨G2, R2, st2, p2⟩ := fin R1 st1 rv
        cases p2 with
        | rol h1 ps => exact ⟨_, rfl, ⟨_, h1.sq⟩, h G2 H1 _ R2 st2 (walks_list (fun G' H' st => (h1.step st).sq) (fun _ _ _ _ => trivial) ps)⟩
      | tup xs =>
        simp only [itemsOf] at h
        rcases h with ⟨_, _, z, h⟩ | ⟨_, _, z, _⟩ <;> cases z
        refine (L2.pi_tup hp).run pins s σ H R I ⟨G, st, Rl, .inl ⟨r, s1, e1, fun G1 H1 x R1 st1 rv => ?_⟩⟩
        obtain ⟨G2, R2, st2, p2⟩ := fin R1 st1 rv
        cases p2 with
        | tup h1 ps => exact ⟨_, rfl, ⟨_, h1⟩, h G2 H1 _ R2 st2 (walks_tup h1 ps)⟩
      | str y =>
        simp only [itemsOf] at h
        rcases h with ⟨_, _, z, h⟩ | ⟨_, _, z, _⟩ <;> cases z
        refine (L2.pi_str hp).run pins s σ H R I ⟨G, st, Rl, .inl ⟨r, s1, e1, fun G1 H1 x R1 st1 rv => ?_⟩⟩
        obtain ⟨G2, R2, st2, p2⟩ := fin R1 st1 rv
        cases p2
        exact ⟨_, rfl, h G2 H1 _ R2 st2 walks_str⟩
      | dct ks vs =>
        simp only [itemsOf] at h
        rcases h with ⟨_, _, z, h⟩ | ⟨_, _, z, _⟩ <;> cases z
        refine (L2.pi_keys (pe_lk hp)).run pins s σ H R I ⟨G, st, Rl, .inl ⟨r, s1, e1, fun G1 H1 x R1 st1 rv => ?_⟩⟩
        obtain ⟨G2, R2, st2, p2⟩ := fin R1 st1 rv
        cases p2 with
        | @dct a _ _ kvs h1 hg hk ps =>
          subst hk
          rcases h1 with h1 | ⟨o, h1⟩
          · refine .inr ⟨a, kvs, rfl, h1, fun o => ⟨a, o, rfl, .inl ⟨kvs, upd_same, ?_⟩⟩⟩
            have q := same_lock (o := o) R2.trk hg h1
            exact h G2 _ _ (R2.same q) (st2.trans q.st) (walks_keys upd_same)
          · exact .inl ⟨a, o, kvs, rfl, h1, a, o, rfl, .inl ⟨kvs, h1, h G2 _ _ R2 st2 (walks_keys h1)⟩⟩
      | _ =>
        simp only [itemsOf] at h
        rcases h with ⟨_, _, z, _⟩ | ⟨_, _, z, _⟩ <;> cases z
/-- arguments' values, then the walk -/
theorem tI_range1 {a : E} {σ : L2.St} {H : Hp} {R : It → Hp → Prop} (h : tIX X cf Ex (.range [a]) σ H R) : L2.iRng1 (L2.tCons (tEX X cf Ex a) L2.tNil) σ H R := by
  obtain ⟨G, s, Rl, h⟩ := h
  simp only [evalI, evalEs] at h
  refine ⟨G, s, Rl, ?_⟩
  cases e1 : evalE cf a s with
  | bad => rw [e1] at h; rcases h with ⟨_, _, z, _⟩ | ⟨_, _, z, _⟩ <;> cases z
  | exc x s1 =>
    rw [e1] at h
    rcases h with ⟨_, _, z, _⟩ | ⟨_, _, z, h⟩ <;> cases z
    exact .inr ⟨_, _, rfl, h⟩
  | ok r s1 =>
    rw [e1] at h
    simp only [Res.bind] at h
    refine .inl ⟨r, s1, rfl, fun G1 H1 x R1 st1 rv => ?_⟩
    cases e2 : cont s1 r with
    | none => simp only [conts, e2] at h; rcases h with ⟨_, _, z, _⟩ | ⟨_, _, z, _⟩ <;> cases z
    | some c =>
      simp only [conts, e2] at h
      have hc := cont_ok R1 rv e2
      cases c <;> first | (rcases h with ⟨_, _, z, _⟩ | ⟨_, _, z, _⟩ <;> cases z; done) | skip
      rename_i n
      simp only at h
      split at h
      · rename_i hn
        rcases h with ⟨_, _, z, h⟩ | ⟨_, _, z, _⟩ <;> cases z
        exact ⟨n, by rw [hc.int], hn.1, hn.2, h G1 H1 _ R1 st1 walks_range⟩
      · rcases h with ⟨_, _, z, _⟩ | ⟨_, _, z, _⟩ <;> cases z
theorem tI_range2 {a b : E} {σ : L2.St} {H : Hp} {R : It → Hp → Prop} (h : tIX X cf Ex (.range [a, b]) σ H R) : L2.iRng2 (L2.tCons (tEX X cf Ex a) (L2.tCons (tEX X cf Ex b) L2.tNil)) σ H R := by
  obtain ⟨G, s, Rl, h⟩ := h
  simp only [evalI, evalEs] at h
  refine ⟨G, s, Rl, ?_⟩
  cases e1 : evalE cf a s with
  | bad => rw [e1] at h; rcases h with ⟨_, _, z, _⟩ | ⟨_, _, z, _⟩ <;> cases z
  | exc x s1 =>
    rw [e1] at h
    rcases h with ⟨_, _, z, _⟩ | ⟨_, _, z, h⟩ <;> cases z
    exact .inr ⟨_, _, rfl, h⟩
  | ok r s1 =>
    rw [e1] at h
    simp only [Res.bind] at h
    refine .inl ⟨r, s1, rfl, fun G1 H1 x R1 st1 rv => ⟨G1, s1, R1, ?_⟩⟩
    cases e2 : evalE cf b s1 with
    | bad => rw [e2] at h; rcases h with ⟨_, _, z, _⟩ | ⟨_, _, z, _⟩ <;> cases z
    | exc x s2 =>
      rw [e2] at h
      rcases h with ⟨_, _, z, _⟩ | ⟨_, _, z, h⟩ <;> cases z
      exact .inr ⟨_, _, rfl, h.step st1⟩
    | ok r2 s2 =>
      rw [e2] at h
      simp only at h
      refine .inl ⟨r2, s2, rfl, fun G2 H2 y R2 st2 rv2 => ?_⟩
      cases e3 : cont s2 r with
      | none => simp only [conts, e3] at h; rcases h with ⟨_, _, z, _⟩ | ⟨_, _, z, _⟩ <;> cases z
      | some c =>
        cases e4 : cont s2 r2 with
        | none => simp only [conts, e3, e4] at h; rcases h with ⟨_, _, z, _⟩ | ⟨_, _, z, _⟩ <;> cases z
        | some d =>
          simp only [conts, e3, e4] at h
          have hc := cont_ok R2 (rv.mono st2) e3
          have hd := cont_ok R2 rv2 e4
          cases c <;> first | (rcases h with ⟨_, _, z, _⟩ | ⟨_, _, z, _⟩ <;> cases z; done) | skip
          cases d <;> first | (rcases h with ⟨_, _, z, _⟩ | ⟨_, _, z, _⟩ <;> cases z; done) | skip
          rename_i m n
          simp only at h
          split at h
          · rename_i hn
            rcases h with ⟨_, _, z, h⟩ | ⟨_, _, z, _⟩ <;> cases z
            exact ⟨m, n, by rw [hc.int, hd.int], ⟨hn.1.1, hn.1.2, hn.2.1, hn.2.2⟩, h G2 H2 _ R2 (st1.trans st2) walks_range⟩
          · rcases h with ⟨_, _, z, _⟩ | ⟨_, _, z, _⟩ <;> cases z
theorem tI_enum {a : E} {σ : L2.St} {H : Hp} {R : It → Hp → Prop} (h : tIX X cf Ex (.enum a) σ H R) : L2.iEnum X.K (L2.tCons (tEX X cf Ex a) L2.tNil) σ H R := by
  obtain ⟨G, s, Rl, h⟩ := h
  simp only [evalI] at h
  refine ⟨G, s, Rl, ?_⟩
  cases e1 : evalE cf a s with
  | bad => rw [e1] at h; rcases h with ⟨_, _, z, _⟩ | ⟨_, _, z, _⟩ <;> cases z
  | exc x s1 =>
    rw [e1] at h
    rcases h with ⟨_, _, z, _⟩ | ⟨_, _, z, h⟩ <;> cases z
    exact .inr ⟨_, _, rfl, h⟩
  | ok r s1 =>
    rw [e1] at h
    simp only [Res.bind] at h
    refine .inl ⟨r, s1, rfl, fun G1 H1 x R1 st1 rv => ?_⟩
    split at h
    · rename_i xs s2 e2
      rcases h with ⟨_, _, z, h⟩ | ⟨_, _, z, _⟩ <;> cases z
      obtain ⟨G2, R2, st2, _, p2, _⟩ := keep_ok R1 st1 rv e2
      cases p2 with
      | lst h1 hg ps => exact ⟨_, _, rfl, .of h1, h G2 H1 _ R2 st2 (walks_enum h1 hg ps)⟩
    · rcases h with ⟨_, _, z, _⟩ | ⟨_, _, z, _⟩ <;> cases z
theorem tI_rev {a : E} {σ : L2.St} {H : Hp} {R : It → Hp → Prop} (h : tIX X cf Ex (.rev a) σ H R) : RT.iRevA X.K (tEX X cf Ex a) σ H R := by
  obtain ⟨G, s, Rl, h⟩ := h
  simp only [evalI] at h
  refine ⟨G, s, Rl, ?_⟩
  cases e1 : evalE cf a s with
  | bad => rw [e1] at h; rcases h with ⟨_, _, z, _⟩ | ⟨_, _, z, _⟩ <;> cases z
  | exc x s1 =>
    rw [e1] at h
    rcases h with ⟨_, _, z, _⟩ | ⟨_, _, z, h⟩ <;> cases z
    exact .inr ⟨_, _, rfl, h⟩
  | ok r s1 =>
    rw [e1] at h
    simp only [Res.bind] at h
    refine .inl ⟨r, s1, rfl, fun G1 H1 x R1 st1 rv => ?_⟩
    split at h
    · rename_i xs s2 e2
      rcases h with ⟨_, _, z, h⟩ | ⟨_, _, z, _⟩ <;> cases z
      obtain ⟨G2, R2, st2, _, p2, _⟩ := keep_ok R1 st1 rv e2
      cases p2 with
      | lst h1 hg ps => exact ⟨_, _, rfl, .inl ⟨.of h1, h G2 H1 _ R2 st2 (walks_revL h1 hg ps)⟩⟩
    · rename_i xs s2 e2
      rcases h with ⟨_, _, z, h⟩ | ⟨_, _, z, _⟩ <;> cases z
      obtain ⟨G2, R2, st2, _, p2, _⟩ := keep_ok R1 st1 rv e2
      cases p2 with
      | tup h1 ps => exact ⟨_, _, rfl, .inr ⟨h1, h G2 H1 _ R2 st2 (walks_revT h1 ps)⟩⟩
    · rcases h with ⟨_, _, z, _⟩ | ⟨_, _, z, _⟩ <;> cases z
theorem PVRs.two {K : PySem.W.Frag} {mg : Str → Option Value} {G : Gh} {H : Hp} {v w : PV} {x y : V} (h : PVRs K mg G H [v, w] [x, y]) : PVR K mg G H v x ∧ PVR K mg G H w y := by
  cases h with
  | cons h t => cases t with
    | cons h2 t => exact ⟨h, h2⟩
theorem tI_zip {a b : E} {σ : L2.St} {H : Hp} {R : It → Hp → Prop} (h : tIX X cf Ex (.zip a b) σ H R) : RZ.iZipA X.K (L2.tCons (tEX X cf Ex a) (L2.tCons (tEX X cf Ex b) L2.tNil)) σ H R := by
  obtain ⟨G, s, Rl, h⟩ := h
  simp only [evalI] at h
  refine ⟨G, s, Rl, ?_⟩
  cases e1 : evalE cf a s with
  | bad => rw [e1] at h; rcases h with ⟨_, _, z, _⟩ | ⟨_, _, z, _⟩ <;> cases z
  | exc x s1 =>
    rw [e1] at h
    rcases h with ⟨_, _, z, _⟩ | ⟨_, _, z, h⟩ <;> cases z
    exact .inr ⟨_, _, rfl, h⟩
  | ok r s1 =>
    rw [e1] at h
    simp only [Res.bind] at h
    refine .inl ⟨r, s1, rfl, fun G1 H1 x R1 st1 rv => ⟨G1, s1, R1, ?_⟩⟩
    cases e2 : evalE cf b s1 with
    | bad => rw [e2] at h; rcases h with ⟨_, _, z, _⟩ | ⟨_, _, z, _⟩ <;> cases z
    | exc x s2 =>
      rw [e2] at h
      rcases h with ⟨_, _, z, _⟩ | ⟨_, _, z, h⟩ <;> cases z
      exact .inr ⟨_, _, rfl, h.step st1⟩
    | ok r2 s2 =>
      rw [e2] at h
      simp only at h
      refine .inl ⟨r2, s2, rfl, fun G2 H2 y R2 st2 rv2 => ?_⟩
      have rvs := RVRs.push st1 rv st2 (.cons rv2 (fun _ _ _ _ z => by simp at z) .nil)
      split at h
      · rename_i xs ys s3 e3
        rcases h with ⟨_, _, z, h⟩ | ⟨_, _, z, _⟩ <;> cases z
        obtain ⟨G3, R3, st3, _, p3, _⟩ := keeps_ok R2 (st1.trans st2) rvs e3
        obtain ⟨p4, p5⟩ := p3.two
        cases p4 with
        | lst h1 hg ps => cases p5 with
          | lst h2 hg2 ps2 => exact ⟨_, _, _, _, rfl, .inl ⟨.of h1, .of h2, h G3 H2 _ R3 st3 (walks_zipL h1 hg ps h2 hg2 ps2)⟩⟩
      · rename_i xs ys s3 e3
        rcases h with ⟨_, _, z, h⟩ | ⟨_, _, z, _⟩ <;> cases z
        obtain ⟨G3, R3, st3, _, p3, _⟩ := keeps_ok R2 (st1.trans st2) rvs e3
        obtain ⟨p4, p5⟩ := p3.two
        cases p4 with
        | tup h1 ps => cases p5 with
          | tup h2 ps2 => exact ⟨_, _, _, _, rfl, .inr ⟨h1, h2, h G3 H2 _ R3 st3 (walks_zipT h1 ps h2 ps2)⟩⟩
      · rcases h with ⟨_, _, z, _⟩ | ⟨_, _, z, _⟩ <;> cases z

/-! ### comprehensions -/
theorem wipeS_len : ∀ {own : List Nat} {env : List Sl}, (wipeS env own).length = env.length
  | [], _ => rfl
  | v :: vs, env => by simp only [wipeS, List.length_set]; exact wipeS_len
theorem wipeS_get : ∀ {own : List Nat} {env : List Sl} {j : Nat} {sl : Sl}, (wipeS env own)[j]? = some sl → (j ∈ own ∧ sl = .un) ∨ (j ∉ own ∧ env[j]? = some sl)
  | [], env, j, sl, h => .inr ⟨by simp, h⟩
  | v :: vs, env, j, sl, h => by
    simp only [wipeS] at h
    by_cases hj : j = v
    · subst hj
      have hlt : j < (wipeS env vs).length := by
        have := (List.getElem?_eq_some_iff.mp h).1
        simpa using this
      rw [List.getElem?_set_self hlt] at h
      cases h
      exact .inl ⟨by simp, rfl⟩
    · rw [List.getElem?_set_ne (Ne.symm hj)] at h
      rcases wipeS_get h with ⟨h1, h2⟩ | ⟨h1, h2⟩
      · exact .inl ⟨List.mem_cons_of_mem _ h1, h2⟩
      · exact .inr ⟨by simp [hj, h1], h2⟩
theorem wipeS_out : ∀ {own : List Nat} {env : List Sl} {j : Nat}, j ∉ own → (wipeS env own)[j]? = env[j]?
  | [], env, j, _ => rfl
  | v :: vs, env, j, h => by
    simp only [List.mem_cons, not_or] at h
    simp only [wipeS]
    rw [List.getElem?_set_ne (fun z => h.1 z.symm)]
    exact wipeS_out h.2
theorem restS_len : ∀ {own : List Nat} {old env : List Sl}, (restS old env own).length = env.length
  | [], _, _ => rfl
  | v :: vs, old, env => by simp only [restS, List.length_set]; exact restS_len
theorem restS_get : ∀ {own : List Nat} {old env : List Sl} {j : Nat} {sl : Sl}, (restS old env own)[j]? = some sl → (j ∈ own ∧ sl = old.getD j .un) ∨ (j ∉ own ∧ env[j]? = some sl)
  | [], old, env, j, sl, h => .inr ⟨by simp, h⟩
  | v :: vs, old, env, j, sl, h => by
    simp only [restS] at h
    by_cases hj : j = v
    · subst hj
      have hlt : j < (restS old env vs).length := by
        have := (List.getElem?_eq_some_iff.mp h).1
        simpa using this
      rw [List.getElem?_set_self hlt] at h
      cases h
      exact .inl ⟨by simp, rfl⟩
    · rw [List.getElem?_set_ne (Ne.symm hj)] at h
      rcases restS_get h with ⟨h1, h2⟩ | ⟨h1, h2⟩
      · exact .inl ⟨List.mem_cons_of_mem _ h1, h2⟩
      · exact .inr ⟨by simp [hj, h1], h2⟩
theorem wipe_in : ∀ {vs : List Nat} {σ : L2.St} {j : Nat}, j ∈ vs → (L2.wipe σ vs)[j]? = none ∨ (L2.wipe σ vs)[j]? = some none
  | [], _, _, h => by simp at h
  | v :: vs, σ, j, h => by
    unfold L2.wipe
    by_cases hj : j = v
    · subst hj
      by_cases hl : j < (L2.wipe σ vs).length
      · rw [List.getElem?_set_self hl]; exact .inr rfl
      · exact .inl (List.getElem?_eq_none (by simpa using hl))
    · rw [List.getElem?_set_ne (Ne.symm hj)]
      rcases List.mem_cons.mp h with z | z
      · exact absurd z hj
      · exact wipe_in z
theorem wipe_eq {σ τ : L2.St} {vs : List Nat} (hl : σ.length = τ.length) (h : ∀ j : Nat, j ∉ vs → σ[j]? = τ[j]?) : L2.wipe σ vs = L2.wipe τ vs := by
  refine List.ext_getElem? fun j => ?_
  by_cases hj : j ∈ vs
  · have l1 : (L2.wipe σ vs).length = (L2.wipe τ vs).length := by rw [L2.wipe_length, L2.wipe_length, hl]
    rcases wipe_in (σ := σ) hj with e1 | e1 <;> rcases wipe_in (σ := τ) hj with e2 | e2
    · rw [e1, e2]
    · have a := List.getElem?_eq_none_iff.mp e1
      have b := (List.getElem?_eq_some_iff.mp e2).1
      omega
    · have a := List.getElem?_eq_none_iff.mp e2
      have b := (List.getElem?_eq_some_iff.mp e1).1
      omega
    · rw [e1, e2]
  · rw [L2.wipe_out hj, L2.wipe_out hj]; exact h j hj
/-- the block's names are forgotten -/
theorem Rel.wipe {K : PySem.W.Frag} {mg : Str → Option Value} {G : Gh} {s : SS} {σ : L2.St} {H : Hp} (R : Rel K mg G s σ H) (own : List Nat) : Rel K mg G { s with env := wipeS s.env own } (L2.wipe σ own) H :=
  R.unset (by rw [wipeS_len, L2.wipe_length]; exact R.len) fun i sl e => by
    rcases wipeS_get e with ⟨_, h⟩ | ⟨h1, h2⟩
    · exact .inl h
    · exact .inr ⟨h2, by rw [L2.wipe_out h1]⟩
/-- a comprehension's tests -/
def tCs (K : PySem.W.Frag) (mg : Str → Option Value) (cf : CF) (cs : List E) : L2.TT := fun σ H Q => ∃ G s b s', Rel K mg G s σ H ∧ evalCs cf cs s = .ok b s' ∧ ∀ G' H', Rel K mg G' s' σ H' → Step G H G' H' → Q b H'
theorem PTs.imp {X : L2.Cx} {e : List Expr} {t t' : L2.TT} (h : PTs X e t) (i : ∀ σ H Q, t' σ H Q → t σ H Q) : PTs X e t' := ⟨fun pins s σ H Q I q => h.run pins s σ H Q I (i σ H Q q)⟩
theorem pts_of {Y : L2.Cx} {cf : CF} {es : List Expr} {cs : List E} (hl : cs.length ≤ 1) (h : PEs Y cf noEx es cs) : PTs Y es (tCs Y.K Y.mg cf cs) := by
  cases h with
  | nil =>
    refine PTs.imp L2.pts_nil fun σ H Q q => ?_
    obtain ⟨G, s, b, s', R, e, q⟩ := q
    simp only [evalCs] at e
    cases e
    exact q G H R .refl
  | cons h1 h2 t =>
    cases t with
    | cons _ _ _ => simp at hl
    | nil =>
      refine PTs.imp (L2.pts_one h2) fun σ H Q q => ?_
      obtain ⟨G, s, b, s', R, e, q⟩ := q
      simp only [evalCs] at e
      refine ⟨G, s, R, ?_⟩
      cases e1 : evalE cf _ s with
      | bad => rw [e1] at e; cases e
      | exc x s1 => rw [e1] at e; cases e
      | ok r s1 =>
        rw [e1] at e
        simp only [Res.bind] at e
        cases e2 : testR s1 r with
        | none => rw [e2] at e; cases e
        | some c =>
          rw [e2] at e
          cases e
          exact .inl ⟨r, _, _, rfl, e2, q⟩
/-- one turn -/
def lcTurn (cf : CF) (elt : E) (t : T) (cs : List E) : PV → SS → Res (Option PV) := fun x s2 => match bindT t x s2 with
  | some s3 => (evalCs cf cs s3).bind fun b s4 => if b then (evalE cf elt s4).bind fun r s5 => (match keep s5 r with
      | some (v, s6) => .ok (some v) s6
      | none => .bad)
    else .ok none s4
  | none => .bad
theorem Res.bind_ok {α β : Type} (a : α) (s : SS) (f : α → SS → Res β) : (Res.ok a s).bind f = f a s := rfl
theorem evalE_lc (cf : CF) (elt : E) (t : T) (it : I) (cs : List E) (own : List Nat) (s : SS) : evalE cf (.lc elt t it cs own) s = (evalI cf it s).bind fun xs s1 => if ownSlots s1.env own then .bad else
    (noExc (lcLoop own (lcTurn cf elt t cs) xs [] s1)).bind fun ys s7 => .ok (.fr (.lst ys)) { s7 with env := restS s1.env s7.env own } := by
  simp only [evalE]; rfl
theorem res_noExc {α : Type} {r : Res α} {a : α} {s : SS} (h : noExc r = .ok a s) : r = .ok a s := by
  cases r <;> first | exact h | cases h
theorem tE_lc {e' : E} {t' : T} {it' : I} {cs : List E} {vs0 : List Nat} {nk : Str → Bool} {N : List Str} {k : Nat} {t : Expr} (ht : cT (fun i => decide (i ∈ vs0)) nk N k t = some t') {σ : L2.St} {H : Hp} {Q : L2.VK}
    (h : tEX X cf Ex (.lc e' t' it' cs vs0) σ H Q) : L2.tLc (tIX X cf Ex it') (tG X.K X.mg t') (tCs X.K X.mg cf cs) (tE X.K X.mg cf noEx e') vs0 σ H Q := by
  obtain ⟨G, s, Rl, h⟩ := h
  rw [evalE_lc] at h
  generalize hvs : vs0 = vs at *
  refine ⟨G, s, Rl, ?_⟩
  cases e1 : evalI cf it' s with
  | bad => rw [e1] at h; rcases h with ⟨_, _, z, _⟩ | ⟨_, _, z, _⟩ <;> cases z
  | exc x s1 =>
    rw [e1] at h
    rcases h with ⟨_, _, z, _⟩ | ⟨_, _, z, h⟩ <;> cases z
    exact .inr ⟨_, _, rfl, h⟩
  | ok xs s1 =>
    rw [e1, Res.bind_ok] at h
    refine .inl ⟨xs, s1, rfl, fun G1 H1 J R1 st1 wk D hD => ?_⟩
    split at h
    · rcases h with ⟨_, _, z, _⟩ | ⟨_, _, z, _⟩ <;> cases z
    rename_i hown
    have loop : ∃ ys s7, lcLoop vs (lcTurn cf e' t' cs) xs [] s1 = .ok ys s7 ∧ ∀ G' H' x, Rel X.K X.mg G' { s7 with env := restS s1.env s7.env vs } σ H' → Step G H G' H' → RVR X.K X.mg G G' H' σ (.fr (.lst ys)) x → Q x H' := by
      cases e2 : noExc (lcLoop vs (lcTurn cf e' t' cs) xs [] s1) with
      | bad =>
        rcases h with ⟨_, _, z, _⟩ | ⟨_, _, z, _⟩
        · rw [e2] at z; cases z
        · rw [e2] at z; cases z
      | exc x s2 =>
        cases e3 : lcLoop vs (lcTurn cf e' t' cs) xs [] s1 <;> (rw [e3] at e2; cases e2)
      | ok ys s7 =>
        rcases h with ⟨_, _, z, h⟩ | ⟨_, _, z, _⟩
        · have e3 := e2
          rw [e2] at z
          cases z
          exact ⟨ys, s7, res_noExc e3, h⟩
        · rw [e2] at z; cases z
    obtain ⟨ys, s7, eL, fin⟩ := loop
    -- the new list
    have q0 := Same.new (t := .hold) (o := .lst []) R1.trk hD (fun _ z => nomatch z)
    have R1' := R1.same q0
    have st1' := st1.trans q0.st
    have hG1D : G1 D = .free := R1.free hD
    have hGD : G D ≠ .hold := fun z => by have := (st1.hold D z).1; rw [hG1D] at this; cases this
    refine ⟨fun i m Hc => m = xs.length - i ∧ i ≤ xs.length ∧ ∃ G2 s2 acc accV, Rel X.K X.mg G2 { s2 with env := wipeS s2.env vs } (L2.wipe σ vs) Hc ∧ Step G1 H1 G2 Hc ∧ G2 D = .hold ∧ Hc D = some (.lst accV) ∧ PVRs X.K X.mg G2 Hc acc accV ∧
      lcLoop vs (lcTurn cf e' t' cs) (xs.drop i) acc s2 = .ok ys s7 ∧ s2.env.length = s1.env.length, ⟨xs.length, by simp, Nat.zero_le _, _, s1, [], [], R1'.wipe vs, q0.st, tg_same, upd_same, .nil, by simpa using eL, rfl⟩, ?_⟩
    rintro i m Hc ⟨rfl, hi', G2, s2, acc, accV, R2, st2, g2, hHD, pa, eL2, len2⟩
    obtain ⟨w1, w2⟩ := wk i G2 Hc st2.mono R2.trk
    by_cases hlt : i < xs.length
    · refine .inr ?_
      have ex : xs[i]? = some xs[i] := by simp [hlt]
      obtain ⟨go, yl⟩ := w1 _ ex
      rw [List.drop_eq_getElem_cons hlt] at eL2
      simp only [lcLoop] at eL2
      refine ⟨go, fun H' => ∃ G5 s5 acc5 accV5, Rel X.K X.mg G5 { s5 with env := wipeS s5.env vs } (L2.wipe σ vs) H' ∧ Step G1 H1 G5 H' ∧ G5 D = .hold ∧ H' D = some (.lst accV5) ∧ PVRs X.K X.mg G5 H' acc5 accV5 ∧ lcLoop vs (lcTurn cf e' t' cs) (xs.drop (i + 1)) acc5 s5 = .ok ys s7 ∧ s5.env.length = s1.env.length,
        fun H' ⟨G5, s5, acc5, accV5, a1, a2, a3, a4, a5, a6, a7⟩ => ⟨xs.length - (i + 1), by omega, rfl, hlt, G5, s5, acc5, accV5, a1, a2, a3, a4, a5, a6, a7⟩, fun x H' hy => ?_⟩
      obtain ⟨G3, q3, px⟩ := yl x H' hy
      have R3 := R2.same q3
      have g3 := q3.st.hold D g2
      have tu : ∃ o sT, lcTurn cf e' t' cs xs[i] { s2 with env := wipeS s2.env vs } = .ok o sT ∧ (match o with | some v => if acc.length < szL then lcLoop vs (lcTurn cf e' t' cs) (xs.drop (i + 1)) (acc ++ [v]) sT else .bad | none => lcLoop vs (lcTurn cf e' t' cs) (xs.drop (i + 1)) acc sT) = .ok ys s7 := by
        cases e4 : lcTurn cf e' t' cs xs[i] { s2 with env := wipeS s2.env vs } with
        | bad => rw [e4] at eL2; cases eL2
        | exc _ _ => rw [e4] at eL2; cases eL2
        | ok o sT => rw [e4] at eL2; exact ⟨o, sT, rfl, eL2⟩
      obtain ⟨oT, sT, eT, eL3⟩ := tu
      unfold lcTurn at eT
      cases eb : bindT t' xs[i] { s2 with env := wipeS s2.env vs } with
      | none => rw [eb] at eT; cases eT
      | some s3 =>
        rw [eb] at eT
        simp only at eT
        have hwA : ∀ σ2 : L2.St, σ2.length = (L2.wipe σ vs).length → (∀ j : Nat, tIn t' j = false → σ2[j]? = (L2.wipe σ vs)[j]?) → L2.wipe σ2 vs = L2.wipe σ vs := fun σ2 l4 k4 => wipe_eq (by rw [l4, L2.wipe_length]) fun j hj => by
          rw [k4 j, L2.wipe_out hj]
          cases ti : tIn t' j with
          | false => rfl
          | true =>
            have := (cT_ok k).1 ht j ti
            rw [decide_eq_true_eq] at this
            exact absurd this hj
        refine ⟨G3, xs[i], _, s3, R3, px, eb, fun σ2 R4 l4 k4 => ⟨hwA σ2 l4 k4, ?_⟩⟩
        have hw : L2.wipe σ2 vs = L2.wipe σ vs := hwA σ2 l4 k4
        have l3 : s3.env.length = s1.env.length := by rw [R4.len, l4, L2.wipe_length, ← R1.len]
        cases ec : evalCs cf cs s3 with
        | bad => rw [ec] at eT; cases eT
        | exc _ _ => rw [ec] at eT; cases eT
        | ok b s4 =>
          rw [ec] at eT
          simp only [Res.bind] at eT
          refine ⟨G3, s3, b, s4, R4, ec, fun G5 H5 R5 st5 => ?_⟩
          have g5 := st5.hold D g3.1
          cases b with
          | false =>
            rw [if_neg Bool.false_ne_true] at eT
            cases eT
            show (if false = true then _ else _)
            rw [if_neg Bool.false_ne_true]
            have R5w := R5.wipe vs
            rw [hw] at R5w
            refine ⟨G5, _, acc, accV, R5w, (st2.trans q3.st).trans st5, g5.1, by rw [g5.2, g3.2]; exact hHD, (pa.step q3.st.mono).step st5.mono, eL3, ?_⟩
            rw [R5.len, l4, L2.wipe_length, ← R1.len]
          | true =>
            rw [if_pos rfl] at eT
            show (if true = true then _ else _)
            rw [if_pos rfl]
            refine ⟨G5, s4, R5, ?_⟩
            cases ee : evalE cf e' s4 with
            | bad => rw [ee] at eT; cases eT
            | exc _ _ => rw [ee] at eT; cases eT
            | ok r s5 =>
              rw [ee] at eT
              simp only at eT
              refine .inl ⟨r, s5, rfl, fun G6 H6 y R6 st6 rv6 => ?_⟩
              cases ek : keep s5 r with
              | none => rw [ek] at eT; cases eT
              | some q =>
                obtain ⟨v, s6⟩ := q
                rw [ek] at eT
                cases eT
                simp only at eL3
                split at eL3
                · rename_i hz
                  obtain ⟨G7, R7, st7, m7, p7, l7, _⟩ := keep_ok R6 st6 rv6 ek
                  have g7 := st7.hold D g5.1
                  have hHD7 : H6 D = some (.lst accV) := by rw [g7.2, g5.2, g3.2]; exact hHD
                  have pa7 := ((pa.step q3.st.mono).step st5.mono).step st7.mono
                  refine ⟨accV, hHD7, by rw [← pa7.length, ← szL_eq]; exact hz, ?_⟩
                  obtain ⟨R8, m8⟩ := R7.updHold (ho := .lst (accV ++ [y])) g7.1 hHD7
                  have R8w := R8.wipe vs
                  rw [hw] at R8w
                  refine ⟨G7, _, acc ++ [v], accV ++ [y], R8w, (((st2.trans q3.st).trans st5).trans st7).updHold hD hG1D, g7.1, upd_same, (pa7.step m8).append (.cons (p7.step m8) .nil), eL3, ?_⟩
                  rw [R8.len, l4, L2.wipe_length, ← R1.len]
                · cases eL3
    · have e : i = xs.length := by omega
      subst e
      refine .inl ⟨w2 rfl, ?_⟩
      rw [List.drop_length] at eL2
      simp only [lcLoop] at eL2
      cases eL2
      refine fin G2 Hc _ ⟨?_, fun j sl ej => ?_, R2.sto, R2.uniq, R2.trk, R2.lim⟩ (st1.trans st2) ⟨D, rfl, g2, hGD, accV, hHD, pa⟩
      · rw [restS_len]; exact len2.trans R1.len
      · rcases restS_get ej with ⟨hj, rfl⟩ | ⟨hj, ej'⟩
        · -- the block's own name: as it was
          cases e5 : s1.env[j]? with
          | none =>
            have : s1.env.getD j Sl.un = .un := by rw [List.getD_eq_getElem?_getD, e5]; rfl
            rw [this]; trivial
          | some sl =>
            have : s1.env.getD j Sl.un = sl := by rw [List.getD_eq_getElem?_getD, e5]; rfl
            rw [this]
            have sr := R1.slots j sl e5
            cases sl with
            | un => trivial
            | val v => obtain ⟨y, e1, p⟩ := sr; exact ⟨y, e1, p.step st2.mono⟩
            | own c =>
              exfalso
              apply hown
              unfold ownSlots
              rw [List.any_eq_true]
              exact ⟨j, hj, by rw [e5]⟩
        · have e6 : (wipeS s7.env vs)[j]? = some sl := by rw [wipeS_out hj]; exact ej'
          have sr := R2.slots j sl e6
          rw [L2.wipe_out hj] at sr
          exact sr
/-- the second walk of two: one list grows -/
theorem lc_inner {e' : E} {t1 : T} {cs1 : List E} {vs vs1 : List Nat} {nk : Str → Bool} {N : List Str} {k : Nat} {t : Expr} (ht : cT (fun i => decide (i ∈ vs)) nk N k t = some t1) (hv1 : ∀ j, j ∈ vs → tIn t1 j = true → j ∈ vs1)
    {G1 G4 : Gh} {H1 H4 : Hp} {D : Addr} (hD : H1 D = none) (hG1D : G1 D = .free) {σ2 : L2.St} {J1 : It} {ys acc ys' : List PV} {s5 s6 : SS} {accV : List V}
    (R4 : Rel X.K X.mg G4 s5 σ2 H4) (st4 : Step G1 H1 G4 H4) (g4 : G4 D = .hold) (hH : H4 D = some (.lst accV)) (pa : PVRs X.K X.mg G4 H4 acc accV) (wk : Walks X.K X.mg J1 G4 H4 ys) (eL : lcLoop vs1 (lcTurn cf e' t1 cs1) ys acc s5 = .ok ys' s6)
    {Nx : Hp → Prop} (fin : ∀ G5 H5 accV5, Rel X.K X.mg G5 { s6 with env := wipeS s6.env vs1 } (L2.wipe σ2 vs1) H5 → Step G1 H1 G5 H5 → G5 D = .hold → H5 D = some (.lst accV5) → PVRs X.K X.mg G5 H5 ys' accV5 → s6.env.length = s5.env.length → Nx H5) :
    ∃ W1 : Nat → Nat → Hp → Prop, (∃ m, W1 0 m H4) ∧ ∀ j k H, W1 j k H → (J1.stop j H ∧ Nx H) ∨ (J1.go j H ∧ ∃ Nx1 : Hp → Prop, (∀ H', Nx1 H' → ∃ k', k' < k ∧ W1 (j + 1) k' H') ∧ ∀ x H', J1.yld j H x H' → tG X.K X.mg t1 x (L2.wipe σ2 vs1) H' fun σ3 H5 => L2.wipe σ3 vs1 = L2.wipe σ2 vs1 ∧ tCs X.K X.mg cf cs1 σ3 H5 fun b H6 =>
        if b = true then tE X.K X.mg cf noEx e' σ3 H6 fun y H7 => ∃ acc, H7 D = some (.lst acc) ∧ acc.length < sizeLine ∧ Nx1 (upd H7 D (.lst (acc ++ [y]))) else Nx1 H6) := by
  refine ⟨fun i m Hc => m = ys.length - i ∧ i ≤ ys.length ∧ ∃ G2 s2 acc accV, Rel X.K X.mg G2 { s2 with env := wipeS s2.env vs1 } (L2.wipe σ2 vs1) Hc ∧ Step G1 H1 G2 Hc ∧ Mono G4 H4 G2 Hc ∧ G2 D = .hold ∧ Hc D = some (.lst accV) ∧ PVRs X.K X.mg G2 Hc acc accV ∧
      lcLoop vs1 (lcTurn cf e' t1 cs1) (ys.drop i) acc s2 = .ok ys' s6 ∧ s2.env.length = s5.env.length, ⟨ys.length, by simp, Nat.zero_le _, _, s5, acc, accV, R4.wipe vs1, st4, .refl, g4, hH, pa, by simpa using eL, rfl⟩, ?_⟩
  rintro i m Hc ⟨rfl, hi', G2, s2, acc, accV, R2, st2, mo2, g2, hHD, pa, eL2, len2⟩
  obtain ⟨w1, w2⟩ := wk i G2 Hc mo2 R2.trk
  by_cases hlt : i < ys.length
  · refine .inr ?_
    have ex : ys[i]? = some ys[i] := by simp [hlt]
    obtain ⟨go, yl⟩ := w1 _ ex
    rw [List.drop_eq_getElem_cons hlt] at eL2
    simp only [lcLoop] at eL2
    refine ⟨go, fun H' => ∃ G5 s5' acc5 accV5, Rel X.K X.mg G5 { s5' with env := wipeS s5'.env vs1 } (L2.wipe σ2 vs1) H' ∧ Step G1 H1 G5 H' ∧ Mono G4 H4 G5 H' ∧ G5 D = .hold ∧ H' D = some (.lst accV5) ∧ PVRs X.K X.mg G5 H' acc5 accV5 ∧ lcLoop vs1 (lcTurn cf e' t1 cs1) (ys.drop (i + 1)) acc5 s5' = .ok ys' s6 ∧ s5'.env.length = s5.env.length,
      fun H' ⟨G5, s5', acc5, accV5, a1, a2, a3, a4, a5, a6, a7, a8⟩ => ⟨ys.length - (i + 1), by omega, rfl, hlt, G5, s5', acc5, accV5, a1, a2, a3, a4, a5, a6, a7, a8⟩, fun x H' hy => ?_⟩
    obtain ⟨G3, q3, px⟩ := yl x H' hy
    have R3 := R2.same q3
    have g3 := q3.st.hold D g2
    have tu : ∃ o sT, lcTurn cf e' t1 cs1 ys[i] { s2 with env := wipeS s2.env vs1 } = .ok o sT ∧ (match o with | some v => if acc.length < szL then lcLoop vs1 (lcTurn cf e' t1 cs1) (ys.drop (i + 1)) (acc ++ [v]) sT else .bad | none => lcLoop vs1 (lcTurn cf e' t1 cs1) (ys.drop (i + 1)) acc sT) = .ok ys' s6 := by
      cases e4 : lcTurn cf e' t1 cs1 ys[i] { s2 with env := wipeS s2.env vs1 } with
      | bad => rw [e4] at eL2; cases eL2
      | exc _ _ => rw [e4] at eL2; cases eL2
      | ok o sT => rw [e4] at eL2; exact ⟨o, sT, rfl, eL2⟩
    obtain ⟨oT, sT, eT, eL3⟩ := tu
    unfold lcTurn at eT
    cases eb : bindT t1 ys[i] { s2 with env := wipeS s2.env vs1 } with
    | none => rw [eb] at eT; cases eT
    | some s3 =>
      rw [eb] at eT
      simp only at eT
      have hwA : ∀ σ3 : L2.St, σ3.length = (L2.wipe σ2 vs1).length → (∀ j : Nat, tIn t1 j = false → σ3[j]? = (L2.wipe σ2 vs1)[j]?) → L2.wipe σ3 vs1 = L2.wipe σ2 vs1 := fun σ3 l4 k4 => wipe_eq (by rw [l4, L2.wipe_length]) fun j hj => by
        rw [k4 j, L2.wipe_out hj]
        cases ti : tIn t1 j with
        | false => rfl
        | true =>
          have := (cT_ok k).1 ht j ti
          rw [decide_eq_true_eq] at this
          exact absurd (hv1 j this ti) hj
      refine ⟨G3, ys[i], _, s3, R3, px, eb, fun σ3 R4 l4 k4 => ⟨hwA σ3 l4 k4, ?_⟩⟩
      have hw : L2.wipe σ3 vs1 = L2.wipe σ2 vs1 := hwA σ3 l4 k4
      have l2 : s5.env.length = (L2.wipe σ2 vs1).length := by have := R2.len; simp only [wipeS_len] at this; rw [← len2, this]
      cases ec : evalCs cf cs1 s3 with
      | bad => rw [ec] at eT; cases eT
      | exc _ _ => rw [ec] at eT; cases eT
      | ok b s4 =>
        rw [ec] at eT
        simp only [Res.bind] at eT
        refine ⟨G3, s3, b, s4, R4, ec, fun G5 H5 R5 st5 => ?_⟩
        have g5 := st5.hold D g3.1
        cases b with
        | false =>
          rw [if_neg Bool.false_ne_true] at eT
          cases eT
          show (if false = true then _ else _)
          rw [if_neg Bool.false_ne_true]
          have R5w := R5.wipe vs1
          rw [hw] at R5w
          refine ⟨G5, _, acc, accV, R5w, (st2.trans q3.st).trans st5, (mo2.trans q3.st.mono).trans st5.mono, g5.1, by rw [g5.2, g3.2]; exact hHD, (pa.step q3.st.mono).step st5.mono, eL3, ?_⟩
          rw [R5.len, l4, ← l2]
        | true =>
          rw [if_pos rfl] at eT
          show (if true = true then _ else _)
          rw [if_pos rfl]
          refine ⟨G5, s4, R5, ?_⟩
          cases ee : evalE cf e' s4 with
          | bad => rw [ee] at eT; cases eT
          | exc _ _ => rw [ee] at eT; cases eT
          | ok r s5 =>
            rw [ee] at eT
            simp only at eT
            refine .inl ⟨r, s5, rfl, fun G6 H6 y R6 st6 rv6 => ?_⟩
            cases ek : keep s5 r with
            | none => rw [ek] at eT; cases eT
            | some q =>
              obtain ⟨v, s6⟩ := q
              rw [ek] at eT
              cases eT
              simp only at eL3
              split at eL3
              · rename_i hz
                obtain ⟨G7, R7, st7, m7, p7, l7, _⟩ := keep_ok R6 st6 rv6 ek
                have g7 := st7.hold D g5.1
                have hHD7 : H6 D = some (.lst accV) := by rw [g7.2, g5.2, g3.2]; exact hHD
                have pa7 := ((pa.step q3.st.mono).step st5.mono).step st7.mono
                refine ⟨accV, hHD7, by rw [← pa7.length, ← szL_eq]; exact hz, ?_⟩
                obtain ⟨R8, m8⟩ := R7.updHold (ho := .lst (accV ++ [y])) g7.1 hHD7
                have R8w := R8.wipe vs1
                rw [hw] at R8w
                refine ⟨G7, _, acc ++ [v], accV ++ [y], R8w, (((st2.trans q3.st).trans st5).trans st7).updHold hD hG1D, (((mo2.trans q3.st.mono).trans st5.mono).trans st7.mono).trans m8, g7.1, upd_same, (pa7.step m8).append (.cons (p7.step m8) .nil), eL3, ?_⟩
                rw [R8.len, l4, ← l2]
              · cases eL3
  · have e : i = ys.length := by omega
    subst e
    refine .inl ⟨w2 rfl, ?_⟩
    rw [List.drop_length] at eL2
    simp only [lcLoop] at eL2
    cases eL2
    exact fin G2 Hc accV R2 st2 g2 hHD pa len2
/-- one turn of the first walk -/
def lcTurn2 (cf : CF) (elt : E) (t : T) (cs : List E) (t1 : T) (it1 : I) (cs1 : List E) (own1 : List Nat) : PV → List PV → SS → Res (List PV) := fun x acc s2 => match bindT t x s2 with
  | some s3 => (evalCs cf cs s3).bind fun b s4 => if b then (evalI cf it1 s4).bind fun ys s5 => lcLoop own1 (lcTurn cf elt t1 cs1) ys acc s5
    else .ok acc s4
  | none => .bad
theorem evalE_lc2 (cf : CF) (elt : E) (t : T) (it : I) (cs : List E) (t1 : T) (it1 : I) (cs1 : List E) (own own1 : List Nat) (s : SS) : evalE cf (.lc2 elt t it cs t1 it1 cs1 own own1) s = (evalI cf it s).bind fun xs s1 => if ownSlots s1.env own then .bad else
    (noExc (lc2Loop own (lcTurn2 cf elt t cs t1 it1 cs1 own1) xs [] s1)).bind fun ys s7 => .ok (.fr (.lst ys)) { s7 with env := restS s1.env s7.env own } := by
  simp only [evalE]; rfl
theorem wipeS_twice {own own1 : List Nat} {env : List Sl} (h : ∀ i ∈ own1, i ∈ own) : wipeS (wipeS env own1) own = wipeS env own := by
  refine List.ext_getElem? fun j => ?_
  by_cases hj : j ∈ own
  · cases e1 : (wipeS (wipeS env own1) own)[j]? with
    | none =>
      cases e2 : (wipeS env own)[j]? with
      | none => rfl
      | some sl =>
        have a := (List.getElem?_eq_some_iff.mp e2).1
        have b := List.getElem?_eq_none_iff.mp e1
        simp only [wipeS_len] at a b
        omega
    | some sl =>
      cases e2 : (wipeS env own)[j]? with
      | none =>
        have a := (List.getElem?_eq_some_iff.mp e1).1
        have b := List.getElem?_eq_none_iff.mp e2
        simp only [wipeS_len] at a b
        omega
      | some sl2 =>
        rcases wipeS_get e1 with ⟨_, z1⟩ | ⟨z, _⟩
        · rcases wipeS_get e2 with ⟨_, z2⟩ | ⟨z, _⟩
          · rw [z1, z2]
          · exact absurd hj z
        · exact absurd hj z
  · rw [wipeS_out hj, wipeS_out hj, wipeS_out (fun z => hj (h j z))]
theorem wipe_twice {vs vs1 : List Nat} {σ : L2.St} (h : ∀ i ∈ vs1, i ∈ vs) : L2.wipe (L2.wipe σ vs1) vs = L2.wipe σ vs := wipe_eq (by rw [L2.wipe_length]) fun j hj => L2.wipe_out fun z => hj (h j z)
theorem tE_lc2 {e' : E} {t' t1' : T} {it' it1' : I} {cs cs1 : List E} {vs vs1 : List Nat} {nk : Str → Bool} {N : List Str} {k : Nat} {t t1 : Expr} (ht : cT (fun i => decide (i ∈ vs)) nk N k t = some t') (ht1 : cT (fun i => decide (i ∈ vs)) nk N k t1 = some t1')
    (hv : ∀ i ∈ vs1, i ∈ vs) (hv1 : ∀ j, j ∈ vs → tIn t1' j = true → j ∈ vs1) {σ : L2.St} {H : Hp} {Q : L2.VK}
    (h : tEX X cf Ex (.lc2 e' t' it' cs t1' it1' cs1 vs vs1) σ H Q) : L2.tLc2 (tIX X cf Ex it') (tG X.K X.mg t') (tCs X.K X.mg cf cs) (tI X.K X.mg cf noEx it1') (tG X.K X.mg t1') (tCs X.K X.mg cf cs1) (tE X.K X.mg cf noEx e') vs vs1 σ H Q := by
  obtain ⟨G, s, Rl, h⟩ := h
  rw [evalE_lc2] at h
  refine ⟨G, s, Rl, ?_⟩
  cases e1 : evalI cf it' s with
  | bad => rw [e1] at h; rcases h with ⟨_, _, z, _⟩ | ⟨_, _, z, _⟩ <;> cases z
  | exc x s1 =>
    rw [e1] at h
    rcases h with ⟨_, _, z, _⟩ | ⟨_, _, z, h⟩ <;> cases z
    exact .inr ⟨_, _, rfl, h⟩
  | ok xs s1 =>
    rw [e1, Res.bind_ok] at h
    refine .inl ⟨xs, s1, rfl, fun G1 H1 J R1 st1 wk D hD => ?_⟩
    split at h
    · rcases h with ⟨_, _, z, _⟩ | ⟨_, _, z, _⟩ <;> cases z
    rename_i hown
    have loop : ∃ ys s7, lc2Loop vs (lcTurn2 cf e' t' cs t1' it1' cs1 vs1) xs [] s1 = .ok ys s7 ∧ ∀ G' H' x, Rel X.K X.mg G' { s7 with env := restS s1.env s7.env vs } σ H' → Step G H G' H' → RVR X.K X.mg G G' H' σ (.fr (.lst ys)) x → Q x H' := by
      cases e2 : noExc (lc2Loop vs (lcTurn2 cf e' t' cs t1' it1' cs1 vs1) xs [] s1) with
      | bad =>
        rcases h with ⟨_, _, z, _⟩ | ⟨_, _, z, _⟩
        · rw [e2] at z; cases z
        · rw [e2] at z; cases z
      | exc x s2 =>
        cases e3 : lc2Loop vs (lcTurn2 cf e' t' cs t1' it1' cs1 vs1) xs [] s1 <;> (rw [e3] at e2; cases e2)
      | ok ys s7 =>
        rcases h with ⟨_, _, z, h⟩ | ⟨_, _, z, _⟩
        · have e3 := e2
          rw [e2] at z
          cases z
          exact ⟨ys, s7, res_noExc e3, h⟩
        · rw [e2] at z; cases z
    obtain ⟨ys, s7, eL, fin⟩ := loop
    -- the new list
    have q0 := Same.new (t := .hold) (o := .lst []) R1.trk hD (fun _ z => nomatch z)
    have R1' := R1.same q0
    have hG1D : G1 D = .free := R1.free hD
    have hGD : G D ≠ .hold := fun z => by have := (st1.hold D z).1; rw [hG1D] at this; cases this
    refine ⟨fun i m Hc => m = xs.length - i ∧ i ≤ xs.length ∧ ∃ G2 s2 acc accV, Rel X.K X.mg G2 { s2 with env := wipeS s2.env vs } (L2.wipe σ vs) Hc ∧ Step G1 H1 G2 Hc ∧ G2 D = .hold ∧ Hc D = some (.lst accV) ∧ PVRs X.K X.mg G2 Hc acc accV ∧
      lc2Loop vs (lcTurn2 cf e' t' cs t1' it1' cs1 vs1) (xs.drop i) acc s2 = .ok ys s7 ∧ s2.env.length = s1.env.length, ⟨xs.length, by simp, Nat.zero_le _, _, s1, [], [], R1'.wipe vs, q0.st, tg_same, upd_same, .nil, by simpa using eL, rfl⟩, ?_⟩
    rintro i m Hc ⟨rfl, hi', G2, s2, acc, accV, R2, st2, g2, hHD, pa, eL2, len2⟩
    obtain ⟨w1, w2⟩ := wk i G2 Hc st2.mono R2.trk
    by_cases hlt : i < xs.length
    · refine .inr ?_
      have ex : xs[i]? = some xs[i] := by simp [hlt]
      obtain ⟨go, yl⟩ := w1 _ ex
      rw [List.drop_eq_getElem_cons hlt] at eL2
      simp only [lc2Loop] at eL2
      refine ⟨go, fun H' => ∃ G5 s5 acc5 accV5, Rel X.K X.mg G5 { s5 with env := wipeS s5.env vs } (L2.wipe σ vs) H' ∧ Step G1 H1 G5 H' ∧ G5 D = .hold ∧ H' D = some (.lst accV5) ∧ PVRs X.K X.mg G5 H' acc5 accV5 ∧ lc2Loop vs (lcTurn2 cf e' t' cs t1' it1' cs1 vs1) (xs.drop (i + 1)) acc5 s5 = .ok ys s7 ∧ s5.env.length = s1.env.length,
        fun H' ⟨G5, s5, acc5, accV5, a1, a2, a3, a4, a5, a6, a7⟩ => ⟨xs.length - (i + 1), by omega, rfl, hlt, G5, s5, acc5, accV5, a1, a2, a3, a4, a5, a6, a7⟩, fun x H' hy => ?_⟩
      obtain ⟨G3, q3, px⟩ := yl x H' hy
      have R3 := R2.same q3
      have g3 := q3.st.hold D g2
      have tu : ∃ acc' sT, lcTurn2 cf e' t' cs t1' it1' cs1 vs1 xs[i] acc { s2 with env := wipeS s2.env vs } = .ok acc' sT ∧ lc2Loop vs (lcTurn2 cf e' t' cs t1' it1' cs1 vs1) (xs.drop (i + 1)) acc' sT = .ok ys s7 := by
        cases e4 : lcTurn2 cf e' t' cs t1' it1' cs1 vs1 xs[i] acc { s2 with env := wipeS s2.env vs } with
        | bad => rw [e4] at eL2; cases eL2
        | exc _ _ => rw [e4] at eL2; cases eL2
        | ok o sT => rw [e4] at eL2; exact ⟨o, sT, rfl, eL2⟩
      obtain ⟨acc', sT, eT, eL3⟩ := tu
      unfold lcTurn2 at eT
      cases eb : bindT t' xs[i] { s2 with env := wipeS s2.env vs } with
      | none => rw [eb] at eT; cases eT
      | some s3 =>
        rw [eb] at eT
        simp only at eT
        have hwA : ∀ σ2 : L2.St, σ2.length = (L2.wipe σ vs).length → (∀ j : Nat, tIn t' j = false → σ2[j]? = (L2.wipe σ vs)[j]?) → L2.wipe σ2 vs = L2.wipe σ vs := fun σ2 l4 k4 => wipe_eq (by rw [l4, L2.wipe_length]) fun j hj => by
          rw [k4 j, L2.wipe_out hj]
          cases ti : tIn t' j with
          | false => rfl
          | true =>
            have := (cT_ok k).1 ht j ti
            rw [decide_eq_true_eq] at this
            exact absurd this hj
        refine ⟨G3, xs[i], _, s3, R3, px, eb, fun σ2 R4 l4 k4 => ⟨hwA σ2 l4 k4, ?_⟩⟩
        have hw : L2.wipe σ2 vs = L2.wipe σ vs := hwA σ2 l4 k4
        have l3 : s3.env.length = s1.env.length := by rw [R4.len, l4, L2.wipe_length, ← R1.len]
        cases ec : evalCs cf cs s3 with
        | bad => rw [ec] at eT; cases eT
        | exc _ _ => rw [ec] at eT; cases eT
        | ok b s4 =>
          rw [ec] at eT
          simp only [Res.bind] at eT
          refine ⟨G3, s3, b, s4, R4, ec, fun G5 H5 R5 st5 => ?_⟩
          have g5 := st5.hold D g3.1
          have l4' : s4.env.length = s1.env.length := by rw [R5.len, l4, L2.wipe_length, ← R1.len]
          cases b with
          | false =>
            rw [if_neg Bool.false_ne_true] at eT
            cases eT
            show (if false = true then _ else _)
            rw [if_neg Bool.false_ne_true]
            have R5w := R5.wipe vs
            rw [hw] at R5w
            exact ⟨G5, _, acc, accV, R5w, (st2.trans q3.st).trans st5, g5.1, by rw [g5.2, g3.2]; exact hHD, (pa.step q3.st.mono).step st5.mono, eL3, l4'⟩
          | true =>
            rw [if_pos rfl] at eT
            show (if true = true then _ else _)
            rw [if_pos rfl]
            refine ⟨G5, s4, R5, ?_⟩
            cases ei : evalI cf it1' s4 with
            | bad => rw [ei] at eT; cases eT
            | exc _ _ => rw [ei] at eT; cases eT
            | ok zs s5 =>
              rw [ei] at eT
              simp only at eT
              refine .inl ⟨zs, s5, rfl, fun G6 H6 J1 R6 st6 wk1 => ?_⟩
              have g6 := st6.hold D g5.1
              refine lc_inner (vs := vs) ht1 hv1 hD hG1D R6 (((st2.trans q3.st).trans st5).trans st6) g6.1 (by rw [g6.2, g5.2, g3.2]; exact hHD) (((pa.step q3.st.mono).step st5.mono).step st6.mono) wk1 eT fun G7 H7 accV7 R7 st7 g7 hH7 pa7 l7 => ?_
              have R7w := R7.wipe vs
              simp only at R7w
              rw [wipeS_twice hv, wipe_twice hv, hw] at R7w
              exact ⟨G7, sT, acc', accV7, R7w, st7, g7, hH7, pa7, eL3, by rw [l7, R6.len, l4, L2.wipe_length, ← R1.len]⟩
    · have e : i = xs.length := by omega
      subst e
      refine .inl ⟨w2 rfl, ?_⟩
      rw [List.drop_length] at eL2
      simp only [lc2Loop] at eL2
      cases eL2
      refine fin G2 Hc _ ⟨?_, fun j sl ej => ?_, R2.sto, R2.uniq, R2.trk, R2.lim⟩ (st1.trans st2) ⟨D, rfl, g2, hGD, accV, hHD, pa⟩
      · rw [restS_len]; exact len2.trans R1.len
      · rcases restS_get ej with ⟨hj, rfl⟩ | ⟨hj, ej'⟩
        · -- the block's own name: as it was
          cases e5 : s1.env[j]? with
          | none =>
            have : s1.env.getD j Sl.un = .un := by rw [List.getD_eq_getElem?_getD, e5]; rfl
            rw [this]; trivial
          | some sl =>
            have : s1.env.getD j Sl.un = sl := by rw [List.getD_eq_getElem?_getD, e5]; rfl
            rw [this]
            have sr := R1.slots j sl e5
            cases sl with
            | un => trivial
            | val v => obtain ⟨y, e1, p⟩ := sr; exact ⟨y, e1, p.step st2.mono⟩
            | own c =>
              exfalso
              apply hown
              unfold ownSlots
              rw [List.any_eq_true]
              exact ⟨j, hj, by rw [e5]⟩
        · have e6 : (wipeS s7.env vs)[j]? = some sl := by rw [wipeS_out hj]; exact ej'
          have sr := R2.slots j sl e6
          rw [L2.wipe_out hj] at sr
          exact sr
theorem pe_lc2' (o : XO X g cf Ex) {t it t1 it1 elt : Expr} {ifs ifs1 : List Expr} {scope : Scope} {own : List (Str × Nat)} {pos : Pos} {e' : E} {t' t1' : T} {it' it1' : I} {cs cs1 : List E} {nk : Str → Bool} {k : Nat}
    (ok : L2.BlkOk X.N X.env.scope scope own) (hi : PI X t it (tIX X cf Ex it')) (hf : ∀ x, foldedSetIterable it X.env x = pure x) (hf1 : ∀ env x, foldedSetIterable it1 env x = pure x) (hl : cs.length ≤ 1) (hl1 : cs1.length ≤ 1)
    (ht : cT (fun i => decide (i ∈ own.map (·.2))) nk X.N k t = some t') (ht1 : cT (fun i => decide (i ∈ own.map (·.2))) nk X.N k t1 = some t1')
    (hblk : ∀ (s : Shared) (H : Hp) (C : Addr) (cl : List (Str × Addr)) (fp : List Addr), PG (X.blk s H scope (compEnvC scope cl C X.env) fp) t (tG X.K X.mg t') ∧ PEs (X.blk s H scope (compEnvC scope cl C X.env) fp) cf noEx ifs cs ∧
      PI (X.blk s H scope (compEnvC scope cl C X.env) fp) t1 it1 (tI X.K X.mg cf noEx it1') ∧ PG (X.blk s H scope (compEnvC scope cl C X.env) fp) t1 (tG X.K X.mg t1') ∧ PEs (X.blk s H scope (compEnvC scope cl C X.env) fp) cf noEx ifs1 cs1 ∧ PE (X.blk s H scope (compEnvC scope cl C X.env) fp) elt (tE X.K X.mg cf noEx e')) :
    PE X (.ListComp elt [⟨t, it, ifs, 0⟩, ⟨t1, it1, ifs1, 0⟩] scope pos) (tEX X cf Ex (.lc2 e' t' it' cs t1' it1' cs1 (own.map (·.2)) ((own.map (·.2)).filter (tIn t1')))) :=
  PE.imp (L2.pe_lc2 (pos := pos) (vs1 := (own.map (·.2)).filter (tIn t1')) o.calm o.nd hi ok (fun i hi => (List.mem_filter.mp hi).1) (fun s H C cl fp => (hblk s H C cl fp).1) (tt := tCs X.K X.mg cf cs) (te := tE X.K X.mg cf noEx e') (g := tG X.K X.mg t') (wi1 := tI X.K X.mg cf noEx it1') (g1 := tG X.K X.mg t1') (tt1 := tCs X.K X.mg cf cs1)
    (fun s H C cl fp => pts_of hl (hblk s H C cl fp).2.1) (fun s H C cl fp => (hblk s H C cl fp).2.2.1) (fun s H C cl fp => (hblk s H C cl fp).2.2.2.1) (fun s H C cl fp => pts_of hl1 (hblk s H C cl fp).2.2.2.2.1) (fun s H C cl fp => (hblk s H C cl fp).2.2.2.2.2) hf hf1)
    fun σ H Q h => tE_lc2 ht ht1 (fun i hi => (List.mem_filter.mp hi).1) (fun j hj ti => List.mem_filter.mpr ⟨hj, ti⟩) h
theorem pe_lc' (o : XO X g cf Ex) {t it elt : Expr} {ifs : List Expr} {scope : Scope} {own : List (Str × Nat)} {pos : Pos} {e' : E} {t' : T} {it' : I} {cs : List E} {nk : Str → Bool} {k : Nat}
    (ok : L2.BlkOk X.N X.env.scope scope own) (hi : PI X t it (tIX X cf Ex it')) (hf : ∀ x, foldedSetIterable it X.env x = pure x) (hl : cs.length ≤ 1)
    (ht : cT (fun i => decide (i ∈ own.map (·.2))) nk X.N k t = some t')
    (hblk : ∀ (s : Shared) (H : Hp) (C : Addr) (cl : List (Str × Addr)) (fp : List Addr), PG (X.blk s H scope (compEnvC scope cl C X.env) fp) t (tG X.K X.mg t') ∧ PEs (X.blk s H scope (compEnvC scope cl C X.env) fp) cf noEx ifs cs ∧ PE (X.blk s H scope (compEnvC scope cl C X.env) fp) elt (tE X.K X.mg cf noEx e')) :
    PE X (.ListComp elt [⟨t, it, ifs, 0⟩] scope pos) (tEX X cf Ex (.lc e' t' it' cs (own.map (·.2)))) :=
  PE.imp (L2.pe_lc (pos := pos) o.calm o.nd hi ok (fun s H C cl fp => (hblk s H C cl fp).1) (tt := tCs X.K X.mg cf cs) (te := tE X.K X.mg cf noEx e') (g := tG X.K X.mg t') (fun s H C cl fp => pts_of hl (hblk s H C cl fp).2.1) (fun s H C cl fp => (hblk s H C cl fp).2.2) hf) fun σ H Q h => tE_lc ht h
end
end TP

set_option Elab.async false
set_option linter.all false
set_option maxRecDepth 100000
set_option maxHeartbeats 4000000
/-! Sal8: every compiled expression keeps its meaning. -/
namespace TP
open PySem PySem.Spec PyProof.Rows
open L2 (V Hp HO Key upd upd_same upd_ne SqL SqT Rd OpR UnR CallR IxR Vals Inv PE PT PW PA PI PG PGs PO PTs Vis Gl Loc It Itl Itt Itr Its Ite Itz Itv)

section
variable {X : L2.Cx} {g : Cg} {cf : CF} {Ex : L2.WX}
theorem tT_ite {c a b : E} {σ : L2.St} {H : Hp} {Q : Bool → Hp → Prop} (h : tTX X cf Ex (.ite c a b) σ H Q) : tTX X cf Ex c σ H fun t H1 => if t = true then tTX X cf Ex a σ H1 Q else tTX X cf Ex b σ H1 Q := by
  obtain ⟨G, s, R, h⟩ := h
  simp only [evalE] at h
  refine ⟨G, s, R, ?_⟩
  cases e1 : evalE cf c s with
  | bad => rw [e1] at h; rcases h with ⟨_, _, _, z, _⟩ | ⟨_, _, z, _⟩ <;> cases z
  | exc x s1 =>
    rw [e1] at h
    rcases h with ⟨_, _, _, z, _⟩ | ⟨_, _, z, h⟩ <;> cases z
    exact .inr ⟨_, _, rfl, h⟩
  | ok r s1 =>
    rw [e1] at h
    simp only [Res.bind] at h
    cases e2 : testR s1 r with
    | none => rw [e2] at h; rcases h with ⟨_, _, _, z, _⟩ | ⟨_, _, z, _⟩ <;> cases z
    | some t =>
      rw [e2] at h
      refine .inl ⟨r, t, s1, rfl, e2, fun G1 H1 R1 st1 => ?_⟩
      have fin : ∀ {d : E}, ((∃ r b s', evalE cf d s1 = .ok r s' ∧ testR s' r = some b ∧ ∀ G' H', Rel X.K X.mg G' s' σ H' → Step G H G' H' → Q b H') ∨ (∃ x s', evalE cf d s1 = .exc x s' ∧ xcP X.K X.mg Ex x s' G σ H)) → tTX X cf Ex d σ H1 Q := fun {d} h => by
        refine ⟨G1, s1, R1, ?_⟩
        rcases h with ⟨r2, b2, s2, z, z2, h⟩ | ⟨x, s2, z, h⟩
        · exact .inl ⟨r2, b2, s2, z, z2, fun G2 H2 R2 st2 => h G2 H2 R2 (st1.trans st2)⟩
        · exact .inr ⟨x, s2, z, h.step st1⟩
      cases t with
      | true => show (if true = true then _ else _); rw [if_pos rfl]; exact fin h
      | false => show (if false = true then _ else _); rw [if_neg Bool.false_ne_true]; exact fin h
theorem pt_ite {c a b : Expr} {c' a' b' : E} {pos : Pos} (hc : PT X c (tTX X cf Ex c')) (ha : PT X a (tTX X cf Ex a')) (hb : PT X b (tTX X cf Ex b')) : PT X (.IfExp c a b pos) (tTX X cf Ex (.ite c' a' b')) := by
  refine ⟨fun pins s σ H Q I h => ?_⟩
  show wpAny _ _ (do if ← isTrue c X.env (eval c X.env) then isTrue a X.env (eval a X.env) else isTrue b X.env (eval b X.env)) _ _ _
  refine wpAny_bind (L2.thn (hc.run pins s σ H _ I (tT_ite h)) fun t s1 ⟨H1, I1, q1⟩ => ?_)
  cases t with
  | true => exact ha.run pins s1 σ H1 Q I1 (by simpa using q1)
  | false => exact hb.run pins s1 σ H1 Q I1 (by simpa using q1)
/-- an expression's two readings -/
abbrev PB (X : L2.Cx) (cf : CF) (Ex : L2.WX) (e : Expr) (e' : E) : Prop := PE X e (tEX X cf Ex e') ∧ PT X e (tTX X cf Ex e')
theorem pb_list {N : List Str} {sc : Scope} {k : Nat} (h : ∀ {e : Expr} {e' : E}, cE g N k sc e = some e' → PB X cf Ex e e') : ∀ {es : List Expr} {es' : List E}, mapO (cE g N k sc) es = some es' → PEs X cf Ex es es'
  | [], es', he => by cases he; exact .nil
  | e :: es, es', he => by
    simp only [mapO] at he
    cases h1 : cE g N k sc e with
    | none => rw [h1] at he; cases he
    | some e1 =>
      cases h2 : mapO (cE g N k sc) es with
      | none => rw [h1, h2] at he; cases he
      | some es1 =>
        rw [h1, h2] at he
        cases he
        exact .cons (h h1).1 (h h1).2 (pb_list h h2)
theorem mapO_one {α β : Type} {f : α → Option β} {es : List α} {a : β} (h : mapO f es = some [a]) : ∃ e, es = [e] ∧ f e = some a := by
  match es, h with
  | [], h => cases h
  | [e], h =>
    simp only [mapO] at h
    cases h1 : f e with
    | none => rw [h1] at h; cases h
    | some b => rw [h1] at h; cases h; exact ⟨e, rfl, h1⟩
  | e :: e2 :: es, h =>
    simp only [mapO] at h
    cases h1 : f e with
    | none => rw [h1] at h; cases h
    | some b =>
      rw [h1] at h
      cases h2 : f e2 with
      | none => rw [h2] at h; cases h
      | some c =>
        rw [h2] at h
        cases h3 : mapO f es with
        | none => rw [h3] at h; cases h
        | some cs => rw [h3] at h; cases h
theorem mapO_nil {α β : Type} {f : α → Option β} {es : List α} (h : mapO f es = some []) : es = [] := by
  match es, h with
  | [], _ => rfl
  | e :: es, h =>
    simp only [mapO] at h
    cases h1 : f e with
    | none => rw [h1] at h; cases h
    | some b =>
      rw [h1] at h
      cases h3 : mapO f es with
      | none => rw [h3] at h; cases h
      | some cs => rw [h3] at h; cases h
theorem mapO_two {α β : Type} {f : α → Option β} {es : List α} {a b : β} (h : mapO f es = some [a, b]) : ∃ e d, es = [e, d] ∧ f e = some a ∧ f d = some b := by
  match es, h with
  | [], h => cases h
  | e :: es, h =>
    simp only [mapO] at h
    cases h1 : f e with
    | none => rw [h1] at h; cases h
    | some c =>
      rw [h1] at h
      cases h3 : mapO f es with
      | none => rw [h3] at h; cases h
      | some cs =>
        rw [h3] at h
        cases h
        obtain ⟨d, rfl, hd⟩ := mapO_one h3
        exact ⟨e, d, rfl, h1, hd⟩
theorem mapO_emp {α β : Type} {f : α → Option β} {es : List α} {es' : List β} (h : mapO f es = some es') (hn : ¬ es.isEmpty = true) : es ≠ [] := fun z => by subst z; exact hn rfl
theorem behind_blk {s : Shared} {H : Hp} {scope : Scope} {C : Addr} {cl : List (Str × Addr)} {fp : List Addr} : NkOk (X.blk s H scope (compEnvC scope cl C X.env) fp) (ownNm scope) := by
  intro x hx
  unfold ownNm at hx
  split at hx
  · rename_i e
    have e2 : (compEnvC scope cl C X.env).scope.names.lookup x = some .local := L2.lookup_relS_keep (sc := X.env.scope) (by decide) e
    exact ⟨.inl e2, .inr e2⟩
  · rename_i e
    have e2 : (compEnvC scope cl C X.env).scope.names.lookup x = some .cell := L2.lookup_relS_keep (sc := X.env.scope) (by decide) e
    refine ⟨.inr e2, .inl ?_⟩
    show (scope.names.lookup x == some .cell) = true
    rw [e]; rfl
  · cases hx
theorem cI_fold {N : List Str} {sc : Scope} {k : Nat} {t e : Expr} {i : I} (h : cI g N k sc t e = some i) : ∀ (env : Env) (x : Value), foldedSetIterable e env x = pure x := by
  cases k with
  | zero => cases h
  | succ k => cases e <;> first | (intro _ _; rfl) | (simp only [cI] at h; cases h)
theorem pb_plain {e : Expr} {e' : E} (h : PE X e (tEX X cf Ex e')) (he : ∀ whole, isTrue e X.env whole = (do let v ← whole; standAt e.pos; holding [v] (truthy v))) : PB X cf Ex e e' := ⟨h, pt_plain h he⟩
theorem po_bnd {N : List Str} {sc : Scope} {k : Nat} (ih : ∀ {e : Expr} {e' : E}, cE g N k sc e = some e' → PB X cf Ex e e') {o : Option Expr} {l : E} (h : bndC (cE g N k sc) o = some l) : PO X o (tBnd X cf Ex l) := by
  cases o with
  | none => cases h; exact po_none'
  | some e =>
    simp only [bndC] at h
    cases h1 : cE g N k sc e with
    | none => rw [h1] at h; cases h
    | some e1 =>
      rw [h1] at h
      simp only at h
      split at h
      · cases h
      · rename_i hb
        cases h
        exact po_some' (by simpa using hb) (ih h1).1
/-- THE EXPRESSIONS -/
theorem exprs_ok : ∀ (k : Nat), (∀ {X : L2.Cx} {g : Cg} {cf : CF} {Ex : L2.WX} (o : XO X g cf Ex) {e : Expr} {e' : E}, cE g X.N k X.env.scope e = some e' → PB X cf Ex e e') ∧
    (∀ {X : L2.Cx} {g : Cg} {cf : CF} {Ex : L2.WX} (o : XO X g cf Ex) {t e : Expr} {i : I}, cI g X.N k X.env.scope t e = some i → PI X t e (tIX X cf Ex i))
  | 0 => ⟨fun _ _ _ h => (nomatch h), fun _ _ _ _ h => (nomatch h)⟩
  | k + 1 => by
    obtain ⟨ihE, ihI⟩ := exprs_ok k
    refine ⟨fun {X g cf Ex} o {e e'} h => ?_, fun {X g cf Ex} o {t e i} h => ?_⟩
    · have ih : ∀ {e : Expr} {e' : E}, cE g X.N k X.env.scope e = some e' → PB X cf Ex e e' := fun h => ihE o h
      rw [cE.eq_def] at h
      simp only at h
      split at h
      · cases h
        exact pb_plain (PE.imp L2.pe_int fun σ H Q h => tE_con (fun _ _ => .int _) h) fun _ => rfl
      · cases h
        exact pb_plain (PE.imp L2.pe_bl fun σ H Q h => tE_con (fun _ _ => .bl _) h) fun _ => rfl
      · cases h
        exact pb_plain (PE.imp L2.pe_non fun σ H Q h => tE_con (fun _ _ => .non) h) fun _ => rfl
      · cases h
        exact pb_plain (PE.imp L2.pe_str fun σ H Q h => tE_con (fun _ _ => .str _) h) fun _ => rfl
      · -- a name
        rename_i x p
        split at h
        · rename_i hp
          split at h
          · rename_i i hi
            split at h
            · rename_i hv
              cases h
              exact pb_plain (pe_var' hp (ixOf_get hi) hv) fun _ => rfl
            · cases h
          · split at h
            · rename_i hg
              split at h
              · rename_i n hn
                cases h
                exact pb_plain (pe_tyNm o hp hg hn) fun _ => rfl
              · obtain ⟨v, hv, rfl⟩ := Option.map_eq_some_iff.mp h
                exact pb_plain (pe_gcon o hp hg hv) fun _ => rfl
            · cases h
        · cases h
      · split at h
        · rename_i h1 h2 h3
          cases h
          exact pb_plain (pe_bin2 o h1 (ih h2).1 (ih h3).1) fun _ => rfl
        · cases h
      · obtain ⟨a', ha, rfl⟩ := Option.map_eq_some_iff.mp h
        exact pb_plain (pe_neg' (ih ha).1) fun _ => rfl
      · obtain ⟨a', ha, rfl⟩ := Option.map_eq_some_iff.mp h
        exact pe_not' (ih ha).1 (ih ha).2
      · split at h
        · cases h
        · rename_i hn
          obtain ⟨as, ha, rfl⟩ := Option.map_eq_some_iff.mp h
          obtain ⟨q1, q2⟩ := pe_and' (pos := _) (pb_list ih ha) (mapO_emp ha hn)
          exact ⟨q1, q2.pt⟩
      · split at h
        · cases h
        · rename_i hn
          obtain ⟨as, ha, rfl⟩ := Option.map_eq_some_iff.mp h
          obtain ⟨q1, q2⟩ := pe_or' (pos := _) (pb_list ih ha) (mapO_emp ha hn)
          exact ⟨q1, q2.pt⟩
      · split at h
        · rename_i hb
          obtain ⟨a', ha, rfl⟩ := Option.map_eq_some_iff.mp h
          exact pe_isN' hb (ih ha).1
        · split at h
          · rename_i c hb
            obtain ⟨a', ha, rfl⟩ := Option.map_eq_some_iff.mp h
            exact pe_isB' hb (ih ha).1
          · cases h
      · split at h
        · rename_i hb
          obtain ⟨a', ha, rfl⟩ := Option.map_eq_some_iff.mp h
          exact pe_notN' hb (ih ha).1
        · split at h
          · rename_i c hb
            obtain ⟨a', ha, rfl⟩ := Option.map_eq_some_iff.mp h
            exact pe_notB' hb (ih ha).1
          · cases h
      · split at h
        · cases h
        · rename_i hb
          split at h
          · rename_i h1 h2 h3
            cases h
            exact pe_cmp' o (by simpa using hb) h1 (ih h2).1 (ih h3).1
          · cases h
      · split at h
        · cases h
        · rename_i hb
          split at h
          · rename_i h1 h2 h3 h4 h5
            cases h
            exact pe_chain' o (by simpa using hb) h1 h2 (ih h3).1 (ih h4).1 (ih h5).1
          · cases h
      · split at h
        · rename_i h1 h2 h3
          cases h
          exact ⟨pe_ite' (ih h1).2 (ih h2).1 (ih h3).1, pt_ite (ih h1).2 (ih h2).2 (ih h3).2⟩
        · cases h
      · obtain ⟨as, ha, rfl⟩ := Option.map_eq_some_iff.mp h
        exact pb_plain (pe_tup' (PEs.pa ha (pb_list ih ha))) fun _ => rfl
      · obtain ⟨as, ha, rfl⟩ := Option.map_eq_some_iff.mp h
        exact pb_plain (pe_list' (PEs.pa ha (pb_list ih ha))) fun _ => rfl
      · cases h
        exact pb_plain pe_dnew fun _ => rfl
      · split at h
        · rename_i es hd
          split at h
          · rename_i hz
            rw [Bool.and_eq_true, decide_eq_true_eq] at hz
            obtain ⟨as, ha, rfl⟩ := Option.map_eq_some_iff.mp h
            exact pb_plain (pe_disp' hd (by rintro rfl; exact absurd hz.1 (by decide)) hz.2 (pb_list ih ha)) fun _ => rfl
          · cases h
        · cases h
      · split at h
        · rename_i h1 h2 h3
          cases h
          exact pb_plain (pe_slice' (ih h1).1 (po_bnd ih h2) (po_bnd ih h3)) fun _ => rfl
        · cases h
      · split at h
        · rename_i hs
          obtain ⟨a', ha, rfl⟩ := Option.map_eq_some_iff.mp h
          exact pb_plain (pe_revs hs (ih ha).1) fun _ => rfl
        · cases h
      · split at h
        · cases h
        · rename_i hs
          split at h
          · rename_i q hq
            obtain ⟨a', ha, rfl⟩ := Option.map_eq_some_iff.mp h
            exact pb_plain (pe_didx o (by simpa using hs) hq (ih ha).1) fun _ => rfl
          · split at h
            · rename_i h1 h2
              cases h
              exact pb_plain (pe_ix' o (by simpa using hs) (ih h1).1 (ih h2).1) fun _ => rfl
            · cases h
      · -- a call of a name
        split at h
        · rename_i q hq
          split at h
          · rename_i hp
            rw [Bool.and_eq_true] at hp
            split at h
            · rename_i h1 h2
              cases h
              exact pb_plain (pe_zipL o hq hp.1 hp.2 h1 h2 (ih h1).1 (ih h2).1) fun _ => rfl
            · cases h
          · cases h
        split at h
        · rename_i hp
          split at h
          · cases h
          · rename_i as ha
            split at h
            · rename_i hg
              split at h
              · rename_i hf
                cases h
                exact pb_plain (pe_call' o hp hg hf ha (PEs.pa ha (pb_list ih ha))) fun _ => rfl
              · split at h
                · rename_i a
                  obtain ⟨p, hb, rfl⟩ := Option.map_eq_some_iff.mp h
                  obtain ⟨e1, rfl, h1⟩ := mapO_one ha
                  exact pb_plain (pe_blt1 o hp hg hb h1 (ih h1).1) fun _ => rfl
                · rename_i a b
                  obtain ⟨p, hb, rfl⟩ := Option.map_eq_some_iff.mp h
                  obtain ⟨e1, e2, rfl, h1, h2⟩ := mapO_two ha
                  exact pb_plain (pe_blt2 o hp hg hb h1 h2 (ih h1).1 (ih h2).1) fun _ => rfl
                · cases h
            · split at h
              · rename_i i hi
                split at h
                · rename_i hv
                  rw [Bool.and_eq_true] at hv
                  cases h
                  exact pb_plain (pe_callL' o hv.2 hp (ixOf_get hi) hv.1 ha (PEs.pa ha (pb_list ih ha))) fun _ => rfl
                · cases h
              · cases h
        · cases h
      · -- by keywords
        split at h
        · rename_i hp
          simp only [Bool.and_eq_true, decide_eq_true_eq] at hp
          obtain ⟨⟨⟨hp, hg⟩, hf⟩, hst⟩ := hp
          split at h
          · rename_i as bs ks h1 h2 h3
            split at h
            · rename_i pm hk
              cases h
              exact pb_plain (pe_callK' o hp hg hf h1 h2 h3 hk (PEs.pa h1 (pb_list ih h1)) (kwE_pk h2 (pb_list ih h2))) fun _ => rfl
            · cases h
          · cases h
        · split at h
          · rename_i q hq
            split at h
            · rename_i hp
              rw [Bool.and_eq_true] at hp
              split at h
              · rename_i h1 h2
                cases h
                exact pb_plain (pe_maxD o hq hp.1 hp.2 h1 (ih h1).1 (ih h2).1) fun _ => rfl
              · cases h
            · cases h
          · cases h
      · -- a method
        split at h
        · rename_i hp
          rw [Bool.and_eq_true, Bool.not_eq_true'] at hp
          split at h
          · rename_i h1 ha
            split at h
            · obtain ⟨e1, rfl, h2⟩ := mapO_one ha
              split at h
              · rename_i d hd
                cases h
                unfold dedM1 at hd
                split at hd
                · rename_i hm
                  cases hd
                  subst hm
                  exact pb_plain (pe_append hp.1 hp.2 h1 h2 (ih h1).1 (ih h2).1) fun _ => rfl
                · split at hd
                  · rename_i hm
                    cases hd
                    subst hm
                    exact pb_plain (pe_popAt hp.1 hp.2 h1 h2 (ih h1).1 (ih h2).1) fun _ => rfl
                  · cases hd
              · obtain ⟨p, hm, rfl⟩ := Option.map_eq_some_iff.mp h
                exact pb_plain (pe_sm hm hp.1 hp.2 h1 h2 (ih h1).1 (ih h2).1) fun _ => rfl
            · obtain ⟨d, hd, rfl⟩ := Option.map_eq_some_iff.mp h
              have := mapO_nil ha
              subst this
              unfold dedM0 at hd
              split at hd
              · rename_i hm
                cases hd
                subst hm
                exact pb_plain (pe_pop hp.1 hp.2 h1 (ih h1).1) fun _ => rfl
              · split at hd
                · rename_i hm
                  cases hd
                  subst hm
                  exact pb_plain (pe_clear hp.1 hp.2 h1 (ih h1).1) fun _ => rfl
                · split at hd
                  · rename_i hm
                    cases hd
                    subst hm
                    exact pb_plain (pe_reverse hp.1 hp.2 h1 (ih h1).1) fun _ => rfl
                  · cases hd
            · obtain ⟨e1, e2, rfl, h2, h3⟩ := mapO_two ha
              split at h
              · rename_i hm
                cases h
                subst hm
                exact pb_plain (pe_dget o hp.1 hp.2 h1 h2 h3 (ih h1).1 (ih h2).1 (ih h3).1) fun _ => rfl
              obtain ⟨d, hd, rfl⟩ := Option.map_eq_some_iff.mp h
              unfold dedM2 at hd
              split at hd
              · rename_i hm
                cases hd
                subst hm
                exact pb_plain (pe_insert hp.1 hp.2 h1 h2 h3 (ih h1).1 (ih h2).1 (ih h3).1) fun _ => rfl
              · cases hd
            · cases h
          · cases h
        · cases h
      · -- a comprehension
        rename_i elt tgt it ifs scope pos
        split at h
        · rename_i own hown
          split at h
          · rename_i hb
            split at h
            · rename_i it' t' cs e1 h1 h2 h3 h4
              split at h
              · rename_i hl
                cases h
                refine pb_plain (pe_lc' o (L2.blkOk_by hb) (ihI o h1) (cI_fold h1 _) hl h2 fun s H C cl fp => ?_) fun _ => rfl
                have ob := o.blk s H scope (compEnvC scope cl C X.env) fp
                have ihB : ∀ {e : Expr} {e' : E}, cE g X.N k (L2.relS scope X.env.scope) e = some e' → PB (X.blk s H scope (compEnvC scope cl C X.env) fp) cf noEx e e' := fun h => ihE ob h
                exact ⟨pg_T ob behind_blk k h2, pb_list ihB h3, (ihB h4).1⟩
              · cases h
            · cases h
          · cases h
        · cases h
      · -- a comprehension of two
        rename_i elt tgt it ifs tgt1 it1 ifs1 scope pos
        split at h
        · rename_i own hown
          split at h
          · rename_i hb
            split at h
            · rename_i it' t' cs it1' t1' cs1 e1 h1 h2 h3 h4 h5 h6 h7
              split at h
              · rename_i hl
                cases h
                refine pb_plain (pe_lc2' o (L2.blkOk_by hb) (ihI o h1) (cI_fold h1 _) (cI_fold h4) hl.1 hl.2 h2 h5 fun s H C cl fp => ?_) fun _ => rfl
                have ob := o.blk s H scope (compEnvC scope cl C X.env) fp
                have ihB : ∀ {e : Expr} {e' : E}, cE g X.N k (L2.relS scope X.env.scope) e = some e' → PB (X.blk s H scope (compEnvC scope cl C X.env) fp) cf noEx e e' := fun h => ihE ob h
                exact ⟨pg_T ob behind_blk k h2, pb_list ihB h3, ihI ob h4, pg_T ob behind_blk k h5, pb_list ihB h6, (ihB h7).1⟩
              · cases h
            · cases h
          · cases h
        · cases h
      · cases h
    · have ih : ∀ {e : Expr} {e' : E}, cE g X.N k X.env.scope e = some e' → PB X cf Ex e e' := fun h => ihE o h
      have one : ∀ {e : Expr} {i : I}, (cE g X.N k X.env.scope e).map .of = some i → PI X t e (tIX X cf Ex i) := fun h => by
        obtain ⟨a', ha, rfl⟩ := Option.map_eq_some_iff.mp h
        exact pi_of' (ih ha).1
      rw [cI.eq_def] at h
      simp only at h
      split at h
      · rename_i f np args pos
        split at h
        · rename_i hc
          simp only [Bool.and_eq_true, Bool.not_eq_true', decide_eq_false_iff_not] at hc
          obtain ⟨⟨⟨hp, hg⟩, hf⟩, hw⟩ := hc
          split at h
          · cases h
          · rename_i as ha
            split at h
            · rename_i hn
              subst hn
              split at h
              · cases h
                obtain ⟨e1, rfl, h1⟩ := mapO_one ha
                exact PI.imp (L2.pi_range1 (gl_of hg) (o.bn _ (by decide)) (L2.pa_cons (ih h1).1 L2.pa_nil (cE_star h1 [] X.env)) (cE_star h1 [] X.env)) fun σ H R h => tI_range1 h
              · cases h
                obtain ⟨e1, e2, rfl, h1, h2⟩ := mapO_two ha
                exact PI.imp (L2.pi_range2 (gl_of hg) (o.bn _ (by decide)) (L2.pa_cons (ih h1).1 (L2.pa_cons (ih h2).1 L2.pa_nil (cE_star h2 [] X.env)) (cE_star h1 [e2] X.env)) (by rw [cE_star h1, cE_star h2]; rfl) (cE_star h2 [] X.env)) fun σ H R h => tI_range2 h
              · cases h
            · split at h
              · rename_i hn
                subst hn
                split at h
                · cases h
                  obtain ⟨e1, rfl, h1⟩ := mapO_one ha
                  exact PI.imp (L2.pi_enum (gl_of hg) (o.bn _ (by decide)) (L2.pa_cons (ih h1).1 L2.pa_nil (cE_star h1 [] X.env)) (cE_star h1 [] X.env)) fun σ H R h => tI_enum h
                · cases h
              · split at h
                · rename_i hn
                  subst hn
                  split at h
                  · cases h
                    obtain ⟨e1, e2, rfl, h1, h2⟩ := mapO_two ha
                    exact PI.imp (RZ.pi_zipA (gl_of hg) (o.bn _ (by decide)) (L2.pa_cons (ih h1).1 (L2.pa_cons (ih h2).1 L2.pa_nil (cE_star h2 [] X.env)) (cE_star h1 [e2] X.env)) (cE_star h1 [e2] X.env) (by rw [cE_star h2]; rfl)) fun σ H R h => tI_zip h
                  · cases h
                · split at h
                  · cases h
                    obtain ⟨e1, rfl, h1⟩ := mapO_one ha
                    have hn : f = "reversed" := by simp_all
                    subst hn
                    exact PI.imp (RT.pi_revA (gl_of hg) (o.bn _ (by decide)) (ih h1).1 (cE_star h1 [] X.env)) fun σ H R h => tI_rev h
                  · cases h
        · exact one h
      · cases h
      · exact one h
end
end TP

set_option Elab.async false
set_option linter.all false
set_option maxRecDepth 100000
set_option maxHeartbeats 4000000
/-! Sal9: statements. -/
namespace TP
open PySem PySem.Spec PyProof.Rows
open L2 (V Hp HO Key upd upd_same upd_ne SqL SqT Rd OpR UnR CallR IxR Vals Inv PE PT PW PA PI PG PGs PO PTs PS PSs Vis Gl Loc It Ends)

/-! ### compiling -/
def isCompE : Expr → Bool
  | .ListComp _ _ _ _ => true
  | .SetComp _ _ _ _ => true
  | .DictComp _ _ _ _ _ => true
  | _ => false
def isStarE : Expr → Bool
  | .Starred .. => true
  | _ => false
/-- the order of several stores at once -/
def swS (sc : Scope) (ts vs : List Expr) : Option (Option (List Str)) :=
  if !(ts.length == 2 || ts.length == 3) || vs.length != ts.length then some none
  else if vs.any isStarE then some none
  else
    let line := (ts.head?.map (·.pos.line)).getD 0
    let names := ts.filterMap fun
      | .Name id pos => if sc.names.lookup id == some .local && pos.line == line then some id else none
      | _ => none
    if names.length != ts.length || names.eraseDups.length != names.length then some none
    else if vs.all (foldedForSure 8) then some none
    else if vs.all (constantsAlone 8) then none
    else some (some names)
theorem swS_ok {env : Env} (hk : env.scope.kind = .function) {ts vs : List Expr} {r : Option (List Str)} (h : swS env.scope ts vs = some r) {k k2 : Nat} {p p2 : Pos} : swappedStores [.Tuple ts k p] (.Tuple vs k2 p2) env = pure r := by
  have hb : env.blockKind = .function := by unfold Env.blockKind; rw [hk]; rfl
  have hs : isStarE = (fun | .Starred .. => true | _ => false : Expr → Bool) := rfl
  unfold swS at h
  unfold swappedStores
  simp only [hb]
  split at h
  · rename_i h1
    cases h
    rw [if_pos (by simpa using h1)]
  · rename_i h1
    rw [if_neg (by simpa using h1)]
    by_cases c2 : vs.any isStarE = true
    · rw [if_pos c2] at h
      cases h
      exact if_pos c2
    · rw [if_neg c2] at h
      refine (if_neg c2).trans ?_
      simp only at h
      change (if _ = true then pure none else _) = _
      split at h
      · rename_i c3
        cases h
        exact if_pos c3
      · rename_i c3
        refine (if_neg c3).trans ?_
        split at h
        · rename_i c4
          cases h
          exact if_pos c4
        · rename_i c4
          refine (if_neg c4).trans ?_
          split at h
          · cases h
          · rename_i c5
            cases h
            exact if_neg c5
theorem swNm {env : Env} {x : Str} {p : Pos} {l : Nat} (hk : env.scope.kind = .function) {e : Expr} : 
    swapsWith e (some (.Name x p)) l env = pure (match e with
      | .ListComp _ _ s _ => env.scope.names.lookup x == some .local && p.line == e.pos.line && !(s.names.any fun (n, k) => n == x && (k == .local || k == .cell))
      | .SetComp _ _ s _ => env.scope.names.lookup x == some .local && p.line == e.pos.line && !(s.names.any fun (n, k) => n == x && (k == .local || k == .cell))
      | .DictComp _ _ _ s _ => env.scope.names.lookup x == some .local && p.line == e.pos.line && !(s.names.any fun (n, k) => n == x && (k == .local || k == .cell))
      | _ => false) := by
  have hb : env.blockKind = .function := by unfold Env.blockKind; rw [hk]; rfl
  cases e <;> first | rfl | (unfold swapsWith; simp only [hb]; rfl)
theorem swTup {env : Env} {ts : List Expr} {k : Nat} {p : Pos} {l : Nat} {e : Expr} : swapsWithSole [.Tuple ts k p] e l env = pure false := by
  cases e <;> rfl
theorem swSub {env : Env} {a i : Expr} {p : Pos} {l : Nat} {e : Expr} : swapsWithSole [.Subscript a i p] e l env = pure false := by
  cases e <;> rfl
theorem cE_assign {g : Cg} {N : List Str} {k : Nat} {sc : Scope} {i : Expr} {i' : E} (h : cE g N k sc i = some i') : ∀ (o : Expr) (pos : Pos) (env : Env) (v : Value), assign (.Subscript o i pos) env v = (do
      let ov ← holding [v] (eval o env)
      let iv ← holding [v, ov] (eval i env)
      standAt pos
      holding [v, ov, iv] (setItem ov iv v)
      release [v, ov, iv] []) := by
  cases k with
  | zero => cases h
  | succ k => cases i <;> first | (intro _ _ _ _; rfl) | (simp only [cE] at h; cases h)
theorem swNo {env : Env} {l : Nat} {e : Expr} (h : isCompE e = false) : swapsWith e none l env = pure false := by
  cases e <;> first | rfl | cases h
def isTupE : Expr → Bool
  | .Tuple _ _ _ => true
  | _ => false
theorem swsNo {env : Env} {t e : Expr} (h : isTupE e = false) : swappedStores [t] e env = pure none := by
  cases e <;> first | (cases t <;> rfl) | cases h
theorem swsSub {env : Env} {a i : Expr} {p : Pos} {e : Expr} : swappedStores [.Subscript a i p] e env = pure none := by
  cases e <;> rfl

/-- name = [..] on one line -/
def lcSw (sc : Scope) (x : Str) (p : Pos) (e : Expr) : Bool := match e with
  | .ListComp _ _ s _ => sc.names.lookup x == some .local && p.line == e.pos.line && !(s.names.any fun (n, k) => n == x && (k == .local || k == .cell))
  | .SetComp _ _ s _ => sc.names.lookup x == some .local && p.line == e.pos.line && !(s.names.any fun (n, k) => n == x && (k == .local || k == .cell))
  | .DictComp _ _ _ s _ => sc.names.lookup x == some .local && p.line == e.pos.line && !(s.names.any fun (n, k) => n == x && (k == .local || k == .cell))
  | _ => false
def augP : Operator → Option P
  | .Add => some .add
  | .Sub => some .sub
  | _ => none
mutual
def cS (g : Cg) (N : List Str) (ok : Nat → Bool) : Nat → Scope → Stmt → Option S
  | 0, _, _ => none
  | k + 1, sc, st => match st with
    | .Pass _ => some .pass
    | .Break _ => some .brk
    | .Continue _ => some .cont
    | .Expr e _ => if isCompE e then none else (cE g N k sc e).map .expr
    | .Return none _ => some .retN
    | .Return (some e) _ => (cE g N k sc e).map .ret
    | .If c a b _ => (match cE g N k sc c, cSs g N ok k sc a, cSs g N ok k sc b with
      | some c', some a', some b' => some (.ite c' a' b')
      | _, _, _ => none)
    | .While c b [] _ => (match cE g N k sc c, cSs g N ok k sc b with
      | some c', some b' => some (.while c' b')
      | _, _ => none)
    | .For t it b [] _ => (match cI g N k sc t it, cT ok (ownNm sc) N k t, cSs g N ok k sc b with
      | some it', some t', some b' => some (.for t' it' b')
      | _, _, _ => none)
    | .AugAssign (.Name x _) op e _ => (match ixOf x N, augP op, cE g N k sc e with
      | some i, some p, some e' => if ok i && ownNm sc x then some (.aug i p e') else none
      | _, _, _ => none)
    | .Assign [.Name x p] e _ => (match ixOf x N, cE g N k sc e with
      | some i, some e' => if ok i && ownNm sc x then some (.asg (.nm i) e') else none
      | _, _ => none)
    | .Assign [.Subscript o i _] e _ => (match cE g N k sc o, cE g N k sc i, cE g N k sc e with
      | some o', some i', some e' => some (.setix o' i' e')
      | _, _, _ => none)
    | .Assign [.Tuple ts tk tp] e _ => (match starT ok (ownNm sc) N ts with
    | some q => if isTupE e then none else (cE g N k sc e).map fun e' => .asgR q.1 q.2 e'
    | none => match isTupE e with
      | false => (match cT ok (ownNm sc) N k (.Tuple ts tk tp), cE g N k sc e with
        | some t', some e' => some (.asg t' e')
        | _, _ => none)
      | true => (match e with
        | .Tuple vs _ _ => (match swS sc ts vs with
          | none => none
          | some none => (match cT ok (ownNm sc) N k (.Tuple ts tk tp), cE g N k sc e with
            | some t', some e' => some (.asg t' e')
            | _, _ => none)
          | some (some names) => (match ts, vs with
            | [.Name x _, .Name y _], [a, b] => (match ixOf x N, ixOf y N, cE g N k sc a, cE g N k sc b with
              | some i, some j, some a', some b' => if (ok i && ok j && decide (i ≠ j)) && decide (names = [x, y]) && (sc.names.lookup x == some .local) && (sc.names.lookup y == some .local) then some (.par [i, j] [a', b']) else none
              | _, _, _, _ => none)
            | [.Name x _, .Name y _, .Name z _], [a, b, c] => (match ixOf x N, ixOf y N, ixOf z N, cE g N k sc a, cE g N k sc b, cE g N k sc c with
              | some i, some j, some l, some a', some b', some c' => if (ok i && ok j && ok l && decide (i ≠ j) && decide (i ≠ l) && decide (j ≠ l)) && decide (names = [x, y, z]) && (sc.names.lookup x == some .local) && (sc.names.lookup y == some .local) && (sc.names.lookup z == some .local) then some (.par [i, j, l] [a', b', c']) else none
              | _, _, _, _, _, _ => none)
            | _, _ => none))
        | _ => none))
    | _ => none
def cSs (g : Cg) (N : List Str) (ok : Nat → Bool) : Nat → Scope → List Stmt → Option (List S)
  | 0, _, _ => none
  | _ + 1, _, [] => some []
  | k + 1, sc, st :: r => match cS g N ok k sc st, cSs g N ok k sc r with
    | some s', some r' => some (s' :: r')
    | none, some r' => some (.dead :: r')
    | _, none => none
end

/-! ### readings -/
def keepS (ok : Nat → Bool) (σ σ' : L2.St) : Prop := σ'.length = σ.length ∧ ∀ j, ok j = false → σ'[j]? = σ[j]?
theorem keepS.refl {ok : Nat → Bool} {σ : L2.St} : keepS ok σ σ := ⟨rfl, fun _ _ => rfl⟩
theorem keepS.trans {ok : Nat → Bool} {σ τ υ : L2.St} (a : keepS ok σ τ) (b : keepS ok τ υ) : keepS ok σ υ := ⟨b.1.trans a.1, fun j h => (b.2 j h).trans (a.2 j h)⟩
theorem keepS.set {ok : Nat → Bool} {σ : L2.St} {i : Nat} {x : Option V} (h : ok i = true) : keepS ok σ (σ.set i x) := ⟨by simp, fun j hj => by
  rw [List.getElem?_set_ne]
  intro z
  subst z
  rw [h] at hj
  cases hj⟩
section
variable (K : PySem.W.Frag) (mg : Str → Option Value) (Ex : L2.WX) (ok : Nat → Bool)
def flP (D : Ends) (G G' : Gh) (σ' : L2.St) (H' : Hp) : Fl → Prop
  | .nx => D.nx σ' H'
  | .br => D.bk σ' H'
  | .ct => D.ct σ' H'
  | .rt r => ∀ x, RVR K mg G G' H' [] r x → D.rt x H'
def xcS (x : PV) (s' : SS) (G : Gh) (σ : L2.St) (H : Hp) : Prop := ∀ G' σ' H' C d, Rel K mg G' s' σ' H' → Step G H G' H' → keepS ok σ σ' → ExnR K mg G' H' x C d → Ex C d σ' H'
/-- how a run of statements ends -/
def EndS (D : Ends) (G : Gh) (σ : L2.St) (H : Hp) (r : Res Fl) : Prop :=
  (∃ fl s', r = .ok fl s' ∧ ∀ G' σ' H', Rel K mg G' s' σ' H' → Step G H G' H' → keepS ok σ σ' → flP K mg D G G' σ' H' fl) ∨ (∃ x s', r = .exc x s' ∧ xcS K mg Ex ok x s' G σ H)
def tS (f : SS → Res Fl) : L2.TS := fun D σ H => ∃ G s, Rel K mg G s σ H ∧ EndS K mg Ex ok D G σ H (f s)
end
section
variable {K : PySem.W.Frag} {mg : Str → Option Value} {Ex : L2.WX} {ok : Nat → Bool} {cf : CF} {G : Gh} {H : Hp} {σ : L2.St} {D : Ends}
theorem xcS.xcP {x : PV} {s' : SS} (h : xcS K mg Ex ok x s' G σ H) : xcP K mg Ex x s' G σ H := fun G' H' C d R st e => h G' σ H' C d R st .refl e
theorem flP.back {G1 G2 : Gh} {H1 H2 : Hp} {fl : Fl} (h : flP K mg D G G2 σ H2 fl) (st : Step G H G1 H1) : flP K mg D G1 G2 σ H2 fl := by
  cases fl with
  | nx => exact h
  | br => exact h
  | ct => exact h
  | rt r => exact fun x rv => h x (rv.back st)
theorem EndS.back {r : Res Fl} {G1 : Gh} {H1 : Hp} {σ1 : L2.St} (h : EndS K mg Ex ok D G σ H r) (st : Step G H G1 H1) (k : keepS ok σ σ1) : EndS K mg Ex ok D G1 σ1 H1 r := by
  rcases h with ⟨fl, s', e, h⟩ | ⟨x, s', e, h⟩
  · exact .inl ⟨fl, s', e, fun G' σ' H' R s2 k2 => (h G' σ' H' R (st.trans s2) (k.trans k2)).back st⟩
  · exact .inr ⟨x, s', e, fun G' σ' H' C d R s2 k2 q => h G' σ' H' C d R (st.trans s2) (k.trans k2) q⟩
theorem EndS.bad (h : EndS K mg Ex ok D G σ H .bad) : False := by
  rcases h with ⟨_, _, z, _⟩ | ⟨_, _, z, _⟩ <;> cases z
theorem EndS.exc {x : PV} {s' : SS} (h : EndS K mg Ex ok D G σ H (.exc x s')) : xcS K mg Ex ok x s' G σ H := by
  rcases h with ⟨_, _, z, _⟩ | ⟨_, _, z, h⟩ <;> cases z
  exact h
theorem EndS.done {fl : Fl} {s' : SS} (h : EndS K mg Ex ok D G σ H (.ok fl s')) : ∀ G' σ' H', Rel K mg G' s' σ' H' → Step G H G' H' → keepS ok σ σ' → flP K mg D G G' σ' H' fl := by
  rcases h with ⟨_, _, z, h⟩ | ⟨_, _, z, _⟩ <;> cases z
  exact h
/-- an expression first -/
theorem tE_then {e : E} {s : SS} {F : RV → SS → Res Fl} {Q : L2.VK} (R : Rel K mg G s σ H) (h : EndS K mg Ex ok D G σ H ((evalE cf e s).bind F))
    (q : ∀ r s1 G1 H1 x, EndS K mg Ex ok D G σ H (F r s1) → Rel K mg G1 s1 σ H1 → Step G H G1 H1 → RVR K mg G G1 H1 σ r x → Q x H1) : tE K mg cf Ex e σ H Q := by
  refine ⟨G, s, R, ?_⟩
  cases e1 : evalE cf e s with
  | bad => rw [e1] at h; exact h.bad.elim
  | exc x s1 => rw [e1] at h; exact .inr ⟨x, s1, rfl, h.exc.xcP⟩
  | ok r s1 =>
    rw [e1] at h
    exact .inl ⟨r, s1, rfl, fun G1 H1 x R1 st1 rv => q r s1 G1 H1 x h R1 st1 rv⟩
theorem tA_then {e : List E} {s : SS} {F : List RV → SS → Res Fl} {Q : List V → Hp → Prop} (R : Rel K mg G s σ H) (h : EndS K mg Ex ok D G σ H ((evalEs cf e s).bind F))
    (q : ∀ r s1 G1 H1 x, EndS K mg Ex ok D G σ H (F r s1) → Rel K mg G1 s1 σ H1 → Step G H G1 H1 → RVRs K mg G G1 H1 σ r x → Q x H1) : tA K mg cf Ex e σ H Q := by
  refine ⟨G, s, R, ?_⟩
  cases e1 : evalEs cf e s with
  | bad => rw [e1] at h; exact h.bad.elim
  | exc x s1 => rw [e1] at h; exact .inr ⟨x, s1, rfl, h.exc.xcP⟩
  | ok r s1 =>
    rw [e1] at h
    exact .inl ⟨r, s1, rfl, fun G1 H1 x R1 st1 rv => q r s1 G1 H1 x h R1 st1 rv⟩
theorem tT_then {e : E} {s : SS} {F : Bool → SS → Res Fl} {Q : Bool → Hp → Prop} (R : Rel K mg G s σ H) (h : EndS K mg Ex ok D G σ H ((evalE cf e s).bind fun r s1 => match testR s1 r with | some b => F b s1 | none => .bad))
    (q : ∀ b s1 G1 H1, EndS K mg Ex ok D G σ H (F b s1) → Rel K mg G1 s1 σ H1 → Step G H G1 H1 → Q b H1) : tT K mg cf Ex e σ H Q := by
  refine ⟨G, s, R, ?_⟩
  cases e1 : evalE cf e s with
  | bad => rw [e1] at h; exact h.bad.elim
  | exc x s1 => rw [e1] at h; exact .inr ⟨x, s1, rfl, h.exc.xcP⟩
  | ok r s1 =>
    rw [e1] at h
    have h : EndS K mg Ex ok D G σ H (match testR s1 r with | some b => F b s1 | none => .bad) := h
    cases e2 : testR s1 r with
    | none => rw [e2] at h; exact h.bad.elim
    | some b =>
      rw [e2] at h
      exact .inl ⟨r, b, s1, rfl, e2, fun G1 H1 R1 st1 => q b s1 G1 H1 h R1 st1⟩
end

/-! ### each kind of statement -/
section
variable {K : PySem.W.Frag} {mg : Str → Option Value} {Ex : L2.WX} {ok : Nat → Bool} {cf : CF} {H : Hp} {σ : L2.St} {D : Ends} {np : Nat}
abbrev tSt (K : PySem.W.Frag) (mg : Str → Option Value) (Ex : L2.WX) (ok : Nat → Bool) (cf : CF) (np : Nat) (st : S) : L2.TS := tS K mg Ex ok (execS cf np st)
abbrev tSts (K : PySem.W.Frag) (mg : Str → Option Value) (Ex : L2.WX) (ok : Nat → Bool) (cf : CF) (np : Nat) (st : List S) : L2.TS := tS K mg Ex ok (execSs cf np st)
/-- what r gives is stored into slot i -/
theorem asg_nm {G0 G : Gh} {H0 : Hp} {s s' : SS} {r : RV} {x : V} {i : Nat} (hi : ok i = true) (R : Rel K mg G s σ H) (st : Step G0 H0 G H) (rv : RVR K mg G0 G H σ r x) (h : asgT (.nm i) r s = some s') :
    ∃ G', Rel K mg G' s' (σ.set i (some x)) H ∧ Step G0 H0 G' H ∧ keepS ok σ (σ.set i (some x)) := by
  have viaKeep : (match keep s r with | some (v, s1) => bindT (.nm i) v s1 | none => none) = some s' → ∃ G', Rel K mg G' s' (σ.set i (some x)) H ∧ Step G0 H0 G' H ∧ keepS ok σ (σ.set i (some x)) := fun h => by
    cases e : keep s r with
    | none => rw [e] at h; cases h
    | some q =>
      obtain ⟨v, s1⟩ := q
      rw [e] at h
      obtain ⟨G', R', st', _, p, _, _⟩ := keep_ok R st rv e
      simp only [bindT] at h
      split at h
      · rename_i hl
        cases h
        exact ⟨G', R'.setVal p hl, st', .set hi⟩
      · cases h
  cases r with
  | sh v => exact viaKeep h
  | hd j => exact viaKeep h
  | fr o =>
    obtain ⟨a, rfl, g, n, ob⟩ := rv
    simp only [asgT] at h
    split at h
    · rename_i hl
      cases h
      exact ⟨_, R.setOwn g ob hl, st.tag n (st.notFz (fz_of g (fun z => nomatch z))) (st.notLoc (loc_of g (fun _ z => nomatch z))), .set hi⟩
    · cases h
theorem tS_asgNm {i : Nat} {e : E} (hi : ok i = true) (h : tSt K mg Ex ok cf np (.asg (.nm i) e) D σ H) : L2.tAsg (tE K mg cf Ex e) (L2.gName i) D σ H := by
  obtain ⟨G, s, R, h⟩ := h
  simp only [execS] at h
  refine tE_then R h fun r s1 G1 H1 x h R1 st1 rv => ?_
  cases e2 : asgT (.nm i) r s1 with
  | none => rw [e2] at h; exact h.bad.elim
  | some s2 =>
    rw [e2] at h
    obtain ⟨G2, R2, st2, k2⟩ := asg_nm hi R1 st1 rv e2
    exact h.done G2 _ H1 R2 st2 k2
theorem tS_asgT {t : T} {e : E} (ht : ∀ j, tIn t j = true → ok j = true) (hn : ∀ i, t ≠ .nm i) (h : tSt K mg Ex ok cf np (.asg t e) D σ H) : L2.tAsg (tE K mg cf Ex e) (tG K mg t) D σ H := by
  obtain ⟨G, s, R, h⟩ := h
  simp only [execS] at h
  refine tE_then R h fun r s1 G1 H1 x h R1 st1 rv => ?_
  have ea : asgT t r s1 = (match keep s1 r with | some (v, s1) => bindT t v s1 | none => none) := by
    cases t with
    | nm i => exact absurd rfl (hn i)
    | tp ts => cases r <;> rfl
  rw [ea] at h
  cases e2 : keep s1 r with
  | none => rw [e2] at h; exact h.bad.elim
  | some q =>
    obtain ⟨v, s2⟩ := q
    rw [e2] at h
    have h : EndS K mg Ex ok D G σ H (match bindT t v s2 with | some s2 => .ok .nx s2 | none => .bad) := h
    obtain ⟨G2, R2, st2, _, p, _, _⟩ := keep_ok R1 st1 rv e2
    cases e3 : bindT t v s2 with
    | none => rw [e3] at h; exact h.bad.elim
    | some s3 =>
      rw [e3] at h
      exact ⟨G2, v, s2, s3, R2, p, e3, fun σ3 R3 l3 k3 => h.done G2 σ3 H1 R3 st2 ⟨l3, fun j hj => k3 j (by
        cases ti : tIn t j with
        | false => rfl
        | true => have := ht j ti; rw [hj] at this; cases this)⟩⟩
theorem tS_expr {e : E} (h : tSt K mg Ex ok cf np (.expr e) D σ H) : L2.tDrop (tE K mg cf Ex e) D σ H := by
  obtain ⟨G, s, R, h⟩ := h
  simp only [execS] at h
  exact tE_then R h fun r s1 G1 H1 x h R1 st1 rv => h.done G1 σ H1 R1 st1 .refl
theorem tS_retN (h : tSt K mg Ex ok cf np .retN D σ H) : L2.tRetN D σ H := by
  obtain ⟨G, s, R, h⟩ := h
  simp only [execS] at h
  exact h.done G σ H R .refl .refl _ .non
theorem tS_pass (h : tSt K mg Ex ok cf np .pass D σ H) : L2.tNext D σ H := by
  obtain ⟨G, s, R, h⟩ := h
  simp only [execS] at h
  exact h.done G σ H R .refl .refl
theorem tS_brk (h : tSt K mg Ex ok cf np .brk D σ H) : L2.tBreak D σ H := by
  obtain ⟨G, s, R, h⟩ := h
  simp only [execS] at h
  exact h.done G σ H R .refl .refl
theorem tS_cont (h : tSt K mg Ex ok cf np .cont D σ H) : L2.tCont D σ H := by
  obtain ⟨G, s, R, h⟩ := h
  simp only [execS] at h
  exact h.done G σ H R .refl .refl
/-- what is told: a slot's own thing is given away, or stays with the caller -/
theorem tS_ret {e : E} (h : tSt K mg Ex ok cf np (.ret e) D σ H) : L2.tRet (tE K mg cf Ex e) D σ H := by
  obtain ⟨G, s, R, h⟩ := h
  simp only [execS] at h
  refine tE_then R h fun r s1 G1 H1 x h R1 st1 rv => ?_
  cases e2 : retR np r s1 with
  | none => rw [e2] at h; exact h.bad.elim
  | some q =>
    obtain ⟨r', s2⟩ := q
    rw [e2] at h
    have h : EndS K mg Ex ok D G σ H (.ok (.rt r') s2) := h
    cases r with
    | sh v => cases e2; exact h.done G1 σ H1 R1 st1 .refl x rv
    | fr o => cases e2; exact h.done G1 σ H1 R1 st1 .refl x rv
    | hd i =>
      have hx : σ[i]? = some (some x) := rv
      simp only [retR] at e2
      cases ei : s1.env[i]? with
      | none => rw [ei] at e2; cases e2
      | some sl =>
        rw [ei] at e2
        cases sl with
        | un => cases e2
        | val v =>
          cases e2
          obtain ⟨y, e1, p⟩ := R1.val ei
          rw [hx] at e1
          cases e1
          exact h.done G1 σ H1 R1 st1 .refl x p
        | own o =>
          obtain ⟨a, e1, g, ob⟩ := R1.own ei
          rw [hx] at e1
          cases e1
          have h2 : G1 a ≠ .fz := fz_of g (fun z => nomatch z)
          have h3 : ∀ l, G1 a ≠ .loc l := loc_of g (fun _ z => nomatch z)
          have h4 : G1 a ≠ .hold := by rw [g]; exact fun z => nomatch z
          have stt : ∀ t, Step G H (tg G1 a t) H1 := fun t => st1.tag (st1.notHold h4) (st1.notFz h2) (st1.notLoc h3)
          simp only at e2
          split at e2
          · cases e2
            exact h.done _ σ H1 (R1.frzSlot ei hx g ob) (stt .fz) .refl _ ((ob.step rfl (.tag h2 h3)).pvr tg_same)
          · cases e2
            have Rn : Rel K mg (tg G1 a .hold) { s1 with env := s1.env.set i .un } σ H1 := R1.tagged rfl h2 h3 (fun _ z => nomatch z) ob.there (by simp [R1.len]) fun j sl ej => by
              by_cases hj : j = i
              · subst hj
                have hlt := (List.getElem?_eq_some_iff.mp ei).1
                rw [List.getElem?_set_self hlt] at ej
                cases ej
                trivial
              · rw [List.getElem?_set_ne (Ne.symm hj)] at ej
                exact SlR.tag h2 h3 (fun z => by rw [g] at z; cases z; exact absurd rfl hj) (R1.slots j sl ej)
            exact h.done _ σ H1 Rn (stt .hold) .refl _ ⟨a, rfl, tg_same, st1.notHold h4, ob.step rfl (.tag h2 h3)⟩
theorem tS_if {c : E} {a b : List S} (h : tSt K mg Ex ok cf np (.ite c a b) D σ H) : L2.tIfS (tT K mg cf Ex c) (tSts K mg Ex ok cf np a) (tSts K mg Ex ok cf np b) D σ H := by
  obtain ⟨G, s, R, h⟩ := h
  have e : execS cf np (.ite c a b) s = (evalE cf c s).bind fun r s1 => match testR s1 r with | some t => (if t = true then execSs cf np a s1 else execSs cf np b s1) | none => .bad := by
    simp only [execS]
    congr 1
    funext r s1
    cases testR s1 r with
    | none => rfl
    | some t => cases t <;> rfl
  rw [e] at h
  refine tT_then R h fun t s1 G1 H1 h R1 st1 => ?_
  cases t with
  | true => exact ⟨G1, s1, R1, h.back st1 .refl⟩
  | false => exact ⟨G1, s1, R1, h.back st1 .refl⟩
theorem tS_seq {st : S} {r : List S} (h : tSts K mg Ex ok cf np (st :: r) D σ H) : L2.tSeq (tSt K mg Ex ok cf np st) (tSts K mg Ex ok cf np r) D σ H := by
  obtain ⟨G, s, R, h⟩ := h
  simp only [execSs] at h
  refine ⟨G, s, R, ?_⟩
  cases e1 : execS cf np st s with
  | bad => rw [e1] at h; exact h.bad.elim
  | exc x s1 => rw [e1] at h; exact .inr ⟨x, s1, rfl, h.exc⟩
  | ok fl s1 =>
    rw [e1] at h
    refine .inl ⟨fl, s1, rfl, fun G1 σ1 H1 R1 st1 k1 => ?_⟩
    cases fl with
    | nx => exact ⟨G1, s1, R1, EndS.back h st1 k1⟩
    | br => exact EndS.done h G1 σ1 H1 R1 st1 k1
    | ct => exact EndS.done h G1 σ1 H1 R1 st1 k1
    | rt r => exact EndS.done h G1 σ1 H1 R1 st1 k1
theorem tS_nil (h : tSts K mg Ex ok cf np [] D σ H) : L2.tNext D σ H := by
  obtain ⟨G, s, R, h⟩ := h
  simp only [execSs] at h
  exact h.done G σ H R .refl .refl
theorem Res.bind_assoc {α β γ : Type} (r : Res α) (f : α → SS → Res β) (g : β → SS → Res γ) : (r.bind f).bind g = r.bind fun a s => (f a s).bind g := by
  cases r <;> rfl
theorem while_step (c : E) (B : SS → Res Fl) (n : Nat) (s : SS) : whileN (fun s => (evalE cf c s).bind fun r s1 => match testR s1 r with
      | some t => .ok t s1
      | none => .bad) B (n + 1) s = (evalE cf c s).bind fun r s1 => match testR s1 r with
      | some t => (if t = true then (B s1).bind fun f s2 => (match f with
          | .nx => whileN (fun s => (evalE cf c s).bind fun r s1 => match testR s1 r with
              | some t => .ok t s1
              | none => .bad) B n s2
          | .ct => whileN (fun s => (evalE cf c s).bind fun r s1 => match testR s1 r with
              | some t => .ok t s1
              | none => .bad) B n s2
          | .br => .ok .nx s2
          | .rt r => .ok (.rt r) s2) else .ok .nx s1)
      | none => .bad := by
  show Res.bind (Res.bind _ _) _ = _
  rw [Res.bind_assoc]
  congr 1
  funext r s1
  cases testR s1 r with
  | none => rfl
  | some t => cases t <;> rfl
theorem tS_while {c : E} {b : List S} (h : tSt K mg Ex ok cf np (.while c b) D σ H) : L2.tWhile (tT K mg cf Ex c) (tSts K mg Ex ok cf np b) D σ H := by
  obtain ⟨G, s, R, h⟩ := h
  simp only [execS] at h
  refine ⟨fun m σ1 H1 => ∃ G1 s1, Rel K mg G1 s1 σ1 H1 ∧ EndS K mg Ex ok D G1 σ1 H1 (whileN (fun s => (evalE cf c s).bind fun r s1 => match testR s1 r with
      | some t => .ok t s1
      | none => .bad) (fun s => execSs cf np b s) m s1), ⟨turns, G, s, R, h⟩, ?_⟩
  rintro m σ1 H1 ⟨G1, s1, R1, h⟩
  cases m with
  | zero => exact h.bad.elim
  | succ n =>
    rw [while_step] at h
    refine tT_then R1 h fun t s2 G2 H2 h2 R2 st2 => ?_
    cases t with
    | false =>
      show (if false = true then _ else _)
      rw [if_neg Bool.false_ne_true]
      exact EndS.done h2 G2 σ1 H2 R2 st2 .refl
    | true =>
      show (if true = true then _ else _)
      rw [if_pos rfl]
      refine ⟨_, fun σ' H' z => ⟨n, Nat.lt_succ_self _, z⟩, G2, s2, R2, ?_⟩
      have h2 : EndS K mg Ex ok D G1 σ1 H1 ((execSs cf np b s2).bind fun f s2 => (match f with
          | .nx => whileN (fun s => (evalE cf c s).bind fun r s1 => match testR s1 r with
              | some t => .ok t s1
              | none => .bad) (fun s => execSs cf np b s) n s2
          | .ct => whileN (fun s => (evalE cf c s).bind fun r s1 => match testR s1 r with
              | some t => .ok t s1
              | none => .bad) (fun s => execSs cf np b s) n s2
          | .br => .ok .nx s2
          | .rt r => .ok (.rt r) s2)) := h2
      have h2 := h2.back st2 .refl
      cases e3 : execSs cf np b s2 with
      | bad => rw [e3] at h2; exact h2.bad.elim
      | exc x s3 => rw [e3] at h2; exact .inr ⟨x, s3, rfl, EndS.exc h2⟩
      | ok fl s3 =>
        rw [e3] at h2
        refine .inl ⟨fl, s3, rfl, fun G3 σ3 H3 R3 st3 k3 => ?_⟩
        cases fl with
        | nx => exact ⟨G3, s3, R3, EndS.back h2 st3 k3⟩
        | ct => exact ⟨G3, s3, R3, EndS.back h2 st3 k3⟩
        | br => exact EndS.done h2 G3 σ3 H3 R3 st3 k3
        | rt r => exact EndS.done h2 G3 σ3 H3 R3 st3 k3
/-- what is gone through first -/
theorem tI_then {it : I} {s : SS} {F : List PV → SS → Res Fl} {G : Gh} {Q : L2.It → Hp → Prop} (R : Rel K mg G s σ H) (h : EndS K mg Ex ok D G σ H ((evalI cf it s).bind F))
    (q : ∀ xs s1 G1 H1 J, EndS K mg Ex ok D G σ H (F xs s1) → Rel K mg G1 s1 σ H1 → Step G H G1 H1 → Walks K mg J G1 H1 xs → Q J H1) : tI K mg cf Ex it σ H Q := by
  refine ⟨G, s, R, ?_⟩
  cases e1 : evalI cf it s with
  | bad => rw [e1] at h; exact h.bad.elim
  | exc x s1 => rw [e1] at h; exact .inr ⟨x, s1, rfl, h.exc.xcP⟩
  | ok r s1 =>
    rw [e1] at h
    exact .inl ⟨r, s1, rfl, fun G1 H1 x R1 st1 rv => q r s1 G1 H1 x h R1 st1 rv⟩
theorem tS_for {t : T} {it : I} {b : List S} (ht : ∀ j, tIn t j = true → ok j = true) (h : tSt K mg Ex ok cf np (.for t it b) D σ H) : L2.tFor (tI K mg cf Ex it) (tG K mg t) (tSts K mg Ex ok cf np b) D σ H := by
  obtain ⟨G, s, R, h⟩ := h
  simp only [execS] at h
  refine tI_then R h fun xs s1 G1 H1 J h R1 st1 wk => ?_
  have h := EndS.back h st1 .refl
  refine ⟨fun i m σ2 H2 => m = xs.length - i ∧ i ≤ xs.length ∧ ∃ G2 s2, Rel K mg G2 s2 σ2 H2 ∧ Step G1 H1 G2 H2 ∧ EndS K mg Ex ok D G2 σ2 H2 (forN (fun x s2 => match bindT t x s2 with
      | some s3 => execSs cf np b s3
      | none => .bad) (xs.drop i) s2), ⟨xs.length, by simp, Nat.zero_le _, G1, s1, R1, .refl, by rw [List.drop_zero]; exact h⟩, ?_⟩
  rintro i m σ2 H2 ⟨rfl, hi', G2, s2, R2, st2, h⟩
  obtain ⟨w1, w2⟩ := wk i G2 H2 st2.mono R2.trk
  by_cases hlt : i < xs.length
  · refine .inr ?_
    have ex : xs[i]? = some xs[i] := by simp [hlt]
    obtain ⟨go, yl⟩ := w1 _ ex
    rw [List.drop_eq_getElem_cons hlt] at h
    refine ⟨go, fun σ' H' => ∃ G5 s5, Rel K mg G5 s5 σ' H' ∧ Step G1 H1 G5 H' ∧ EndS K mg Ex ok D G5 σ' H' (forN (fun x s2 => match bindT t x s2 with
      | some s3 => execSs cf np b s3
      | none => .bad) (xs.drop (i + 1)) s5), fun σ' H' ⟨G5, s5, a1, a2, a3⟩ => ⟨xs.length - (i + 1), by omega, rfl, hlt, G5, s5, a1, a2, a3⟩, fun x H' hy => ?_⟩
    obtain ⟨G3, q3, px⟩ := yl x H' hy
    have R3 := R2.same q3
    have h : EndS K mg Ex ok D G2 σ2 H2 ((match bindT t xs[i] s2 with
      | some s3 => execSs cf np b s3
      | none => .bad).bind fun f s1 => match f with
        | .nx => forN (fun x s2 => match bindT t x s2 with
          | some s3 => execSs cf np b s3
          | none => .bad) (xs.drop (i + 1)) s1
        | .ct => forN (fun x s2 => match bindT t x s2 with
          | some s3 => execSs cf np b s3
          | none => .bad) (xs.drop (i + 1)) s1
        | .br => .ok .nx s1
        | .rt r => .ok (.rt r) s1) := h
    cases eb : bindT t xs[i] s2 with
    | none => rw [eb] at h; exact h.bad.elim
    | some s3 =>
      rw [eb] at h
      refine ⟨G3, xs[i], s2, s3, R3, px, eb, fun σ4 R4 l4 k4 => ?_⟩
      have kk : keepS ok σ2 σ4 := ⟨l4, fun j hj => k4 j (by
        cases ti : tIn t j with
        | false => rfl
        | true => have := ht j ti; rw [hj] at this; cases this)⟩
      have h := h.back q3.st kk
      refine ⟨G3, s3, R4, ?_⟩
      cases e3 : execSs cf np b s3 with
      | bad => simp only [e3] at h; exact h.bad.elim
      | exc x s4 => simp only [e3] at h; exact .inr ⟨x, s4, rfl, EndS.exc h⟩
      | ok fl s4 =>
        simp only [e3] at h
        refine .inl ⟨fl, s4, rfl, fun G5 σ5 H5 R5 st5 k5 => ?_⟩
        cases fl with
        | nx => exact ⟨G5, s4, R5, (st2.trans q3.st).trans st5, EndS.back h st5 k5⟩
        | ct => exact ⟨G5, s4, R5, (st2.trans q3.st).trans st5, EndS.back h st5 k5⟩
        | br => exact EndS.done h G5 σ5 H5 R5 st5 k5
        | rt r => exact EndS.done h G5 σ5 H5 R5 st5 k5
  · have e : i = xs.length := by omega
    subst e
    refine .inl ⟨w2 rfl, ?_⟩
    rw [List.drop_length] at h
    exact EndS.done h G2 σ2 H2 R2 .refl .refl
/-! several names at once -/
def SlX (K : PySem.W.Frag) (mg : Str → Option Value) (G0 G : Gh) (H : Hp) : Sl → V → Prop
  | .un, _ => False
  | .val v, x => PVR K mg G H v x
  | .own o, x => ∃ a, x = .ref a ∧ G a = .hold ∧ G0 a ≠ .hold ∧ ObR K mg G H a o
inductive SlXs (K : PySem.W.Frag) (mg : Str → Option Value) (G0 G : Gh) (H : Hp) : List Sl → List V → Prop where
  | nil : SlXs K mg G0 G H [] []
  | cons {r : Sl} {x : V} {rs : List Sl} {xs : List V} : SlX K mg G0 G H r x → (∀ o, r = .own o → ∀ o' (j : Nat), rs[j]? = some (.own o') → xs[j]? ≠ some x) → SlXs K mg G0 G H rs xs → SlXs K mg G0 G H (r :: rs) (x :: xs)
theorem slsOf_own : ∀ {rs : List RV} {s s' : SS} {as : List Sl} {j : Nat} {o : PV}, slsOf s rs = some (as, s') → as[j]? = some (.own o) → rs[j]? = some (.fr o)
  | [], s, s', as, j, o, h, e => by cases h; simp at e
  | r :: rs, s, s', as, j, o, h, e => by
    have viaKeep : (match keep s r with | some (v, s1) => (match slsOf s1 rs with | some (as, s2) => some (.val v :: as, s2) | none => none) | none => none) = some (as, s') → (r :: rs)[j]? = some (.fr o) := fun h => by
      cases e1 : keep s r with
      | none => rw [e1] at h; cases h
      | some q =>
        obtain ⟨v, s1⟩ := q
        rw [e1] at h
        simp only at h
        cases e2 : slsOf s1 rs with
        | none => rw [e2] at h; cases h
        | some q =>
          obtain ⟨bs, s2⟩ := q
          rw [e2] at h
          cases h
          cases j with
          | zero => simp at e
          | succ j => simpa using slsOf_own e2 (j := j) (by simpa using e)
    cases r with
    | sh v => exact viaKeep h
    | hd i => exact viaKeep h
    | fr o1 =>
      simp only [slsOf] at h
      cases e2 : slsOf s rs with
      | none => rw [e2] at h; cases h
      | some q =>
        obtain ⟨bs, s2⟩ := q
        rw [e2] at h
        cases h
        cases j with
        | zero => simp at e; subst e; rfl
        | succ j => simpa using slsOf_own e2 (j := j) (by simpa using e)
theorem slsOf_ok {G0 : Gh} : ∀ {rs : List RV} {xs : List V} {s s' : SS} {as : List Sl} {G : Gh}, Rel K mg G s σ H → RVRs K mg G0 G H σ rs xs → slsOf s rs = some (as, s') → ∃ G', Rel K mg G' s' σ H ∧ Step G H G' H ∧ SlXs K mg G0 G' H as xs
  | [], xs, s, s', as, G, R, rv, h => by
    cases rv
    cases h
    exact ⟨G, R, .refl, .nil⟩
  | r :: rs, xs0, s, s', as, G, R, rv, h => by
    cases rv with
    | cons hr hd ht =>
    rename_i x xs
    have viaKeep : (∀ o, r ≠ .fr o) → (match keep s r with | some (v, s1) => (match slsOf s1 rs with | some (as, s2) => some (.val v :: as, s2) | none => none) | none => none) = some (as, s') → ∃ G', Rel K mg G' s' σ H ∧ Step G H G' H ∧ SlXs K mg G0 G' H as (x :: xs) := fun hn h => by
      cases e1 : keep s r with
      | none => rw [e1] at h; cases h
      | some q =>
        obtain ⟨v, s1⟩ := q
        rw [e1] at h
        simp only at h
        cases e2 : slsOf s1 rs with
        | none => rw [e2] at h; cases h
        | some q =>
          obtain ⟨bs, s2⟩ := q
          rw [e2] at h
          cases h
          have hrG : RVR K mg G G H σ r x := by
            cases r with
            | sh v => exact hr
            | hd i => exact hr
            | fr o => exact absurd rfl (hn o)
          obtain ⟨G1, R1, st1, _, p, _, _⟩ := keep_ok R .refl hrG e1
          obtain ⟨G2, R2, st2, q⟩ := slsOf_ok R1 (ht.mono st1) e2
          exact ⟨G2, R2, st1.trans st2, .cons (PVR.step p st2.mono) (fun _ z => nomatch z) q⟩
    cases r with
    | sh v => exact viaKeep (fun _ z => nomatch z) h
    | hd i => exact viaKeep (fun _ z => nomatch z) h
    | fr o =>
      simp only [slsOf] at h
      cases e2 : slsOf s rs with
      | none => rw [e2] at h; cases h
      | some q =>
        obtain ⟨bs, s2⟩ := q
        rw [e2] at h
        cases h
        obtain ⟨G2, R2, st2, q⟩ := slsOf_ok R ht e2
        refine ⟨G2, R2, st2, .cons (hr.mono st2) (fun o1 e1 o' j ej => hd _ rfl o' j (slsOf_own e2 ej)) q⟩
theorem SlXs.tag {G0 G : Gh} {a : Addr} {t : Tag} (h2 : G a ≠ .fz) (h3 : ∀ l, G a ≠ .loc l) : ∀ {rs : List Sl} {xs : List V}, SlXs K mg G0 G H rs xs → (∀ o (j : Nat), rs[j]? = some (.own o) → xs[j]? ≠ some (.ref a)) → SlXs K mg G0 (tg G a t) H rs xs
  | _, _, .nil, _ => .nil
  | _, _, .cons (r := r) (x := x) h d q, ha => by
    refine .cons ?_ d (SlXs.tag h2 h3 q fun o j e => by simpa using ha o (j + 1) (by simpa using e))
    cases r with
    | un => exact h.elim
    | val v => exact PVR.step h (.tag h2 h3)
    | own o =>
      obtain ⟨b, e, g, n, ob⟩ := h
      have nb : b ≠ a := fun z => by
        have := ha o 0 rfl
        rw [e, z] at this
        exact this rfl
      exact ⟨b, e, (tg_ne nb).trans g, n, ob.step rfl (.tag h2 h3)⟩
theorem putSls_ok {G0 : Gh} {H0 : Hp} : ∀ {is : List Nat} {as : List Sl} {xs : List V} {s s' : SS} {G : Gh} {σ : L2.St}, (∀ i ∈ is, ok i = true) → Rel K mg G s σ H → Step G0 H0 G H → SlXs K mg G0 G H as xs → putSls is as s = some s' →
    ∃ G', Rel K mg G' s' (putV is xs σ) H ∧ Step G0 H0 G' H ∧ keepS ok σ (putV is xs σ)
  | [], [], xs, s, s', G, σ, ho, R, st, q, h => by cases q; cases h; exact ⟨G, R, st, .refl⟩
  | [], _ :: _, xs, s, s', G, σ, ho, R, st, q, h => by cases h
  | _ :: _, [], xs, s, s', G, σ, ho, R, st, q, h => by cases h
  | i :: is, a :: as, xs0, s, s', G, σ, ho, R, st, q, h => by
    cases q with
    | cons hx hd hq =>
    rename_i x xs
    simp only [putSls] at h
    split at h
    · rename_i hl
      have hi := ho i (List.mem_cons_self ..)
      have ho' : ∀ j ∈ is, ok j = true := fun j hj => ho j (List.mem_cons_of_mem _ hj)
      cases a with
      | un => exact hx.elim
      | val v =>
        obtain ⟨G2, R2, st2, k2⟩ := putSls_ok ho' (R.setVal hx hl) st hq h
        exact ⟨G2, R2, st2, (keepS.set hi).trans k2⟩
      | own o =>
        obtain ⟨b, rfl, g, n, ob⟩ := hx
        have h2 : G b ≠ .fz := fz_of g (fun z => nomatch z)
        have h3 : ∀ l, G b ≠ .loc l := loc_of g (fun _ z => nomatch z)
        obtain ⟨G2, R2, st2, k2⟩ := putSls_ok ho' (R.setOwn g ob hl) (st.tag n (st.notFz h2) (st.notLoc h3)) (hq.tag h2 h3 fun o' j ej => hd _ rfl o' j ej) h
        exact ⟨G2, R2, st2, (keepS.set hi).trans k2⟩
    · cases h
theorem SlXs.vals {G0 G : Gh} : ∀ {vs : List PV} {xs : List V}, PVRs K mg G H vs xs → SlXs K mg G0 G H (vs.map Sl.val) xs
  | _, _, .nil => .nil
  | _, _, .cons h t => .cons h (fun o e => by cases e) (SlXs.vals t)
theorem tS_asgR {is : List Nat} {j : Nat} {e : E} (ho : ∀ i ∈ is ++ [j], ok i = true) (h : tSt K mg Ex ok cf np (.asgR is j e) D σ H) : L2.tAsg (tE K mg cf Ex e) (gStar K is j) D σ H := by
  obtain ⟨G, s, R, h⟩ := h
  simp only [execS] at h
  refine tE_then R h fun r s1 G1 H1 x h R1 st1 rv => ?_
  cases e2 : keep s1 r with
  | none => rw [e2] at h; exact h.bad.elim
  | some q =>
    obtain ⟨v, s2⟩ := q
    rw [e2] at h
    have h : EndS K mg Ex ok D G σ H (match asgRS is j v s2 with | some s2 => .ok .nx s2 | none => .bad) := h
    obtain ⟨G2, R2, st2, _, p, _, _⟩ := keep_ok R1 st1 rv e2
    cases e3 : asgRS is j v s2 with
    | none => rw [e3] at h; exact h.bad.elim
    | some s3 =>
      rw [e3] at h
      have main : ∀ (xs : List PV) (Vs : List V), PVRs K mg G2 H1 xs Vs → is.length ≤ xs.length ∧ xs.length ≤ 16384 → putSls (is ++ [j]) ((xs.take is.length ++ [PV.lst (xs.drop is.length)]).map Sl.val) s2 = some s3 →
          is.length ≤ Vs.length ∧ Vs.length ≤ 16384 ∧ ∀ Dn, H1 Dn = none → D.nx (putV (is ++ [j]) (Vs.take is.length ++ [.ref Dn]) σ) (upd H1 Dn (.lst (Vs.drop is.length))) := fun xs Vs ps hc e4 => by
        refine ⟨by rw [← ps.length]; exact hc.1, by rw [← ps.length]; exact hc.2, fun Dn hD => ?_⟩
        have q := Same.new (t := .fz) (o := .lst (Vs.drop is.length)) R2.trk hD (fun _ z => nomatch z)
        have R3 := R2.same q
        have ps' := ps.step q.st.mono
        have pv : PVRs K mg (tg G2 Dn .fz) (upd H1 Dn (.lst (Vs.drop is.length))) (xs.take is.length ++ [PV.lst (xs.drop is.length)]) (Vs.take is.length ++ [.ref Dn]) := (ps'.take _).append (.cons (.lst upd_same tg_same (ps'.drop _)) .nil)
        obtain ⟨G4, R4, st4, k4⟩ := putSls_ok ho R3 .refl (SlXs.vals (G0 := tg G2 Dn .fz) pv) e4
        exact h.done G4 _ _ R4 ((st2.trans q.st).trans st4) k4
      unfold asgRS at e3
      split at e3
      · rename_i xs ex
        split at e3
        · rename_i hc
          cases v <;> first | (cases ex; done) | skip
          · cases ex
            cases p with
            | tup h1 ps =>
              obtain ⟨m1, m2, m3⟩ := main _ _ ps hc e3
              exact ⟨_, _, rfl, .inl h1, m1, m2, m3⟩
          · cases ex
            cases p with
            | lst h1 hg ps =>
              obtain ⟨m1, m2, m3⟩ := main _ _ ps hc e3
              exact ⟨_, _, rfl, .inr (.of h1), m1, m2, m3⟩
        · cases e3
      · cases e3
theorem tS_dead (h : tSt K mg Ex ok cf np .dead D σ H) : L2.tNever D σ H := by
  obtain ⟨G, s, R, h⟩ := h
  simp only [execS] at h
  exact h.bad
theorem RVRs.two {G0 G : Gh} {rs : List RV} {xs : List V} (h : RVRs K mg G0 G H σ rs xs) : rs.length = xs.length := h.length
theorem tS_par {is : List Nat} {es : List E} (hi : ∀ i ∈ is, ok i = true) (h : tSt K mg Ex ok cf np (.par is es) D σ H) : tA K mg cf Ex es σ H fun xs H1 => D.nx (putV is xs σ) H1 := by
  obtain ⟨G, s, R, h⟩ := h
  simp only [execS] at h
  refine tA_then R h fun rs s1 G1 H1 xs h R1 st1 rv => ?_
  cases e2 : slsOf s1 rs with
  | none => rw [e2] at h; exact h.bad.elim
  | some q =>
    obtain ⟨as, s2⟩ := q
    rw [e2] at h
    have h : EndS K mg Ex ok D G σ H (match putSls is as s2 with | some s3 => .ok .nx s3 | none => .bad) := h
    obtain ⟨G2, R2, st2, q2⟩ := slsOf_ok R1 rv e2
    cases e3 : putSls is as s2 with
    | none => rw [e3] at h; exact h.bad.elim
    | some s3 =>
      rw [e3] at h
      obtain ⟨G3, R3, st3, k3⟩ := putSls_ok hi R2 (st1.trans st2) q2 e3
      exact h.done G3 _ H1 R3 st3 k3
theorem evalEs_len : ∀ {es : List E} {s s' : SS} {rs : List RV}, evalEs cf es s = .ok rs s' → rs.length = es.length
  | [], s, s', rs, h => by simp only [evalEs] at h; cases h; rfl
  | e :: es, s, s', rs, h => by
    simp only [evalEs] at h
    cases e1 : evalE cf e s with
    | bad => rw [e1] at h; cases h
    | exc x s1 => rw [e1] at h; cases h
    | ok r s1 =>
      rw [e1] at h
      cases e2 : evalEs cf es s1 with
      | bad => simp only [Res.bind, e2] at h; cases h
      | exc x s1 => simp only [Res.bind, e2] at h; cases h
      | ok rs1 s2 =>
        simp only [Res.bind, e2] at h
        cases h
        exact congrArg Nat.succ (evalEs_len e2)
/-- the count of what was told -/
theorem tA_len {es : List E} {Q : List V → Hp → Prop} (h : tA K mg cf Ex es σ H Q) : tA K mg cf Ex es σ H fun xs H1 => xs.length = es.length ∧ Q xs H1 := by
  obtain ⟨G, s, R, h⟩ := h
  refine ⟨G, s, R, ?_⟩
  rcases h with ⟨rs, s', e, h⟩ | h
  · exact .inl ⟨rs, s', e, fun G' H' xs R' st rv => ⟨by rw [← rv.length]; exact evalEs_len e, h G' H' xs R' st rv⟩⟩
  · exact .inr h
theorem tS_par2 {i j : Nat} {a b : E} (hi : ok i = true) (hj : ok j = true) (h : tSt K mg Ex ok cf np (.par [i, j] [a, b]) D σ H) : L2.tPar i j (tA K mg cf Ex [a, b]) D σ H := by
  refine tA_mono (tA_len (tS_par (fun n hn => by simp at hn; rcases hn with rfl | rfl <;> assumption) h)) fun xs H1 ⟨l, q⟩ => ?_
  match xs, l with
  | [v, w], _ => exact ⟨v, w, rfl, q⟩
theorem tS_par3 {i j l : Nat} {a b c : E} (hi : ok i = true) (hj : ok j = true) (hl : ok l = true) (h : tSt K mg Ex ok cf np (.par [i, j, l] [a, b, c]) D σ H) : L2.tPar3 i j l (tA K mg cf Ex [a, b, c]) D σ H := by
  refine tA_mono (tA_len (tS_par (fun n hn => by simp at hn; rcases hn with rfl | rfl | rfl <;> assumption) h)) fun xs H1 ⟨l, q⟩ => ?_
  match xs, l with
  | [v, w, u], _ => exact ⟨v, w, u, rfl, q⟩
/-- name op= .. -/
def augF : P → Int → Int → Int
  | .add => fun i j => i + j
  | _ => fun i j => i - j
theorem tS_aug {i : Nat} {p : P} {e : E} (hi : ok i = true) (h : tSt K mg Ex ok cf np (.aug i p e) D σ H) : L2.tAug i (tE K mg cf Ex e) (L2.ipI (augF p)) D σ H := by
  obtain ⟨G, s, R, h⟩ := h
  simp only [execS] at h
  cases ei : s.env[i]? with
  | none => rw [ei] at h; exact h.bad.elim
  | some sl =>
    rw [ei] at h
    cases sl with
    | un => exact h.bad.elim
    | own _ => exact h.bad.elim
    | val v =>
      obtain ⟨x, e1, p1⟩ := R.val ei
      refine ⟨x, e1, tE_then R h fun r s1 G1 H1 y h R1 st1 rv => ?_⟩
      cases e2 : cont s1 r with
      | none => rw [e2] at h; exact h.bad.elim
      | some w =>
        rw [e2] at h
        simp only at h
        cases e3 : augSem p v w with
        | none => rw [e3] at h; exact h.bad.elim
        | some z =>
          rw [e3] at h
          have cn := cont_ok R1 rv e2
          have fin : ∀ a b : Int, v = .int a → w = .int b → z = .int (augF p a b) → L2.ipI (augF p) x y H1 fun z H2 => D.nx (σ.set i (some z)) H2 := fun a b ea eb ez => by
            subst ea eb ez
            cases p1
            have ey := cn.int
            subst ey
            have hl : i < s1.env.length := by
              have := (List.getElem?_eq_some_iff.mp e1).1
              rw [R1.len]; exact this
            exact ⟨a, b, rfl, rfl, h.done G1 _ H1 (R1.setVal (.int _) hl) st1 (.set hi)⟩
          cases p <;> cases v <;> first | (exfalso; simp [augSem] at e3; done) | skip
          all_goals cases w <;> first | (exfalso; simp [augSem] at e3; done) | skip
          all_goals (simp only [augSem, Option.some.injEq] at e3; exact fin _ _ rfl rfl e3.symm)
/-- of a list or a dict -/
def rSetA : L2.TSet := fun o i v H Q => L2.rSetL o i v H Q ∨ L2.rSetD o i v H Q
theorem set_any {X : L2.Cx} (hu : X.A.units + 1 < cLine) : L2.PSet X rSetA := by
  intro pins s σ H o i v ov iv u Q I ro ri rv h
  rcases h with h | h
  · exact L2.set_list pins s σ H o i v ov iv u Q I ro ri rv h
  · exact L2.set_dict hu pins s σ H o i v ov iv u Q I ro ri rv h
/-- a[i] = v -/
theorem tS_setix {a b e : E} (h : tSt K mg Ex ok cf np (.setix a b e) D σ H) : L2.tAsg (tE K mg cf Ex e) (L2.gSub (tE K mg cf Ex a) (tE K mg cf Ex b) rSetA) D σ H := by
  obtain ⟨G, s, R, h⟩ := h
  simp only [execS] at h
  refine tE_then R h fun r s1 G1 H1 x h R1 st1 rv => ?_
  cases e2 : keep s1 r with
  | none => rw [e2] at h; exact h.bad.elim
  | some q =>
    obtain ⟨v, s2⟩ := q
    rw [e2] at h
    obtain ⟨G2, R2, st2, _, p, _, _⟩ := keep_ok R1 st1 rv e2
    have h := EndS.back h st2 .refl
    refine tE_then R2 h fun ra s3 G3 H3 y h R3 st3 rv3 => ?_
    have h := EndS.back h st3 .refl
    refine tE_then R3 h fun ri s4 G4 H4 z h R4 st4 rv4 => ?_
    cases c1 : cont s4 ra with
    | none => rw [c1] at h; exact h.bad.elim
    | some o =>
      cases c2 : cont s4 ri with
      | none => rw [c1, c2] at h; exact h.bad.elim
      | some k =>
        rw [c1, c2] at h
        simp only at h
        cases c3 : setSem o k v with
        | none => rw [c3] at h; exact h.bad.elim
        | some o' =>
          rw [c3] at h
          simp only at h
          cases c4 : putBack ra o' s4 with
          | none => rw [c4] at h; exact h.bad.elim
          | some s5 =>
            rw [c4] at h
            obtain ⟨ad, ey, ob, stp, put⟩ := mut_obj R4 (rv3.mono st4) c1 c4
            have ck := cont_ok R4 rv4 c2
            have pv : PVR K mg G4 H4 v x := PVR.step (PVR.step p st3.mono) st4.mono
            unfold setSem at c3
            split at c3
            · rename_i xs n
              split at c3
              · rename_i j hj
                cases c3
                obtain ⟨Vs, hV, pl⟩ := ob
                have ez := ck.int
                subst ez
                subst ey
                refine .inl ⟨ad, Vs, n, j, rfl, rfl, hV, by rw [← pl.length]; exact hj, ?_⟩
                have stq := stp (.lst (Vs.set j x))
                have R5 := put (.lst (Vs.set j x)) ⟨Vs.set j x, upd_same, (pl.set pv j).step stq.mono⟩
                exact h.done G4 σ _ R5 (st4.trans stq) .refl
              · cases c3
            · rename_i ks vs
              split at c3
              · rename_i q hq
                split at c3
                · rename_i hz
                  cases c3
                  obtain ⟨kvs, hV, hks, pl⟩ := ob
                  have ez := ck.key hq
                  subst ez
                  subst ey
                  subst hks
                  obtain ⟨ks', vs', e1, e2, e3⟩ := put_ok (q := q) pv pl
                  have hl : kvs.length < sizeLine := by rw [List.length_map] at hz; rw [← szL_eq]; exact hz
                  refine .inr ⟨ad, _, rfl, .k hV hl, ?_⟩
                  have stq := stp (.dK (L2.putK kvs q x))
                  have R5 := put (.dK (L2.putK kvs q x)) (by rw [e1]; exact ⟨L2.putK kvs q x, upd_same, e2, e3.step stq.mono⟩)
                  exact h.done G4 σ _ R5 (st4.trans stq) .refl
                · cases c3
              · cases c3
            · cases c3
end
/-! ### all statements -/
theorem PS.imp {X : L2.Cx} {st : Stmt} {t t' : L2.TS} (h : PS X st t) (i : ∀ D σ H, t' D σ H → t D σ H) : PS X st t' := ⟨fun pins s σ H D I q => h.run pins s σ H D I (i D σ H q)⟩
theorem PSs.imp {X : L2.Cx} {st : List Stmt} {t t' : L2.TS} (h : PSs X st t) (i : ∀ D σ H, t' D σ H → t D σ H) : PSs X st t' := ⟨fun pins s σ H D I q => h.run pins s σ H D I (i D σ H q)⟩
/-- what a def's body must bear besides -/
structure XS (X : L2.Cx) (g : Cg) (cf : CF) (Ex : L2.WX) : Prop where
  o : XO X g cf Ex
  fn : ∀ x, X.fn x = true
  kind : X.env.scope.kind = .function
  own : PassesOwn (model X.prog X.w) X.A X.env X.xe
theorem XS.nk {X : L2.Cx} {g : Cg} {cf : CF} {Ex : L2.WX} (o : XS X g cf Ex) : NkOk X (ownNm X.env.scope) := fun x h => by
  unfold ownNm at h
  split at h
  · rename_i e; exact ⟨.inl e, .inl (o.fn x)⟩
  · rename_i e; exact ⟨.inr e, .inl (o.fn x)⟩
  · cases h
theorem comp_inv {g : Cg} {N : List Str} {k : Nat} {sc : Scope} {elt : Expr} {gs : List Comprehension} {scope : Scope} {pos : Pos} {e' : E} (h : cE g N (k + 1) sc (.ListComp elt gs scope pos) = some e') :
    (∃ t it ifs own it' t' cs e1, gs = [⟨t, it, ifs, 0⟩] ∧ ownOf N scope = some own ∧ L2.blkC N sc scope own = true ∧ cI g N k sc t it = some it' ∧ cT (fun i => decide (i ∈ own.map (·.2))) (ownNm scope) N k t = some t' ∧
      mapO (cE g N k (L2.relS scope sc)) ifs = some cs ∧ cE g N k (L2.relS scope sc) elt = some e1 ∧ cs.length ≤ 1 ∧ e' = .lc e1 t' it' cs (own.map (·.2))) ∨
    (∃ t it ifs t1 it1 ifs1 own it' t' cs it1' t1' cs1 e1, gs = [⟨t, it, ifs, 0⟩, ⟨t1, it1, ifs1, 0⟩] ∧ ownOf N scope = some own ∧ L2.blkC N sc scope own = true ∧ cI g N k sc t it = some it' ∧ cT (fun i => decide (i ∈ own.map (·.2))) (ownNm scope) N k t = some t' ∧
      mapO (cE g N k (L2.relS scope sc)) ifs = some cs ∧ cI g N k (L2.relS scope sc) t1 it1 = some it1' ∧ cT (fun i => decide (i ∈ own.map (·.2))) (ownNm scope) N k t1 = some t1' ∧ mapO (cE g N k (L2.relS scope sc)) ifs1 = some cs1 ∧
      cE g N k (L2.relS scope sc) elt = some e1 ∧ (cs.length ≤ 1 ∧ cs1.length ≤ 1) ∧ e' = .lc2 e1 t' it' cs t1' it1' cs1 (own.map (·.2)) ((own.map (·.2)).filter (tIn t1'))) := by
  rw [cE.eq_def] at h
  simp only at h
  split at h
  all_goals first | (exfalso; cases ‹Expr.ListComp _ _ _ _ = _›; done) | skip
  · rename_i elt1 t it ifs scope1 pos1 heq
    cases heq
    split at h
    · rename_i own hown
      split at h
      · rename_i hb
        split at h
        · rename_i it' t' cs e1 h1 h2 h3 h4
          split at h
          · rename_i hl
            cases h
            exact .inl ⟨t, it, ifs, own, it', t', cs, e1, rfl, hown, hb, h1, h2, h3, h4, hl, rfl⟩
          · cases h
        · cases h
      · cases h
    · cases h
  · rename_i elt1 t it ifs t1 it1 ifs1 scope1 pos1 heq
    cases heq
    split at h
    · rename_i own hown
      split at h
      · rename_i hb
        split at h
        · rename_i it' t' cs it1' t1' cs1 e1 h1 h2 h3 h4 h5 h6 h7
          split at h
          · rename_i hl
            cases h
            exact .inr ⟨t, it, ifs, t1, it1, ifs1, own, it', t', cs, it1', t1', cs1, e1, rfl, hown, hb, h1, h2, h3, h4, h5, h6, h7, hl, rfl⟩
          · cases h
        · cases h
      · cases h
    · cases h
  · cases h
/-- name = [..], both ways -/
theorem ps_nm {X : L2.Cx} {g : Cg} {cf : CF} {Ex : L2.WX} (o : XS X g cf Ex) {k i np : Nat} {x : Str} {p pos : Pos} {e : Expr} {e' : E} {ok : Nat → Bool} (hi : ixOf x X.N = some i) (hk : ok i = true) (hx : ownNm X.env.scope x = true) (he : cE g X.N k X.env.scope e = some e') :
    PS X (.Assign [.Name x p] e pos) (tSt X.K X.mg Ex ok cf np (.asg (.nm i) e')) := by
  obtain ⟨lo, _⟩ := o.nk x hx
  have pe := ((exprs_ok k).1 o.o he).1
  have plain : lcSw X.env.scope x p e = false → PS X (.Assign [.Name x p] e pos) (tSt X.K X.mg Ex ok cf np (.asg (.nm i) e')) := fun hs =>
    PS.imp (L2.ps_set o.o.nd (ixOf_get hi) lo pe (by rw [swNm o.kind]; exact congrArg pure hs) (.inl (o.fn x))) fun D σ H h => tS_asgNm hk h
  cases hs : lcSw X.env.scope x p e with
  | false => exact plain hs
  | true =>
    have hloc : X.env.scope.names.lookup x = some .local ∧ isCompE e = true := by
      unfold lcSw at hs
      split at hs <;> first | cases hs | skip
      all_goals (rw [Bool.and_eq_true, Bool.and_eq_true] at hs; exact ⟨by simpa using hs.1.1, rfl⟩)
    cases k with
    | zero => cases he
    | succ k =>
      cases e with
      | ListComp elt gs scope pos2 =>
        obtain ⟨ihE, ihI⟩ := exprs_ok k
        rcases comp_inv he with ⟨t, it, ifs, own, it', t', cs, e1, rfl, hown, hb, h1, h2, h3, h4, hl, rfl⟩ | ⟨t, it, ifs, t1, it1, ifs1, own, it', t', cs, it1', t1', cs1, e1, rfl, hown, hb, h1, h2, h3, h4, h5, h6, h7, hl, rfl⟩
        rotate_left
        · have hblk : ∀ (s : Shared) (H : Hp) (C : Addr) (cl : List (Str × Addr)) (fp : List Addr), PG (X.blk s H scope (compEnvC scope cl C X.env) fp) t (tG X.K X.mg t') ∧ PEs (X.blk s H scope (compEnvC scope cl C X.env) fp) cf noEx ifs cs ∧
              PI (X.blk s H scope (compEnvC scope cl C X.env) fp) t1 it1 (tI X.K X.mg cf noEx it1') ∧ PG (X.blk s H scope (compEnvC scope cl C X.env) fp) t1 (tG X.K X.mg t1') ∧ PEs (X.blk s H scope (compEnvC scope cl C X.env) fp) cf noEx ifs1 cs1 ∧ PE (X.blk s H scope (compEnvC scope cl C X.env) fp) elt (tE X.K X.mg cf noEx e1) := fun s H C cl fp => by
            have ob := o.o.blk s H scope (compEnvC scope cl C X.env) fp
            have ihB : ∀ {e : Expr} {e' : E}, cE g X.N k (L2.relS scope X.env.scope) e = some e' → PB (X.blk s H scope (compEnvC scope cl C X.env) fp) cf noEx e e' := fun h => ihE ob h
            exact ⟨pg_T ob behind_blk k h2, pb_list ihB h3, ihI ob h4, pg_T ob behind_blk k h5, pb_list ihB h6, (ihB h7).1⟩
          refine PS.imp (L2.ps_setLc2 (vs1 := (own.map (·.2)).filter (tIn t1')) (tt := tCs X.K X.mg cf cs) (te := tE X.K X.mg cf noEx e1) (g := tG X.K X.mg t') (wi1 := tI X.K X.mg cf noEx it1') (g1 := tG X.K X.mg t1') (tt1 := tCs X.K X.mg cf cs1) o.o.calm o.o.nd (ixOf_get hi) hloc.1 (by rw [swNm o.kind]; exact congrArg pure hs) (ihI o.o h1) (L2.blkOk_by hb) (fun i hi => (List.mem_filter.mp hi).1)
            (fun s H C cl fp => (hblk s H C cl fp).1) (fun s H C cl fp => pts_of hl.1 (hblk s H C cl fp).2.1) (fun s H C cl fp => (hblk s H C cl fp).2.2.1) (fun s H C cl fp => (hblk s H C cl fp).2.2.2.1) (fun s H C cl fp => pts_of hl.2 (hblk s H C cl fp).2.2.2.2.1) (fun s H C cl fp => (hblk s H C cl fp).2.2.2.2.2) (cI_fold h1 _) (cI_fold h4)) fun D σ H h => ?_
          exact tE_lc2 h2 h5 (fun i hi => (List.mem_filter.mp hi).1) (fun j hj ti => List.mem_filter.mpr ⟨hj, ti⟩) (tS_asgNm hk h)
        have hblk : ∀ (s : Shared) (H : Hp) (C : Addr) (cl : List (Str × Addr)) (fp : List Addr), PG (X.blk s H scope (compEnvC scope cl C X.env) fp) t (tG X.K X.mg t') ∧ PEs (X.blk s H scope (compEnvC scope cl C X.env) fp) cf noEx ifs cs ∧ PE (X.blk s H scope (compEnvC scope cl C X.env) fp) elt (tE X.K X.mg cf noEx e1) := fun s H C cl fp => by
          have ob := o.o.blk s H scope (compEnvC scope cl C X.env) fp
          have ihB : ∀ {e : Expr} {e' : E}, cE g X.N k (L2.relS scope X.env.scope) e = some e' → PB (X.blk s H scope (compEnvC scope cl C X.env) fp) cf noEx e e' := fun h => ihE ob h
          exact ⟨pg_T ob behind_blk k h2, pb_list ihB h3, (ihB h4).1⟩
        refine PS.imp (L2.ps_setLc (tt := tCs X.K X.mg cf cs) (te := tE X.K X.mg cf noEx e1) (g := tG X.K X.mg t') o.o.calm o.o.nd (ixOf_get hi) hloc.1 (by rw [swNm o.kind]; exact congrArg pure hs) (ihI o.o h1) (L2.blkOk_by hb) (fun s H C cl fp => (hblk s H C cl fp).1) (fun s H C cl fp => pts_of hl (hblk s H C cl fp).2.1) (fun s H C cl fp => (hblk s H C cl fp).2.2) (cI_fold h1 _)) fun D σ H h => ?_
        exact tE_lc h2 (tS_asgNm hk h)
      | SetComp _ _ _ _ => simp [cE] at he
      | DictComp _ _ _ _ _ => simp [cE] at he
      | _ => cases hloc.2
/-- THE STATEMENTS -/
theorem stmts_ok : ∀ (k : Nat), (∀ {X : L2.Cx} {g : Cg} {cf : CF} {Ex : L2.WX} (o : XS X g cf Ex) {ok : Nat → Bool} {np : Nat} {st : Stmt} {st' : S}, cS g X.N ok k X.env.scope st = some st' → PS X st (tSt X.K X.mg Ex ok cf np st')) ∧
    (∀ {X : L2.Cx} {g : Cg} {cf : CF} {Ex : L2.WX} (o : XS X g cf Ex) {ok : Nat → Bool} {np : Nat} {st : List Stmt} {st' : List S}, cSs g X.N ok k X.env.scope st = some st' → PSs X st (tSts X.K X.mg Ex ok cf np st'))
  | 0 => ⟨fun _ _ _ _ _ h => (nomatch h), fun _ _ _ _ _ h => (nomatch h)⟩
  | k + 1 => by
    obtain ⟨ih, ihs⟩ := stmts_ok k
    refine ⟨fun {X g cf Ex} o {ok np st st'} h => ?_, fun {X g cf Ex} o {ok np st st'} h => ?_⟩
    · have ihE : ∀ {e : Expr} {e' : E}, cE g X.N k X.env.scope e = some e' → PB X cf Ex e e' := fun h => (exprs_ok k).1 o.o h
      have ihI : ∀ {t e : Expr} {i : I}, cI g X.N k X.env.scope t e = some i → PI X t e (tIX X cf Ex i) := fun h => (exprs_ok k).2 o.o h
      rw [cS.eq_def] at h
      simp only at h
      split at h
      · cases h; exact PS.imp L2.ps_pass fun D σ H h => tS_pass h
      · cases h; exact PS.imp L2.ps_break fun D σ H h => tS_brk h
      · cases h; exact PS.imp L2.ps_continue fun D σ H h => tS_cont h
      · split at h
        · cases h
        · rename_i hc
          obtain ⟨e', he, rfl⟩ := Option.map_eq_some_iff.mp h
          exact PS.imp (L2.ps_expr (ihE he).1 (swNo (by simpa using hc))) fun D σ H h => tS_expr h
      · cases h; exact PS.imp L2.ps_retN fun D σ H h => tS_retN h
      · obtain ⟨e', he, rfl⟩ := Option.map_eq_some_iff.mp h
        exact PS.imp (L2.ps_ret (ihE he).1) fun D σ H h => tS_ret h
      · split at h
        · rename_i h1 h2 h3
          cases h
          exact PS.imp (L2.ps_if (ihE h1).2 (ihs o h2) (ihs o h3)) fun D σ H h => tS_if h
        · cases h
      · split at h
        · rename_i h1 h2
          cases h
          exact PS.imp (L2.ps_while o.own (ihE h1).2 (ihs o h2)) fun D σ H h => tS_while h
        · cases h
      · split at h
        · rename_i h1 h2 h3
          cases h
          exact PS.imp (L2.ps_for o.own o.o.calm (ihI h1) (pg_T o.o o.nk k h2) (ihs o h3) (cI_fold h1 _)) fun D σ H h => tS_for ((cT_ok k).1 h2) h
        · cases h
      · -- op=
        rename_i x xp op e pos
        split at h
        · rename_i i p e' h1 h2 h3
          split at h
          · rename_i hc
            rw [Bool.and_eq_true] at hc
            cases h
            have hp : L2.PIp X op (L2.ipI (augF p)) := by
              unfold augP at h2
              split at h2
              · cases h2; exact L2.ip_add
              · cases h2; exact L2.ip_sub
              · cases h2
            exact PS.imp (L2.ps_aug o.o.nd (ixOf_get h1) (o.nk _ hc.2).1 (ihE h3).1 hp (.inl (o.fn _))) fun D σ H h => tS_aug hc.1 h
          · cases h
        · cases h
      · -- name = ..
        split at h
        · rename_i i e' h1 h2
          split at h
          · rename_i hc
            rw [Bool.and_eq_true] at hc
            cases h
            exact ps_nm o h1 hc.1 hc.2 h2
          · cases h
        · cases h
      · -- o[i] = ..
        split at h
        · rename_i h1 h2 h3
          cases h
          exact PS.imp (L2.ps_asg (ihE h3).1 (L2.pg_sub (ihE h1).1 (ihE h2).1 (set_any (by have := o.o.hu; omega)) (cE_assign h2 _ _ _)) swSub swsSub) fun D σ H h => tS_setix h
        · cases h
      · -- a, b = ..
        rename_i ts tk tp e pos
        have gen : isTupE e = false ∨ (∃ vs k2 p2, e = .Tuple vs k2 p2 ∧ swS X.env.scope ts vs = some none) → ∀ {t' e'}, cT ok (ownNm X.env.scope) X.N k (.Tuple ts tk tp) = some t' → cE g X.N k X.env.scope e = some e' → PS X (.Assign [.Tuple ts tk tp] e pos) (tSt X.K X.mg Ex ok cf np (.asg t' e')) := fun hs t' e' h1 h2 => by
          have hw : swappedStores [.Tuple ts tk tp] e X.env = pure none := by
            rcases hs with hs | ⟨vs, k2, p2, rfl, hs⟩
            · exact swsNo hs
            · exact swS_ok o.kind hs
          refine PS.imp (L2.ps_asg (ihE h2).1 (pg_T o.o o.nk k h1) swTup hw) fun D σ H h => tS_asgT ((cT_ok k).1 h1) (fun i z => ?_) h
          subst z
          cases k with
          | zero => cases h1
          | succ k => 
            simp only [cT] at h1
            cases e3 : cTs ok (ownNm X.env.scope) X.N k ts <;> (rw [e3] at h1; cases h1)
        split at h
        · rename_i q hq
          split at h
          · cases h
          · rename_i hT
            obtain ⟨e', he, rfl⟩ := Option.map_eq_some_iff.mp h
            obtain ⟨pg, l1, l2, l3, l4⟩ := starT_ok o.o.nd o.nk hq
            exact PS.imp (L2.ps_asg (ihE he).1 (pg_star o.o.calm pg l2 l3) swTup (swsNo (by simpa using hT))) fun D σ H h => tS_asgR l4 h
        rename_i hst0
        clear hst0
        split at h
        · rename_i hT
          split at h
          · rename_i h1 h2
            cases h
            exact gen (.inl hT) h1 h2
          · cases h
        · split at h
          · rename_i vs k2 p2
            split at h
            · cases h
            · rename_i hs
              split at h
              · rename_i h1 h2
                cases h
                exact gen (.inr ⟨_, _, _, rfl, hs⟩) h1 h2
              · cases h
            · rename_i names hs
              split at h
              · rename_i x px y py a b
                split at h
                · rename_i i j a' b' h1 h2 h3 h4
                  split at h
                  · rename_i hc
                    simp only [Bool.and_eq_true, decide_eq_true_eq, beq_iff_eq] at hc
                    obtain ⟨⟨⟨⟨⟨c1, c2⟩, c3⟩, c4⟩, c5⟩, c6⟩ := hc
                    subst c4
                    cases h
                    have pa : PA X [a, b] (tAX X cf Ex [a', b']) := PEs.pa (g := g) (N := X.N) (k := k) (sc := X.env.scope) (by simp only [mapO, h3, h4]) (.cons (ihE h3).1 (ihE h3).2 (.cons (ihE h4).1 (ihE h4).2 .nil))
                    exact PS.imp (L2.ps_par o.o.calm o.o.nd (ixOf_get h1) (ixOf_get h2) c3 c5 c6 pa (swS_ok o.kind hs) swTup) fun D σ H h => tS_par2 c1 c2 h
                  · cases h
                · cases h
              · rename_i x px y py z pz a b c
                split at h
                · rename_i i j l a' b' c' h1 h2 h3 h4 h5 h6
                  split at h
                  · rename_i hc
                    simp only [Bool.and_eq_true, decide_eq_true_eq, beq_iff_eq] at hc
                    obtain ⟨⟨⟨⟨⟨⟨⟨⟨⟨c1, c2⟩, c3⟩, c4⟩, c5⟩, c6⟩, c7⟩, c8⟩, c9⟩, c10⟩ := hc
                    subst c7
                    cases h
                    have pa : PA X [a, b, c] (tAX X cf Ex [a', b', c']) := PEs.pa (g := g) (N := X.N) (k := k) (sc := X.env.scope) (by simp only [mapO, h4, h5, h6]) (.cons (ihE h4).1 (ihE h4).2 (.cons (ihE h5).1 (ihE h5).2 (.cons (ihE h6).1 (ihE h6).2 .nil)))
                    exact PS.imp (L2.ps_par3 o.o.calm o.o.nd (ixOf_get h1) (ixOf_get h2) (ixOf_get h3) c4 c5 c6 c8 c9 c10 pa (swS_ok o.kind hs) swTup) fun D σ H h => tS_par3 c1 c2 c3 h
                  · cases h
                · cases h
              · cases h
          · cases h
      · cases h
    · cases st with
      | nil =>
        simp only [cSs] at h
        cases h
        exact PSs.imp L2.pss_nil fun D σ H h => tS_nil h
      | cons st r =>
        simp only [cSs] at h
        split at h
        · rename_i h1 h2
          cases h
          exact PSs.imp (L2.pss_cons (ih o h1) (ihs o h2)) fun D σ H h => tS_seq h
        · rename_i h2
          cases h
          exact PSs.imp (L2.pss_cons (PS.imp L2.ps_never fun D σ H h => tS_dead h) (ihs o h2)) fun D σ H h => tS_seq h
        · cases h
end TP

set_option Elab.async false
set_option linter.all false
set_option maxRecDepth 100000
set_option maxHeartbeats 4000000
/-! Sal10: defs. -/
namespace TP
open PySem PySem.Spec PyProof.Rows
open L2 (V Hp HO Key upd upd_same upd_ne SqL SqT Rd Vals Inv PE PT PS PSs Ends FnOk FunD FnScope Binds)

/-! ### how arguments are bound -/
theorem lookup_zip : ∀ {ps : List Str} {us : List Value} {x : Str}, us.length = ps.length → x ∈ ps → ((ps.zip us).lookup x).isSome = true
  | [], us, x, _, h => by simp at h
  | p :: ps, [], x, h, _ => by simp at h
  | p :: ps, u :: us, x, h, hx => by
    simp only [List.zip_cons_cons, List.lookup]
    cases e : x == p with
    | true => rfl
    | false =>
      refine lookup_zip (by simpa using h) ?_
      rcases List.mem_cons.mp hx with z | z
      · subst z; simp at e
      · exact z
theorem fm_congr {α β : Type} {f g : α → Option β} : ∀ {l : List α}, (∀ x ∈ l, f x = g x) → l.filterMap f = l.filterMap g
  | [], _ => rfl
  | x :: l, h => by
    rw [List.filterMap_cons, List.filterMap_cons, h x (List.mem_cons_self ..), fm_congr fun y hy => h y (List.mem_cons_of_mem _ hy)]
theorem zip_self : ∀ {ps : List Str} {us : List Value}, us.length = ps.length → ps.Nodup → (ps.filterMap fun n => ((ps.zip us).lookup n).map fun v => (n, v)) = ps.zip us
  | [], us, _, _ => by simp
  | p :: ps, [], h, _ => by simp at h
  | p :: ps, u :: us, h, nd => by
    obtain ⟨h1, h2⟩ := List.nodup_cons.mp nd
    have ih := zip_self (ps := ps) (us := us) (by simpa using h) h2
    have e : (ps.filterMap fun n => (((p :: ps).zip (u :: us)).lookup n).map fun v => (n, v)) = ps.filterMap fun n => ((ps.zip us).lookup n).map fun v => (n, v) := by
      refine fm_congr fun n hn => ?_
      have ne : (n == p) = false := by
        rw [beq_eq_false_iff_ne]
        intro z
        subst z
        exact h1 hn
      simp only [List.zip_cons_cons, List.lookup, ne]
    rw [List.filterMap_cons]
    simp only [List.zip_cons_cons, List.lookup, beq_self_eq_true, Option.map_some] at e ⊢
    rw [e, ih]
theorem bind_plain {as : List Arg} {x qual : Str} {body : List Stmt} {scope : Scope} {kV doc pm : Value} {an : Option Addr} {cdv ct : Value} {us : List Value} (hl : us.length = (as.map (·.arg)).length) (nd : (as.map (·.arg)).Nodup) :
    bindArgs (PySem.W.fnOf x qual ⟨[], as, none, [], [], none, []⟩ body scope .none kV doc pm an cdv ct) ⟨us, []⟩ = pure ((as.map (·.arg)).zip us) := by
  have hl2 : us.length = as.length := by simpa using hl
  have hm : ((as.map (·.arg)).filter fun n => (((as.map (·.arg)).zip us).lookup n).isNone) = [] := by
    rw [List.filter_eq_nil_iff]
    intro n hn
    have := lookup_zip hl hn
    simp only [Option.isNone_iff_eq_none]
    intro z
    rw [z] at this
    cases this
  have hz := zip_self hl nd
  rw [List.filterMap_map] at hz
  have ht : (as.map (·.arg)).take as.length = as.map (·.arg) := List.take_of_length_le (by simp)
  unfold bindArgs
  have e0 : seqItems? Value.none = pure none := rfl
  simp only [PySem.W.fnOf, List.map_nil, List.nil_append]
  simp [e0, hl2, hm, ht]
  exact congrArg pure hz
def plainPs (p : Arguments) (ps : List Str) : Bool := match p with
  | ⟨[], as, none, [], [], none, []⟩ => decide (as.map (·.arg) = ps)
  | _ => false
theorem binds_plain {K : PySem.W.Frag} {x qual : Str} {params : Arguments} {body : List Stmt} {scope : Scope} {kws : List (Str × V)} {f : Addr} {fd : FuncData} {ps : List Str} (F : FunD K x qual params body scope [] kws f fd) (h : plainPs params ps = true) (nd : ps.Nodup) :
    Binds K fd ps [] ∧ ∀ (s : Shared) (us : List Value), us.length = ps.length → BindsTo s fd ⟨us, []⟩ (ps.zip us) := by
  unfold plainPs at h
  split at h
  · rw [decide_eq_true_eq] at h
    subst h
    exact ⟨F.bindsN fun _ _ _ _ _ _ us hl => bind_plain hl nd, F.bindsA fun _ _ _ _ _ _ us hl => bind_plain hl nd⟩
  · cases h

/-! ### the params that are stored -/
theorem frz1_len (as : List Sl) (i : Nat) : (frz1 as i).length = as.length := by
  unfold frz1
  split <;> simp
theorem frzA_len : ∀ (is : List Nat) (as : List Sl), (frzA is as).length = as.length
  | [], _ => rfl
  | i :: is, as => (frzA_len is _).trans (frz1_len as i)
theorem frz1_not {as : List Sl} {i j : Nat} {o : PV} (h : (frz1 as i)[j]? = some (.own o)) : as[j]? = some (.own o) ∧ j ≠ i := by
  unfold frz1 at h
  split at h
  · rename_i o1 e
    by_cases hj : j = i
    · subst hj
      rw [List.getElem?_set_self (List.getElem?_eq_some_iff.mp e).1] at h
      cases h
    · rw [List.getElem?_set_ne (Ne.symm hj)] at h
      exact ⟨h, hj⟩
  · rename_i hn
    exact ⟨h, fun z => by subst z; exact hn o h⟩
theorem frzA_not : ∀ {is : List Nat} {as : List Sl} {j : Nat} {o : PV}, (frzA is as)[j]? = some (.own o) → j ∉ is
  | [], as, j, o, _ => by simp
  | i :: is, as, j, o, h => by
    intro hj
    rcases List.mem_cons.mp hj with z | z
    · subst z
      have own : ∀ {is : List Nat} {as : List Sl} {j : Nat} {o : PV}, (frzA is as)[j]? = some (.own o) → as[j]? = some (.own o) := by
        intro is
        induction is with
        | nil => intro as j o h; exact h
        | cons i is ih => intro as j o h; exact (frz1_not (ih h)).1
      exact (frz1_not (own h)).2 rfl
    · exact frzA_not (is := is) (as := frz1 as i) h z
theorem frz_rel {K : PySem.W.Frag} {mg : Str → Option Value} {H : Hp} {σ : L2.St} {sto : List SO} : ∀ {is : List Nat} {as : List Sl} {G : Gh}, Rel K mg G ⟨as, sto⟩ σ H → ∃ G', Rel K mg G' ⟨frzA is as, sto⟩ σ H ∧ Step G H G' H
  | [], as, G, R => ⟨G, R, .refl⟩
  | i :: is, as, G, R => by
    have one : ∃ G', Rel K mg G' ⟨frz1 as i, sto⟩ σ H ∧ Step G H G' H := by
      unfold frz1
      split
      · rename_i o e
        obtain ⟨a, e1, g, ob⟩ := R.own (i := i) e
        have h2 : G a ≠ .fz := fz_of g (fun z => nomatch z)
        have h3 : ∀ l, G a ≠ .loc l := loc_of g (fun _ z => nomatch z)
        exact ⟨_, R.frzSlot (i := i) e e1 g ob, Step.refl.tag (by rw [g]; exact fun z => nomatch z) h2 h3⟩
      · exact ⟨G, R, .refl⟩
    obtain ⟨G1, R1, st1⟩ := one
    obtain ⟨G2, R2, st2⟩ := frz_rel (is := is) R1
    exact ⟨G2, R2, st1.trans st2⟩
theorem finA_get {asg : List Nat} {env : List Sl} : ∀ {as : List Sl} {k j : Nat}, (finA asg k as env)[j]? = (as[j]?).map fun a => if k + j ∈ asg then a else env.getD (k + j) .un
  | [], k, j => by simp [finA]
  | a :: as, k, 0 => by simp [finA]
  | a :: as, k, j + 1 => by
    simp only [finA, List.getElem?_cons_succ]
    rw [finA_get, show k + 1 + j = k + (j + 1) from by omega]
theorem finA_len {asg : List Nat} {env : List Sl} : ∀ {as : List Sl} {k : Nat}, (finA asg k as env).length = as.length
  | [], k => rfl
  | a :: as, k => by simp only [finA, List.length_cons]; rw [finA_len]
def okOf (np : Nat) (asg : List Nat) : Nat → Bool := fun j => decide (np ≤ j) || decide (j ∈ asg)
/-- what the params hold behind the body -/
theorem fin_rel {K : PySem.W.Frag} {mg : Str → Option Value} {G0 G : Gh} {H0 H : Hp} {as : List Sl} {sto : List SO} {asg : List Nat} {vs : List V} {N : List Str} {s' : SS} {σ' : L2.St} (hl : as.length = vs.length) (h0 : ∀ j ∈ asg, ∀ o, as[j]? ≠ some (.own o))
    (R0 : Rel K mg G0 ⟨as ++ List.replicate (N.length - vs.length) .un, sto⟩ (L2.start N vs) H0) (st : Step G0 H0 G H) (R : Rel K mg G s' σ' H) (k : keepS (okOf vs.length asg) (L2.start N vs) σ') : Rel K mg G ⟨finA asg 0 as s'.env, s'.sto⟩ (vs.map some) H := by
  refine ⟨by simp [finA_len, hl], fun j sl ej => ?_, R.sto, R.uniq, R.trk, R.lim⟩
  have ej : (finA asg 0 as s'.env)[j]? = some sl := ej
  rw [finA_get, Nat.zero_add] at ej
  obtain ⟨a, ea, e2⟩ := Option.map_eq_some_iff.mp ej
  have hj : j < as.length := (List.getElem?_eq_some_iff.mp ea).1
  have ev : ∃ v, vs[j]? = some v := ⟨vs[j]'(hl ▸ hj), by simp [hl ▸ hj]⟩
  obtain ⟨v, ev⟩ := ev
  have e3 : ((vs.map some)[j]?).join = some v := by rw [List.getElem?_map, ev]; rfl
  have e4 : (L2.start N vs)[j]? = some (some v) := by
    unfold L2.start
    rw [List.getElem?_append_left (by simpa using hl ▸ hj), List.getElem?_map, ev]
    rfl
  rw [e3]
  by_cases hm : j ∈ asg
  · rw [if_pos hm] at e2
    subst e2
    have sr := R0.slots j a (by show (as ++ _)[j]? = _; rw [List.getElem?_append_left hj]; exact ea)
    rw [e4] at sr
    cases a with
    | un => trivial
    | val w =>
      obtain ⟨y, e5, p⟩ := sr
      exact ⟨y, e5, p.step st.mono⟩
    | own o => exact absurd ea (h0 j hm o)
  · rw [if_neg hm] at e2
    have hk : okOf vs.length asg j = false := by
      unfold okOf
      simp [hm, hl ▸ hj]
    have e5 := k.2 j hk
    rw [e4] at e5
    cases e6 : s'.env[j]? with
    | none =>
      have : s'.env.getD j .un = .un := by rw [List.getD_eq_getElem?_getD, e6]; rfl
      rw [this] at e2
      subst e2
      trivial
    | some sl2 =>
      have : s'.env.getD j .un = sl2 := by rw [List.getD_eq_getElem?_getD, e6]; rfl
      rw [this] at e2
      subst e2
      have sr := R.slots j sl2 e6
      rw [e5] at sr
      exact sr
/-- a body keeps the def's promise -/
theorem body_ok {K : PySem.W.Frag} {mg : Str → Option Value} {cf : CF} {d : Fd} {N : List Str} {vs : List V} {H : Hp} {Q : L2.VK} {E : L2.XK} {G : Gh} {as : List Sl} {sto : List SO} (hN : N.length = d.ns) (R : Rel K mg G ⟨as, sto⟩ (vs.map some) H)
    (h : (∃ r fin sto', runFd cf d as sto = .ok r fin sto' ∧ ∀ G' H' x, Rel K mg G' ⟨fin, sto'⟩ (vs.map some) H' → Step G H G' H' → RVR K mg G G' H' [] r x → Q x H') ∨
      (∃ e fin sto', runFd cf d as sto = .exc e fin sto' ∧ ∀ G' H' C a, Rel K mg G' ⟨fin, sto'⟩ (vs.map some) H' → Step G H G' H' → ExnR K mg G' H' e C a → E C a H')) :
    tSts K mg (fun c a _ H => E c a H) (okOf d.np d.asg) cf d.np d.body { nx := fun _ H' => Q .non H', rt := Q } (L2.start N vs) H := by
  have hlv : as.length = vs.length := by have := R.len; simpa using this
  unfold runFd at h
  by_cases hc : as.length = d.np ∧ d.np ≤ d.ns
  · rw [if_pos hc] at h
    obtain ⟨hn, hle⟩ := hc
    obtain ⟨G1, R1, st1⟩ := frz_rel (is := d.asg) R
    have hlf : (frzA d.asg as).length = vs.length := (frzA_len _ _).trans hlv
    have hnp : d.np = vs.length := hn.symm.trans hlv
    have Rs : Rel K mg G1 ⟨frzA d.asg as ++ List.replicate (N.length - vs.length) .un, sto⟩ (L2.start N vs) H := by
      refine R1.unset (by unfold L2.start; simp [hlf]) fun j sl ej => ?_
      by_cases hj : j < (frzA d.asg as).length
      · rw [List.getElem?_append_left hj] at ej
        refine .inr ⟨ej, ?_⟩
        unfold L2.start
        rw [List.getElem?_append_left (by simpa using hlf ▸ hj)]
      · rw [List.getElem?_append_right (by omega), List.getElem?_replicate] at ej
        split at ej
        · cases ej; exact .inl rfl
        · cases ej
    have h0 : ∀ j ∈ d.asg, ∀ o, (frzA d.asg as)[j]? ≠ some (.own o) := fun j hj o e => frzA_not e hj
    have e0 : d.ns - d.np = N.length - vs.length := by rw [hN, hnp]
    rw [e0] at h
    refine ⟨G1, _, Rs, ?_⟩
    have fin : ∀ {G' : Gh} {σ' : L2.St} {H' : Hp} {s' : SS}, Rel K mg G' s' σ' H' → Step G1 H G' H' → keepS (okOf d.np d.asg) (L2.start N vs) σ' → Rel K mg G' ⟨finA d.asg 0 (frzA d.asg as) s'.env, s'.sto⟩ (vs.map some) H' := fun R' st' k' =>
      fin_rel hlf h0 Rs st' R' (hnp ▸ k')
    cases ex : execSs cf d.np d.body ⟨frzA d.asg as ++ List.replicate (N.length - vs.length) .un, sto⟩ with
    | bad => simp only [ex] at h; rcases h with ⟨_, _, _, z, _⟩ | ⟨_, _, _, z, _⟩ <;> cases z
    | exc x s' =>
      simp only [ex] at h
      rcases h with ⟨_, _, _, z, _⟩ | ⟨_, _, _, z, h⟩ <;> cases z
      exact .inr ⟨x, s', rfl, fun G' σ' H' C a R' st' k' q => h G' H' C a (fin R' st' k') (st1.trans st') q⟩
    | ok fl s' =>
      simp only [ex] at h
      refine .inl ⟨fl, s', rfl, fun G' σ' H' R' st' k' => ?_⟩
      cases fl with
      | nx =>
        rcases h with ⟨_, _, _, z, h⟩ | ⟨_, _, _, z, _⟩ <;> cases z
        exact h G' H' .non (fin R' st' k') (st1.trans st') .non
      | rt r =>
        rcases h with ⟨_, _, _, z, h⟩ | ⟨_, _, _, z, _⟩ <;> cases z
        exact fun x rv => h G' H' x (fin R' st' k') (st1.trans st') (rv.back st1)
      | br => rcases h with ⟨_, _, _, z, _⟩ | ⟨_, _, _, z, _⟩ <;> cases z
      | ct => rcases h with ⟨_, _, _, z, _⟩ | ⟨_, _, _, z, _⟩ <;> cases z
  · rw [if_neg hc] at h
    rcases h with ⟨_, _, _, z, _⟩ | ⟨_, _, _, z, _⟩ <;> cases z
/-! ### calls by keywords -/
def pmV {α : Type} (d : α) (xs : List α) : List (Sum Nat PV) → List α
  | [] => []
  | .inl i :: r => xs.getD i d :: pmV d xs r
  | .inr _ :: r => d :: pmV d xs r
def pmB (m : Nat) : List (Sum Nat PV) → Bool
  | [] => true
  | .inl i :: r => decide (i < m) && pmB m r
  | .inr _ :: _ => false
def KpOk (params : Arguments) (ps : List Str) (p : KP) : Prop := pmB (p.n + p.ks.length) p.pm = true ∧ ∀ (x qual : Str) (body : List Stmt) (scope : Scope) (kV doc pm : Value) (an : Option Addr) (cdv ct : Value) (us ws : List Value), us.length = p.n → ws.length = p.ks.length →
  bindArgs (PySem.W.fnOf x qual params body scope .none kV doc pm an cdv ct) ⟨us, p.ks.zip ws⟩ = pure (ps.zip (pmV .none (us ++ ws) p.pm))
theorem pmV_vals {vs : List V} {us : List Value} (h : Vals vs us) : ∀ pm : List (Sum Nat PV), Vals (pmV .non vs pm) (pmV .none us pm)
  | [] => .nil
  | .inl i :: r => by
    refine .cons ?_ (pmV_vals h r)
    rw [List.getD_eq_getElem?_getD, List.getD_eq_getElem?_getD]
    cases e : vs[i]? with
    | none => rw [h.none_of e]; rfl
    | some x =>
      obtain ⟨u, e2, r2⟩ := h.get e
      rw [e2]
      exact r2
  | .inr _ :: r => .cons rfl (pmV_vals h r)
theorem pmV_rel {K : PySem.W.Frag} {mg : Str → Option Value} {xs : List V} : ∀ {pm : List (Sum Nat PV)}, pmB xs.length pm = true → PmRel K mg pm xs (pmV .non xs pm)
  | [], _ => ⟨rfl, fun j c h => by simp at h⟩
  | .inl i :: r, h => by
    simp only [pmB, Bool.and_eq_true, decide_eq_true_eq] at h
    obtain ⟨l, q⟩ := pmV_rel (K := K) (mg := mg) h.2
    refine ⟨by simp [pmV, l], fun j c hc => ?_⟩
    cases j with
    | zero =>
      simp at hc
      subst hc
      simp only [pmV, List.getElem?_cons_zero, List.getD_eq_getElem?_getD]
      rw [List.getElem?_eq_getElem h.1]
      rfl
    | succ j =>
      have := q j c (by simpa using hc)
      cases c <;> simpa [pmV] using this
  | .inr _ :: _, h => by cases h
theorem kwB_of {K : PySem.W.Frag} {mg : Str → Option Value} {x qual : Str} {params : Arguments} {body : List Stmt} {scope : Scope} {kws : List (Str × V)} {f : Addr} {fd : FuncData} {ps : List Str} {p : KP} (F : FunD K x qual params body scope [] kws f fd) (h : KpOk params ps p) : KwB K mg fd ps p := by
  obtain ⟨hb, h⟩ := h
  obtain ⟨oc, od, dV, kV, doc, pm, an, cdv, ct, osl, rfl, lk, hcd, hD, hK⟩ := F.ex
  rcases hD with ⟨_, rfl⟩ | ⟨e, _⟩
  · exact ⟨fun us ws => pmV .none (us ++ ws) p.pm, fun vs zs => pmV .non (vs ++ zs) p.pm, ⟨fun s us ws X l1 l2 => .of_eq (h x qual body scope kV doc pm an cdv ct us ws l1 l2), fun r1 r2 => pmV_vals (r1.append r2) p.pm⟩,
      fun vs zs l1 l2 => pmV_rel (by rw [List.length_append, l1, l2]; exact hb)⟩
  · exact absurd rfl e
/-- the whole text -/
structure Prog (w : World) (K : PySem.W.Frag) (mg : Str → Option Value) (g : Cg) (tab : Tab) : Prop where
  bn : ∀ b ∈ bnames, mg b = none
  con : ∀ x v, g.con.lookup x = some v → ∃ u V, mg x = some u ∧ L2.RelV V u ∧ ∀ G H, PVR K mg G H v V
  fns : ∀ f ∈ g.fns, ∃ (d : Fd) (qual : Str) (params : Arguments) (body : List Stmt) (scope : Scope) (kws : List (Str × V)) (a : Addr) (fd : FuncData) (N ps : List Str) (k : Nat), tab.lookup f = some d ∧ FunD K f qual params body scope [] kws a fd ∧ mg f = some (.ref a) ∧
    plainPs params ps = true ∧ FnScope N ps scope ∧ N.length = d.ns ∧ ps.length = d.np ∧ cSs g N (okOf d.np d.asg) k scope body = some d.body ∧ ∀ p ∈ g.kps, p.f = f → KpOk params ps p
  dcs : ∀ x tb, g.dcs.lookup x = some tb → DcOk K w mg (x, tb)
theorem FnScope.psNd {N ps : List Str} {sc : Scope} (S : FnScope N ps sc) : ps.Nodup := by rw [← S.pre]; exact S.nd.sublist (List.take_sublist _ _)
theorem prog_ok {P : Program} {w : World} {K : PySem.W.Frag} {mg : Str → Option Value} {g : Cg} {tab : Tab} (p : Prog w K mg g tab) : ∀ (n : Nat), ∀ f ∈ g.fns, ∃ (a : Addr) (fd : FuncData) (ps : List Str), (∀ base : Heap, FnOk P w K mg base (L2.CX P w) n a fd ps (spF K mg (callF tab n) f)) ∧
    mg f = some (.ref a) ∧ PySem.W.keepIn K (.ref a) = true ∧ Binds K fd ps [] ∧ (∀ (s : Shared) (us : List Value), us.length = ps.length → BindsTo s fd ⟨us, []⟩ (ps.zip us)) ∧ ∀ p ∈ g.kps, p.f = f → KwB K mg fd ps p
  | 0, f, hf => by
    obtain ⟨d, qual, params, body, scope, kws, a, fd, N, ps, k, h1, F, hm, hp, S, hN, hps, hc, hkp⟩ := p.fns f hf
    have no : ∀ vs H Q E, spF K mg (callF tab 0) f vs H Q E → False := fun vs H Q E h => by
      obtain ⟨G, as, sto, R, h⟩ := h
      rcases h with ⟨_, _, _, z, _⟩ | ⟨_, _, _, z, _⟩ <;> cases z
    obtain ⟨b1, b2⟩ := binds_plain F hp (FnScope.psNd S)
    exact ⟨a, fd, ps, fun base => ⟨fun vs H Q E h => (no vs H Q E h).elim, fun A outer s H args us vs Q E _ _ _ _ h => (no vs H Q E h).elim⟩, hm, F.kp, b1, b2, fun q hq e => kwB_of F (hkp q hq e)⟩
  | n + 1, f, hf => by
    obtain ⟨d, qual, params, body, scope, kws, a, fd, N, ps, k, h1, F, hm, hp, S, hN, hps, hc, hkp⟩ := p.fns f hf
    obtain ⟨b1, b2⟩ := binds_plain F hp (FnScope.psNd S)
    have un : ∀ as sto, callF tab (n + 1) f as sto = runFd (callF tab n) d as sto := fun as sto => by
      show (match tab.lookup f with | some d => runFd (callF tab n) d as sto | none => .bad) = _
      rw [h1]
    refine ⟨a, fd, ps, fun base => F.ok S (fun vs H Q E h => ?_) (fun cdv A outer s H vs Q E hr h => ?_), hm, F.kp, b1, b2, fun q hq e => kwB_of F (hkp q hq e)⟩
    · obtain ⟨G, as, sto, R, h⟩ := h
      have hlv : as.length = vs.length := by have := R.len; simpa using this
      have hd : as.length = d.np := by
        rw [un] at h
        unfold runFd at h
        by_cases hc : as.length = d.np ∧ d.np ≤ d.ns
        · exact hc.1
        · rw [if_neg hc] at h
          rcases h with ⟨_, _, _, z, _⟩ | ⟨_, _, _, z, _⟩ <;> cases z
      rw [hps, ← hd, hlv]
    · obtain ⟨G, as, sto, R, h⟩ := h
      rw [un] at h
      have bo := body_ok hN R h
      refine ⟨_, (stmts_ok k).2 (X := L2.cxOf (L2.CX P w) P w K mg base N qual scope a cdv A outer s H E) (g := g) (cf := callF tab n) (Ex := fun c a _ H => E c a H) ⟨⟨rfl, S.nd, hr.mono (Nat.zero_le _), p.bn, p.con, fun f' hf' => ?_, p.dcs, fun σ => ?_⟩, fun _ => rfl, S.kind, ?_⟩ (ok := okOf d.np d.asg) (np := d.np) hc, bo⟩
      · obtain ⟨a', fd', ps', F', hm', hk', hb', _, hkw⟩ := prog_ok (P := P) (w := w) p n f' hf'
        exact ⟨n, a', fd', ps', F' base, hr, hm', hk', hb', hkw⟩
      · exact L2.passAt (L2.takes_of rfl rfl rfl rfl) σ
      · exact L2.passes_of rfl
end TP

set_option Elab.async false
set_option linter.all false
set_option maxRecDepth 100000
set_option maxHeartbeats 4000000
/-! Sal11: the head's facts, the law's end. -/
namespace TP
open PySem PySem.Spec PyProof.Rows
open L2 (V Hp HO Key upd upd_same upd_ne SqL SqT Rd Vals Inv FnOk FunD FnScope Binds)

/-! ### constants of the module -/
mutual
/-- what stands in the module's heap is this value -/
def conB (K : PySem.W.Frag) : PV → Value → Bool
  | .non, .none => true
  | .bl b, .bool c => b == c
  | .int i, .int j _ => decide (i = j)
  | .str x, .str y _ => decide (y = ⟨x.toArray⟩)
  | .tup xs, .ref a => (match K.lookup a with
    | some ⟨.type c, _, .seq its _, _⟩ => decide (c = "tuple") && (decide (its.size ≤ sizeLine) && conBs K xs its.toList)
    | _ => false)
  | .rol xs, .ref a => (match K.lookup a with
    | some ⟨.type c, none, .seq its _, _⟩ => decide (c = "list") && (decide (its.size ≤ sizeLine) && conBs K xs its.toList)
    | _ => false)
  | .glo x, .ref a => decide (PySem.W.nsIn K mainGlobals x = some (some (.ref a)))
  | .ty n, .type m => decide (n = m)
  | _, _ => false
def conBs (K : PySem.W.Frag) : List PV → List Value → Bool
  | [], [] => true
  | x :: xs, u :: us => conB K x u && conBs K xs us
  | _, _ => false
end
section
variable {K : PySem.W.Frag} {h : Heap} {mg : Str → Option Value}
mutual
theorem conB_ok (X : K.In h) (Gn : h.Ns mainGlobals mg) : ∀ {v : PV} {u : Value}, conB K v u = true → ∃ x, L2.RelV x u ∧ ∀ G H, PVR K mg G H v x
  | .non, u, e => by
    cases u with
    | none => exact ⟨.non, rfl, fun _ _ => .non⟩
    | _ => cases e
  | .bl b, u, e => by
    cases u with
    | bool c =>
      have e2 : (b == c) = true := e
      have e3 : b = c := eq_of_beq e2
      subst e3
      exact ⟨.bl b, rfl, fun _ _ => .bl b⟩
    | _ => cases e
  | .int i, u, e => by
    cases u with
    | int j t =>
      have e2 : i = j := of_decide_eq_true e
      subst e2
      exact ⟨.int i, ⟨t, rfl⟩, fun _ _ => .int i⟩
    | _ => cases e
  | .str x, u, e => by
    cases u with
    | str y t =>
      have e2 : y = ⟨x.toArray⟩ := of_decide_eq_true e
      subst e2
      exact ⟨.str _, ⟨t, rfl⟩, fun _ _ => .str x⟩
    | _ => cases e
  | .tup xs, u, e => by
    cases u with
    | ref a =>
      have e2 : (match K.lookup a with
        | some ⟨.type c, _, .seq its _, _⟩ => decide (c = "tuple") && (decide (its.size ≤ sizeLine) && conBs K xs its.toList)
        | _ => false) = true := by unfold conB at e; exact e
      split at e2
      · rename_i c od its n osl q
        simp only [Bool.and_eq_true, decide_eq_true_eq] at e2
        obtain ⟨e3, e4, e5⟩ := e2
        obtain ⟨Vs, hv, hp⟩ := conBs_ok X Gn e5
        exact ⟨.ref a, rfl, fun G H => .tup (.inr ⟨_, its, n, q, congrArg Value.type e3, rfl, e4, hv⟩) (hp G H)⟩
      · cases e2
    | _ => cases e
  | .rol xs, u, e => by
    cases u with
    | ref a =>
      have e2 : (match K.lookup a with
        | some ⟨.type c, none, .seq its _, _⟩ => decide (c = "list") && (decide (its.size ≤ sizeLine) && conBs K xs its.toList)
        | _ => false) = true := by unfold conB at e; exact e
      split at e2
      · rename_i c its n osl q
        simp only [Bool.and_eq_true, decide_eq_true_eq] at e2
        obtain ⟨e3, e4, e5⟩ := e2
        obtain ⟨Vs, hv, hp⟩ := conBs_ok X Gn e5
        exact ⟨.ref a, rfl, fun G H => .rol (.inr ⟨_, its, n, q, congrArg Value.type e3, rfl, rfl, e4, hv⟩) (hp G H)⟩
      · cases e2
    | _ => cases e
  | .glo x, u, e => by
    cases u with
    | ref a =>
      have e2 : PySem.W.nsIn K mainGlobals x = some (some (.ref a)) := of_decide_eq_true e
      exact ⟨.ref a, rfl, fun _ _ => .glo (PySem.W.mg_of X Gn e2)⟩
    | _ => cases e
  | .ty n, u, e => by
    cases u with
    | type m =>
      have e2 : n = m := of_decide_eq_true e
      subst e2
      exact ⟨.ty n, rfl, fun _ _ => .ty n⟩
    | _ => cases e
  | .lst _, u, e => by cases u <;> cases e
  | .dct _ _, u, e => by cases u <;> cases e
  | .ref _, u, e => by cases u <;> cases e
theorem conBs_ok (X : K.In h) (Gn : h.Ns mainGlobals mg) : ∀ {vs : List PV} {us : List Value}, conBs K vs us = true → ∃ xs, Vals xs us ∧ ∀ G H, PVRs K mg G H vs xs
  | [], [], _ => ⟨[], .nil, fun _ _ => .nil⟩
  | [], _ :: _, e => by cases e
  | _ :: _, [], e => by cases e
  | v :: vs, u :: us, e => by
    have e2 : (conB K v u && conBs K vs us) = true := by unfold conBs at e; exact e
    rw [Bool.and_eq_true] at e2
    obtain ⟨x, r, p⟩ := conB_ok X Gn e2.1
    obtain ⟨xs, rs, ps⟩ := conBs_ok X Gn e2.2
    exact ⟨x :: xs, .cons r rs, fun G H => .cons (p G H) (ps G H)⟩
end
end
def conN (K : PySem.W.Frag) (q : Str × PV) : Bool := match PySem.W.nsIn K mainGlobals q.1 with
  | some (some u) => conB K q.2 u
  | _ => false
/-! ### the Hook -/
abbrev Dcs := List (Str × List (List Nat × PV))
def dcA (K : PySem.W.Frag) (x : Str) : Addr := match PySem.W.nsIn K mainGlobals x with
  | some (some (.ref a)) => a
  | _ => 0
def dcB (K : PySem.W.Frag) (q : Str × List (List Nat × PV)) : Bool := decide (PySem.W.nsIn K mainGlobals q.1 = some (some (.ref (dcA K q.1)))) && q.2.all fun r => match PySem.W.nsIn K (dcA K q.1) ⟨r.1.toArray⟩ with
  | some (some u) => conB K r.2 u
  | _ => false
abbrev AlC : Type := He.AlD × Bool × List (Option (List (Option (Str × Int))))
def obsC (fa : List He.Fa) (fn : List He.DefD) (con : List (Str × PV)) (dcs : Dcs) (K : PySem.W.Frag) : AlC := (He.obsD fa fn K, (con.all fun q => conN K q) && dcs.all (fun q => dcB K q), dcs.map fun q => He.dicW K (dcA K q.1))
def valC (fn : List He.DefD) (dcs : Dcs) (w : World) : AlC := (He.valD fn, true, dcs.map fun q => some (He.keysIn w.params (q.2.map fun r => (⟨r.1.toArray⟩ : Str))))
def SaysC (fa : List He.Fa) (fn : List He.DefD) (con : List (Str × PV)) (dcs : Dcs) (w : World) (K : PySem.W.Frag) : Prop := obsC fa fn con dcs K = valC fn dcs w
def obsCG (n : Nat) (fa : List He.Fa) (fn : List He.DefD) (con : List (Str × PV)) (dcs : Dcs) (g : Addr → Option Obj) : AlC := obsC fa fn con dcs (He.frG g (He.asD g n))
def hookC (n : Nat) (fa : List He.Fa) (fn : List He.DefD) (con : List (Str × PV)) (dcs : Dcs) : PySem.W.Hook where
  α := AlC
  obs := fun s => obsCG n fa fn con dcs s.heap.get?
  val := fun w => valC fn dcs w
  says := fun w h => ∃ K : PySem.W.Frag, K.In h ∧ SaysC fa fn con dcs w K
  of := fun _ _ e => ⟨_, He.frG_in, e⟩
  keeps := fun _ _ _ ⟨K, hK, c⟩ k => ⟨K, PySem.W.Frag.In.keeps hK k, c⟩
theorem obsCG_eq {n : Nat} {fa : List He.Fa} {fn : List He.DefD} {con : List (Str × PV)} {dcs : Dcs} {g : Addr → Option Obj} {s : Shared} (h : ∀ a, g a = s.heap.get? a) : obsCG n fa fn con dcs g = (hookC n fa fn con dcs).obs s := by
  have e : g = s.heap.get? := funext h
  rw [e] <;> rfl
section
variable {fa : List He.Fa} {fn : List He.DefD} {con : List (Str × PV)} {dcs : Dcs} {w : World} {K : PySem.W.Frag}
theorem SaysC.d (c : SaysC fa fn con dcs w K) : He.SaysD fa fn K := congrArg (fun z : AlC => z.1) c
theorem SaysC.two (c : SaysC fa fn con dcs w K) : (con.all fun q => conN K q) = true ∧ (dcs.all fun q => dcB K q) = true := by
  have : ((con.all fun q => conN K q) && dcs.all (fun q => dcB K q)) = true := congrArg (fun z : AlC => z.2.1) c
  rw [Bool.and_eq_true] at this
  exact this
theorem SaysC.cn (c : SaysC fa fn con dcs w K) {x : Str} {v : PV} (h : (x, v) ∈ con) : conN K (x, v) = true :=
  List.all_eq_true.mp c.two.1 _ h
theorem SaysC.dc (c : SaysC fa fn con dcs w K) {q : Str × List (List Nat × PV)} (h : q ∈ dcs) : dcB K q = true ∧ ∃ es n, L2.KDict K w (dcA K q.1) es n := by
  refine ⟨List.all_eq_true.mp c.two.2 _ h, ?_⟩
  have e : (dcs.map fun q => He.dicW K (dcA K q.1)) = dcs.map fun q => some (He.keysIn w.params (q.2.map fun r => (⟨r.1.toArray⟩ : Str))) := congrArg (fun z : AlC => z.2.2) c
  exact He.dicW_ok (List.map_inj_left.mp e q h)
end
theorem con_ok {K : PySem.W.Frag} {h : Heap} {mg : Str → Option Value} (X : K.In h) (Gn : h.Ns mainGlobals mg) {x : Str} {v : PV} (c : conN K (x, v) = true) : ∃ u V, mg x = some u ∧ L2.RelV V u ∧ ∀ G H, PVR K mg G H v V := by
  have c : (match PySem.W.nsIn K mainGlobals x with
    | some (some u) => conB K v u
    | _ => false) = true := c
  split at c
  · rename_i u e
    obtain ⟨V, r, p⟩ := conB_ok X Gn c
    exact ⟨u, V, PySem.W.mg_of X Gn e, r, p⟩
  · cases c
theorem lookup_memL {α : Type} {x : List Nat} {v : α} : ∀ {l : List (List Nat × α)}, l.lookup x = some v → (x, v) ∈ l
  | [], h => by cases h
  | (y, w) :: r, h => by
    simp only [List.lookup] at h
    cases e : x == y with
    | true =>
      rw [e] at h
      cases h
      rw [eq_of_beq e]
      exact List.mem_cons_self ..
    | false =>
      rw [e] at h
      exact List.mem_cons_of_mem _ (lookup_memL h)
theorem lookup_mem {α : Type} {x : Str} {v : α} : ∀ {l : List (Str × α)}, l.lookup x = some v → (x, v) ∈ l
  | [], h => by cases h
  | (y, w) :: r, h => by
    simp only [List.lookup] at h
    cases e : x == y with
    | true =>
      rw [e] at h
      cases h
      rw [eq_of_beq e]
      exact List.mem_cons_self ..
    | false =>
      rw [e] at h
      exact List.mem_cons_of_mem _ (lookup_mem h)

theorem dc_ok {w : World} {K : PySem.W.Frag} {h : Heap} {mg : Str → Option Value} (X : K.In h) (Gn : h.Ns mainGlobals mg) {q : Str × List (List Nat × PV)} (c : dcB K q = true) (d : ∃ es n, L2.KDict K w (dcA K q.1) es n) : DcOk K w mg q := by
  unfold dcB at c
  rw [Bool.and_eq_true, decide_eq_true_eq] at c
  obtain ⟨es, n, kd⟩ := d
  refine ⟨dcA K q.1, es, n, PySem.W.mg_of X Gn c.1, kd, fun z v hl => ?_⟩
  have hm := lookup_memL hl
  have c2 := List.all_eq_true.mp c.2 _ hm
  simp only at c2
  split at c2
  · rename_i u e
    obtain ⟨V, r, p⟩ := conB_ok X Gn c2
    exact ⟨u, V, e, r, p⟩
  · cases c2

/-! ### a text as data -/
/-- one def of the text: where its statement stands, its names, its tree -/
structure Df where
  name : Str
  st : Stmt
  N : List Str
  fd : Fd
def Df.args (d : Df) : Arguments := match d.st with
  | .FunctionDef _ a _ _ _ _ _ _ _ _ => a
  | _ => ⟨[], [], none, [], [], none, []⟩
def Df.body (d : Df) : List Stmt := match d.st with
  | .FunctionDef _ _ b _ _ _ _ _ _ _ => b
  | _ => []
def Df.scope (d : Df) : Scope := match d.st with
  | .FunctionDef _ _ _ _ _ _ s _ _ _ => s
  | _ => ⟨.function, [], false, false, []⟩
def Df.defD (d : Df) : He.DefD := ⟨(d.name, none), d.name, d.name, d.args, d.body, d.scope, [], []⟩
/-- what stands beside the defs: constants, calls by keywords, held defs, dicts -/
structure Md where
  con : List (Str × PV) := []
  kps : List KP := []
  hds : List Str := []
  dcs : Dcs := []
def cgOf (ds : List Df) (m : Md) : Cg := ⟨ds.map (·.name), m.con, m.kps, m.hds, m.dcs⟩
def tabOf (ds : List Df) : Tab := ds.map fun d => (d.name, d.fd)
/-- what is to be looked at of one def -/
def Df.ok (g : Cg) (d : Df) : Bool :=
  plainPs d.args (d.N.take d.fd.np) && (decide (d.scope.kind = .function) && (!d.scope.isCoroutine && (!d.scope.isGenerator && (decide d.N.Nodup && ((d.N.take d.fd.np).all (fun x => d.scope.names.lookup x == some .local || d.scope.names.lookup x == some .cell) &&
    (d.scope.names.all (fun y => decide (y.2 ≠ .free)) && (decide (d.N.length = d.fd.ns) && decide (d.fd.np ≤ d.N.length))))))))
def facts (ds : List Df) : List He.Fa := (ds.map fun d => He.Fa.glo d.name) ++ bnames.map He.Fa.free
theorem getP {ds : List Df} {m : Md} {w : World} {K : PySem.W.Frag} {h : Heap} {mg : Str → Option Value} {k : Nat} (X : K.In h) (Gn : h.Ns mainGlobals mg) (c : SaysC (facts ds) (ds.map Df.defD) m.con m.dcs w K)
    (hk : (ds.all fun d => d.ok (cgOf ds m)) = true) (nd : (ds.map (·.name)).Nodup) (hc : ∀ d ∈ ds, cSs (cgOf ds m) d.N (okOf d.fd.np d.fd.asg) k d.scope d.body = some d.fd.body)
    (hkp : ∀ p ∈ m.kps, ∀ d ∈ ds, p.f = d.name → KpOk d.args (d.N.take d.fd.np) p) : Prog w K mg (cgOf ds m) (tabOf ds) := by
  refine ⟨fun b hb => ?_, fun x v e => con_ok X Gn (c.cn (lookup_mem e)), fun f hf => ?_, fun x tb e => ?_⟩
  · have hm : He.Fa.free b ∈ facts ds := List.mem_append_right _ (List.mem_map.mpr ⟨b, hb, rfl⟩)
    obtain ⟨i, hi, ei⟩ := List.mem_iff_getElem.mp hm
    exact He.free_ok X Gn (c.d.fact i (by rw [List.getElem?_eq_getElem hi, ei]))
  · obtain ⟨d, hd, rfl⟩ := List.mem_map.mp (show f ∈ ds.map (·.name) from hf)
    have hm : He.Fa.glo d.name ∈ facts ds := List.mem_append_left _ (List.mem_map.mpr ⟨d, hd, rfl⟩)
    obtain ⟨i, hi, ei⟩ := List.mem_iff_getElem.mp hm
    have hg := He.glo_ok X Gn (c.d.fact i (by rw [List.getElem?_eq_getElem hi, ei]))
    obtain ⟨j, hj, ej⟩ := List.mem_iff_getElem.mp hd
    obtain ⟨fd, F⟩ := c.d.def_ j (d := d.defD) (by rw [List.getElem?_map, List.getElem?_eq_getElem hj, ej]; rfl)
    have ok := List.all_eq_true.mp hk d hd
    unfold Df.ok at ok
    simp only [Bool.and_eq_true, decide_eq_true_eq, Bool.not_eq_true', List.all_eq_true, Bool.or_eq_true, beq_iff_eq] at ok
    obtain ⟨o1, o2, o3, o4, o5, o6, o7, o8, o9⟩ := ok
    have hl : (tabOf ds).lookup d.name = some d.fd := by
      have go : ∀ {l : List Df}, (l.map (·.name)).Nodup → d ∈ l → (l.map fun d => (d.name, d.fd)).lookup d.name = some d.fd := by
        intro l
        induction l with
        | nil => intro _ h; cases h
        | cons e r ih =>
          intro nd h
          obtain ⟨n1, n2⟩ := List.nodup_cons.mp nd
          simp only [List.map_cons, List.lookup]
          rcases List.mem_cons.mp h with z | z
          · subst z; simp
          · have ne : (d.name == e.name) = false := by
              rw [beq_eq_false_iff_ne]
              intro q
              exact n1 (List.mem_map.mpr ⟨d, z, q⟩)
            rw [ne]
            exact ih n2 z
      exact go nd hd
    have hlen : (d.N.take d.fd.np).length = d.fd.np := by rw [List.length_take]; omega
    exact ⟨d.fd, d.name, d.args, d.body, d.scope, [], _, fd, d.N, d.N.take d.fd.np, k, hl, F, hg, o1, ⟨o2, o3, o4, o5, by rw [hlen], fun x hx => o6 x hx, fun y hy => o7 y hy⟩, o8, hlen, hc d hd, fun p hp e => hkp p hp d hd e⟩
  · obtain ⟨d1, d2⟩ := c.dc (lookup_mem e)
    exact dc_ok X Gn d1 d2
abbrev Only' (H : Hp) : Prop := L2.Only H
theorem ints_pv {K : PySem.W.Frag} {mg : Str → Option Value} {G : Gh} {H : Hp} : ∀ ns : List Int, PVRs K mg G H (ns.map PV.int) (ns.map V.int)
  | [] => .nil
  | n :: ns => .cons (.int n) (ints_pv ns)
theorem cx_no {P : Program} {w : World} {H : Hp} {s : Shared} {e : Value} {s' : Shared} (h : L2.CX P w [] H s (fun _ _ _ => False) e s') : False := by
  obtain ⟨_, _, _, _, _, _, _, _, _, _, _, _, z⟩ := h
  exact z
/-- THE END: the law's def tells True of each script -/
theorem end_ok {l : PySem.W.OpenLaw} {q : Program} {loose : List Str} {XP : (Str → Option Value) → Heap → Prop} {d : DefRec} {ds : List Df} {m : Md} {k n : Nat} {dL : Df} (hm : l.most = some 63) (hdf : d.params.defaults = []) (hdn : d.name = dL.name) (hL : dL ∈ ds)
    (hr : L2.Room n callerA) (hk : (ds.all fun d => d.ok (cgOf ds m)) = true) (nd : (ds.map (·.name)).Nodup) (hc : ∀ d ∈ ds, cSs (cgOf ds m) d.N (okOf d.fd.np d.fd.asg) k d.scope d.body = some d.fd.body)
    (hkp : ∀ p ∈ m.kps, ∀ d ∈ ds, p.f = d.name → KpOk d.args (d.N.take d.fd.np) p)
    (hw : ∀ ns : List Int, ns.length ≤ 63 → ∃ fin sto, callF (tabOf ds) n dL.name [.val (.rol (ns.map PV.int))] [] = .ok (.sh (.bl true)) fin sto) :
    PySem.W.WalkO q loose XP (fun w h => (hookC 4 (facts ds) (ds.map Df.defD) m.con m.dcs).says w h) l.row.toRowW d [] (fun f vs => PySem.call f vs) := by
  refine Att.attach_call hm hdf fun w s₀ s₁ mg mb fa o pm cd doc a vs ns G Y ho hd hcd hmg hobj hints hlen hg => ?_
  obtain ⟨K, KX, c⟩ := Y
  have p := getP KX G.T.g c hk nd hc hkp
  have hf : dL.name ∈ (cgOf ds m).fns := List.mem_map.mpr ⟨dL, hL, rfl⟩
  obtain ⟨fa', fd, ps, F, hm', hkp', hb, hb2, _⟩ := prog_ok (P := l.prog) (w := w) p n dL.name hf
  rw [hdn] at hmg
  rw [hm'] at hmg
  cases hmg
  have promise : ∀ H : Hp, Only' H → SqL K H a (ns.map V.int) → spF K mg (callF (tabOf ds) n) dL.name [.ref a] H (fun v _ => v = .bl true) fun _ _ _ => False := fun H hO hS => by
    obtain ⟨fin, sto, e⟩ := hw ns hlen
    refine ⟨fun _ => .free, [.val (.rol (ns.map PV.int))], [], ?_, .inl ⟨_, fin, sto, e, fun G' H' x R st rv => ?_⟩⟩
    · refine ⟨rfl, fun j sl ej => ?_, fun l so ej => ?_, fun a b l h => ?_, fun a h => absurd rfl h, fun a l h => ?_⟩
      · cases j with
        | succ j => simp at ej
        | zero =>
          simp at ej
          subst ej
          refine ⟨.ref a, rfl, .rol ?_ (ints_pv ns)⟩
          rcases hS with hS | hS
          · rcases hS with hS | hS
            · rcases hO a with z | ⟨o, xs, z⟩ <;> (rw [z] at hS; cases hS)
            · exact .inl hS
          · exact .inr hS
      · simp at ej
      · cases h
      · cases h
    · cases rv
      rfl
  have one : ps.length = 1 := by
    have q := (F s₁.heap).len _ _ _ _ (promise (upd (fun _ => none) a (.frz default (.lst (ns.map V.int)))) (fun b => ?_) (.inl (.inr ⟨_, upd_same⟩)))
    · exact q.symm
    · by_cases hb : b = a
      · subst hb; exact .inr ⟨_, _, upd_same⟩
      · rw [upd_ne hb]; exact .inl rfl
  match ps, one with
  | [x], _ => exact L2.law_call (x := x) KX G.T.g G.T.b G.T.builtins G.T.nolimit hg hobj hints (Nat.le_trans hlen (by decide)) hr (fd := fd) (sp := spF K mg (callF (tabOf ds) n) dL.name) (CX := L2.CX l.prog w) (fun base hK hN => F base) (fun s u => hb2 s [u] rfl) (fun H hO hS => promise H hO hS) (fun H e s' h => cx_no h)
end TP

set_option Elab.async false
set_option linter.all false
set_option maxRecDepth 100000
set_option maxHeartbeats 4000000
/-! Kl1: what a run asks, as propositions that are rewritten from the head. -/
namespace TP
open PySem
universe u
/-- what a place of rewriting must not enter -/
abbrev Fx {α : Sort u} (a : α) : Type := Unit
def Wp {α : Type} (r : Res α) (Q : α → SS → Prop) (X : PV → SS → Prop) : Prop := match r with
  | .ok a s => Q a s
  | .exc x s => X x s
  | .bad => False
def WC (r : CR) (Q : RV → List Sl → List SO → Prop) (X : PV → List Sl → List SO → Prop) (h : Fx (Q, X) := ()) : Prop := match r with
  | .ok a f s => Q a f s
  | .exc x f s => X x f s
  | .bad => False
theorem Wp_bind {α β : Type} {r : Res α} {f : α → SS → Res β} {Q : β → SS → Prop} {X : PV → SS → Prop} : Wp (r.bind f) Q X = Wp r (fun a s => Wp (f a s) Q X) X := by
  cases r <;> rfl
theorem WC_ok {a : RV} {f : List Sl} {s : List SO} {Q : RV → List Sl → List SO → Prop} {X : PV → List Sl → List SO → Prop} : WC (.ok a f s) Q X = Q a f s := rfl
theorem WC_exc {a : PV} {f : List Sl} {s : List SO} {Q : RV → List Sl → List SO → Prop} {X : PV → List Sl → List SO → Prop} : WC (.exc a f s) Q X = X a f s := rfl
def wE (cf : CF) (e : E) (s : SS) (Q : RV → SS → Prop) (X : PV → SS → Prop) (h : Fx (cf, e, Q, X) := ()) : Prop := Wp (evalE cf e s) Q X
def wEs (cf : CF) (e : List E) (s : SS) (Q : List RV → SS → Prop) (X : PV → SS → Prop) (h : Fx (cf, e, Q, X) := ()) : Prop := Wp (evalEs cf e s) Q X
def wI (cf : CF) (e : I) (s : SS) (Q : List PV → SS → Prop) (X : PV → SS → Prop) (h : Fx (cf, e, Q, X) := ()) : Prop := Wp (evalI cf e s) Q X
def wS (cf : CF) (np : Nat) (b : List S) (s : SS) (Q : Fl → SS → Prop) (X : PV → SS → Prop) (h : Fx (cf, np, b, Q, X) := ()) : Prop := Wp (execSs cf np b s) Q X
/-! what stands between -/
/-- a content, then -/
def oK {α : Type} (o : Option α) (Q : α → Prop) (h : Fx Q := ()) : Prop := match o with
  | some a => Q a
  | none => False
theorem oK_some {α : Type} {a : α} {Q : α → Prop} : oK (some a) Q = Q a := rfl
theorem oK_ex {α : Type} {o : Option α} {a : α} {Q : α → Prop} (h : o = some a) : oK o Q = Q a := by rw [h]; rfl
def varK (i : Nat) (s : SS) (Q : RV → SS → Prop) (o : Option Sl) (h : Fx (i, s, Q) := ()) : Prop := match o with
  | some (.val v) => Q (.sh v) s
  | some (.own _) => Q (.hd i) s
  | _ => False
theorem varK_val {i : Nat} {s : SS} {Q : RV → SS → Prop} {v : PV} : varK i s Q (some (.val v)) = Q (.sh v) s := rfl
theorem varK_own {i : Nat} {s : SS} {Q : RV → SS → Prop} {v : PV} : varK i s Q (some (.own v)) = Q (.hd i) s := rfl
/-- an operation on contents -/
def P1 (p : P) (s : SS) (Q : RV → SS → Prop) (a : Option PV) (h : Fx (p, s, Q) := ()) : Prop := oK a fun x => oK (primSem p [x]) fun r => Q r s
def P2 (p : P) (s : SS) (Q : RV → SS → Prop) (a b : Option PV) (h : Fx (p, s, Q) := ()) : Prop := oK a fun x => oK b fun y => oK (primSem p [x, y]) fun r => Q r s
/-- a branch -/
def BR (o : Option Bool) (A B : Prop) (h : Fx (A, B) := ()) : Prop := match o with
  | some true => A
  | some false => B
  | none => False
theorem BR_t {A B : Prop} : BR (some true) A B = A := rfl
theorem BR_f {A B : Prop} : BR (some false) A B = B := rfl
theorem BR_d {p : Prop} [inst : Decidable p] {A B : Prop} : BR (some (decide p)) A B = ((p → A) ∧ (¬ p → B)) := by
  by_cases h : p <;> simp [BR, h]
theorem BR_b {b : Bool} {A B : Prop} : BR (some b) A B = ((b = true → A) ∧ (b = false → B)) := by
  cases b <;> simp [BR]
section
variable {cf : CF} {s : SS} {np : Nat} {env : List Sl} {sto : List SO} {Q : RV → SS → Prop} {X : PV → SS → Prop}
theorem wE_var {i : Nat} : wE cf (.var i) s Q X = varK i s Q (s.env[i]?) := by
  unfold wE
  simp only [evalE]
  cases s.env[i]? with
  | none => rfl
  | some x => cases x <;> rfl
theorem wE_con {v : PV} : wE cf (.con v) s Q X = Q (.sh v) s := by
  unfold wE; simp only [evalE]; rfl
theorem wE_dead : wE cf .dead s Q X = False := by
  unfold wE; simp only [evalE]; rfl
theorem wEs_nil {Q : List RV → SS → Prop} : wEs cf [] s Q X = Q [] s := by
  unfold wEs; simp only [evalEs]; rfl
theorem wEs_cons {e : E} {es : List E} {Q : List RV → SS → Prop} : wEs cf (e :: es) s Q X = wE cf e s (fun r s1 => wEs cf es s1 (fun rs s2 => Q (r :: rs) s2) X) X := by
  unfold wEs wE
  simp only [evalEs, Wp_bind]
  rfl
theorem wE_prim1 {p : P} {a : E} : wE cf (.prim p [a]) s Q X = wE cf a s (fun r s1 => P1 p s1 Q (cont s1 r)) X := by
  unfold wE
  simp only [evalE, evalEs, Wp_bind]
  congr 1
  funext r s1
  simp only [Wp, conts, P1]
  cases cont s1 r with
  | none => rfl
  | some c =>
    show _ = oK (primSem p [c]) fun r => Q r s1
    simp only
    cases primSem p [c] <;> rfl
theorem wE_prim2 {p : P} {a b : E} : wE cf (.prim p [a, b]) s Q X = wE cf a s (fun r s1 => wE cf b s1 (fun t s2 => P2 p s2 Q (cont s2 r) (cont s2 t)) X) X := by
  unfold wE
  simp only [evalE, evalEs, Wp_bind]
  congr 1
  funext r s1
  congr 1
  funext t s2
  simp only [Wp, conts, P2]
  cases cont s2 r with
  | none => rfl
  | some c =>
    cases cont s2 t with
    | none => rfl
    | some d =>
      show _ = oK (primSem p [c, d]) fun r => Q r s2
      simp only
      cases primSem p [c, d] <;> rfl

/-- a text's method -/
def SM (p : P) (s : SS) (Q : RV → SS → Prop) (z : PV) (b : Option PV) (h : Fx (p, s, Q, z) := ()) : Prop := oK b fun y => oK (primSem p [z, y]) fun r => Q r s
def strK (K : PV → Prop) (o : Option PV) (h : Fx K := ()) : Prop := match o with
  | some (.str z) => K (.str z)
  | _ => False
theorem strK_s {K : PV → Prop} {z : List Nat} : strK K (some (.str z)) = K (.str z) := rfl
theorem wE_sm {p : P} {t e : E} : wE cf (.sm p t e) s Q X = wE cf t s (fun r s1 => strK (fun z => wE cf e s1 (fun r2 s2 => SM p s2 Q z (cont s2 r2)) X) (cont s1 r)) X := by
  unfold wE
  simp only [evalE, Wp_bind]
  congr 1
  funext r s1
  cases h : cont s1 r with
  | none => rfl
  | some c =>
    cases c with
    | str z =>
      show Wp _ Q X = Wp _ _ X
      rw [Wp_bind]
      congr 1
      funext r2 s2
      unfold SM
      cases cont s2 r2 with
      | none => rfl
      | some d =>
        show _ = oK (primSem p [.str z, d]) fun r => Q r s2
        simp only
        cases primSem p [.str z, d] <;> rfl
    | _ => rfl
def dixK (tb : List (List Nat × PV)) (s : SS) (Q : RV → SS → Prop) (o : Option PV) (h : Fx (tb, s, Q) := ()) : Prop := match o with
  | some (.str z) => oK (tb.lookup z) fun v => Q (.sh v) s
  | _ => False
theorem dixK_s {tb : List (List Nat × PV)} {s : SS} {Q : RV → SS → Prop} {z : List Nat} : dixK tb s Q (some (.str z)) = oK (tb.lookup z) fun v => Q (.sh v) s := rfl
theorem wE_didx {x : Str} {tb : List (List Nat × PV)} {e : E} : wE cf (.didx x tb e) s Q X = wE cf e s (fun r s1 => dixK tb s1 Q (cont s1 r)) X := by
  unfold wE
  simp only [evalE, Wp_bind]
  congr 1
  funext r s1
  cases h : cont s1 r with
  | none => rfl
  | some c =>
    cases c with
    | str z =>
      show _ = oK (tb.lookup z) fun v => Q (.sh v) s1
      simp only
      cases tb.lookup z <;> rfl
    | _ => rfl
/-- a new dict -/
theorem wE_dnew : wE cf (.prim .dnew []) s Q X = Q (.fr (.dct [] [])) s := by
  unfold wE; simp only [evalE, evalEs, conts, primSem]; rfl
/-- d.get(k, x) -/
def dctK (K : Prop) (o : Option PV) (h : Fx K := ()) : Prop := match o with
  | some (.dct _ _) => K
  | _ => False
theorem dctK_d {K : Prop} {ks : List L2.Key} {vs : List PV} : dctK K (some (.dct ks vs)) = K := rfl
def DG (s : SS) (rx : RV) (Q : RV → SS → Prop) (o k : Option PV) (h : Fx (s, rx, Q) := ()) : Prop := match o, k with
  | some (.dct ks vs), some ck => oK (keep s rx) fun q => oK (keyPV ck) fun z => Q (.sh ((lkD ks vs z).getD q.1)) q.2
  | _, _ => False
theorem DG_s {rx : RV} {ks : List L2.Key} {vs : List PV} {ck : PV} : DG s rx Q (some (.dct ks vs)) (some ck) = oK (keep s rx) fun q => oK (keyPV ck) fun z => Q (.sh ((lkD ks vs z).getD q.1)) q.2 := rfl
theorem wE_dget {t k x : E} : wE cf (.dget t k x) s Q X = wE cf t s (fun r s1 => dctK (wE cf k s1 (fun rk s2 => wE cf x s2 (fun rx s3 => DG s3 rx Q (cont s3 r) (cont s3 rk)) X) X) (cont s1 r)) X := by
  unfold wE
  simp only [evalE, Wp_bind]
  congr 1
  funext r s1
  cases h : cont s1 r with
  | none => rfl
  | some c =>
    cases c with
    | dct ks vs =>
      show Wp _ Q X = Wp _ _ X
      rw [Wp_bind]
      congr 1
      funext rk s2
      show Wp _ Q X = Wp _ _ X
      rw [Wp_bind]
      congr 1
      funext rx s3
      unfold DG
      cases cont s3 r with
      | none => rfl
      | some d =>
        cases cont s3 rk with
        | none => cases d <;> rfl
        | some ck =>
          cases keep s3 rx with
          | none => cases d <;> rfl
          | some q =>
            cases d with
            | dct ks vs =>
              show _ = oK (keyPV ck) fun z => Q (.sh ((lkD ks vs z).getD q.1)) q.2
              obtain ⟨vx, s4⟩ := q
              simp only
              cases keyPV ck <;> rfl
            | _ => rfl
    | _ => rfl
/-- a test's outcome -/
def TS (s : SS) (r : RV) (K : Option Bool → Prop) (h : Fx (s, r, K) := ()) : Prop := K (testR s r)
theorem TS_bl {b : Bool} {K : Option Bool → Prop} : TS s (.sh (.bl b)) K = K (some b) := rfl
theorem wE_not {a : E} : wE cf (.not a) s Q X = wE cf a s (fun r s1 => TS s1 r fun t => oK t fun b => Q (.sh (.bl (!b))) s1) X := by
  unfold wE
  simp only [evalE, Wp_bind]
  congr 1
  funext r s1
  unfold TS
  cases testR s1 r <;> rfl
theorem wE_and1 {a : E} : wE cf (.and [a]) s Q X = wE cf a s Q X := by
  unfold wE; simp only [evalE, evalAnd]
theorem wE_and {a b : E} {es : List E} : wE cf (.and (a :: b :: es)) s Q X = wE cf a s (fun r s1 => TS s1 r fun t => BR t (wE cf (.and (b :: es)) s1 Q X) (Q (.sh (.bl false)) s1)) X := by
  unfold wE
  simp only [evalE, evalAnd, Wp_bind]
  congr 1
  funext r s1
  unfold TS
  cases testR s1 r with
  | none => rfl
  | some t => cases t <;> rfl
theorem wE_or1 {a : E} : wE cf (.or [a]) s Q X = wE cf a s Q X := by
  unfold wE; simp only [evalE, evalOr]
theorem wE_or {a b : E} {es : List E} : wE cf (.or (a :: b :: es)) s Q X = wE cf a s (fun r s1 => TS s1 r fun t => BR t (Q (.sh (.bl true)) s1) (wE cf (.or (b :: es)) s1 Q X)) X := by
  unfold wE
  simp only [evalE, evalOr, Wp_bind]
  congr 1
  funext r s1
  unfold TS
  cases testR s1 r with
  | none => rfl
  | some t => cases t <;> rfl
theorem wE_ite {c a b : E} : wE cf (.ite c a b) s Q X = wE cf c s (fun r s1 => TS s1 r fun t => BR t (wE cf a s1 Q X) (wE cf b s1 Q X)) X := by
  unfold wE
  simp only [evalE, Wp_bind]
  congr 1
  funext r s1
  unfold TS
  cases testR s1 r with
  | none => rfl
  | some t => cases t <;> rfl
/-- a op b op c -/
def C2k (A B : Prop) (o : Option RV) (h : Fx (A, B) := ()) : Prop := match o with
  | some (.sh (.bl true)) => A
  | some (.sh (.bl false)) => B
  | _ => False
def C2 (p : P) (a b : Option PV) (A B : Prop) (h : Fx (p, A, B) := ()) : Prop := oK a fun x => oK b fun y => C2k A B (primSem p [x, y])
theorem wE_chain {p q : P} {a b c : E} : wE cf (.chain p q a b c) s Q X = wE cf a s (fun ra s1 => wE cf b s1 (fun rb s2 => C2 p (cont s2 ra) (cont s2 rb) (wE cf c s2 (fun rc s3 => P2 q s3 Q (cont s3 rb) (cont s3 rc)) X) (Q (.sh (.bl false)) s2)) X) X := by
  unfold wE
  simp only [evalE, Wp_bind]
  congr 1
  funext ra s1
  congr 1
  funext rb s2
  unfold C2
  simp only [conts]
  cases cont s2 ra with
  | none => rfl
  | some x =>
    cases cont s2 rb with
    | none => rfl
    | some y =>
      simp only [oK_some]
      cases h : primSem p [x, y] with
      | none => rfl
      | some r =>
        cases r with
        | sh v =>
          cases v with
          | bl t =>
            cases t with
            | false => rfl
            | true =>
              show Wp _ Q X = Wp _ _ X
              rw [Wp_bind]
              congr 1
              funext rc s3
              unfold P2
              cases cont s3 rb with
              | none => rfl
              | some y2 =>
                cases cont s3 rc with
                | none => rfl
                | some z =>
                  show _ = oK (primSem q [y2, z]) fun r => Q r s3
                  simp only
                  cases primSem q [y2, z] <;> rfl
          | _ => rfl
        | _ => rfl
/-- values that are kept -/
def KPs (s : SS) (rs : List RV) (K : List PV → SS → Prop) : Prop := match rs with
  | [] => K [] s
  | r :: rs => oK (keep s r) fun q => KPs q.2 rs fun vs s2 => K (q.1 :: vs) s2
theorem KPs_eq {rs : List RV} : ∀ {s : SS} {K : List PV → SS → Prop}, KPs s rs K = oK (keeps s rs) fun q => K q.1 q.2 := by
  induction rs with
  | nil => intro s K; rfl
  | cons r rs ih =>
    intro s K
    simp only [KPs, keeps]
    cases keep s r with
    | none => rfl
    | some q =>
      obtain ⟨v, s1⟩ := q
      simp only [oK_some]
      rw [ih]
      cases keeps s1 rs with
      | none => rfl
      | some q2 => rfl
theorem KPs_nil {K : List PV → SS → Prop} : KPs s [] K = K [] s := rfl
theorem KPs_cons {r : RV} {rs : List RV} {K : List PV → SS → Prop} : KPs s (r :: rs) K = oK (keep s r) fun q => KPs q.2 rs fun vs s2 => K (q.1 :: vs) s2 := rfl
/-- a display of pairs -/
def PD (s : SS) (Q : RV → SS → Prop) (vs : List PV) (h : Fx (s, Q) := ()) : Prop := oK (pairsD vs) fun ps => ps.length ≤ 15 ∧ Q (.fr (mergeD [] [] ps)) s
theorem wE_disp {es : List E} : wE cf (.disp es) s Q X = wEs cf es s (fun rs s1 => KPs s1 rs fun vs s2 => PD s2 Q vs) X := by
  unfold wE wEs
  simp only [evalE, Wp_bind]
  congr 1
  funext rs s1
  rw [KPs_eq]
  cases keeps s1 rs with
  | none => rfl
  | some q =>
    obtain ⟨vs, s2⟩ := q
    simp only [oK_some, PD]
    cases pairsD vs with
    | none => rfl
    | some ps =>
      simp only [oK_some]
      by_cases h : ps.length ≤ 15
      · rw [if_pos h]; exact propext ⟨fun z => ⟨h, z⟩, fun z => z.2⟩
      · rw [if_neg h]; exact propext ⟨fun z => z.elim, fun z => (h z.1).elim⟩
theorem keep_sh {v : PV} : keep s (.sh v) = some (v, s) := rfl
theorem keep_fr {v : PV} : keep s (.fr v) = some (v, s) := rfl
def keepH (i : Nat) (s : SS) : Option Sl → Option (PV × SS)
  | some (.val v) => some (v, s)
  | some (.own o) => some (o, { s with env := s.env.set i (.val o) })
  | _ => none
theorem keep_hd {i : Nat} : keep ⟨env, sto⟩ (.hd i) = keepH i ⟨env, sto⟩ (env[i]?) := by
  simp only [keep]
  cases env[i]? with
  | none => rfl
  | some x => cases x <;> rfl
theorem keepH_val {i : Nat} {v : PV} : keepH i s (some (.val v)) = some (v, s) := rfl
theorem keepH_own {i : Nat} {v : PV} : keepH i ⟨env, sto⟩ (some (.own v)) = some (v, ⟨env.set i (.val v), sto⟩) := rfl
theorem wE_tup {es : List E} (h : es.length ≤ szL := by decide) : wE cf (.tup es) s Q X = wEs cf es s (fun rs s1 => KPs s1 rs fun vs s2 => Q (.sh (.tup vs)) s2) X := by
  unfold wE wEs
  simp only [evalE, Wp_bind]
  cases h1 : evalEs cf es s with
  | bad => rfl
  | exc _ _ => rfl
  | ok rs s1 =>
    simp only [Wp]
    have hl : rs.length ≤ szL := by rw [evalEs_ln h1]; exact h
    rw [if_pos hl, KPs_eq]
    cases keeps s1 rs with
    | none => rfl
    | some q => rfl
theorem wE_list {es : List E} (h : es.length ≤ szL := by decide) : wE cf (.list es) s Q X = wEs cf es s (fun rs s1 => KPs s1 rs fun vs s2 => Q (.fr (.lst vs)) s2) X := by
  unfold wE wEs
  simp only [evalE, Wp_bind]
  cases h1 : evalEs cf es s with
  | bad => rfl
  | exc _ _ => rfl
  | ok rs s1 =>
    simp only [Wp]
    have hl : rs.length ≤ szL := by rw [evalEs_ln h1]; exact h
    rw [if_pos hl, KPs_eq]
    cases keeps s1 rs with
    | none => rfl
    | some q => rfl
theorem wE_call {f : Str} {es : List E} : wE cf (.call f es) s Q X = wEs cf es s (fun rs s1 => oK (argsOf s1 [] rs) fun as => WC (cf f as s1.sto) (fun r fin sto => Q r ⟨backE s1.env rs as fin, sto⟩) (fun x fin sto => X x ⟨backE s1.env rs as fin, sto⟩)) X := by
  unfold wE wEs
  simp only [evalE, Wp_bind]
  congr 1
  funext rs s1
  simp only [callE]
  cases argsOf s1 [] rs with
  | none => rfl
  | some as =>
    simp only [oK_some]
    cases cf f as s1.sto <;> rfl
theorem wE_callK {f : Str} {es : List E} {pm : List (Sum Nat PV)} : wE cf (.callK f es pm) s Q X = wEs cf es s (fun rs s1 => oK (permR rs pm) fun qs => oK (argsOf s1 [] qs) fun as => WC (cf f as s1.sto) (fun r fin sto => Q r ⟨backE s1.env qs as fin, sto⟩) (fun x fin sto => X x ⟨backE s1.env qs as fin, sto⟩)) X := by
  unfold wE wEs
  simp only [evalE, Wp_bind]
  congr 1
  funext rs s1
  cases permR rs pm with
  | none => rfl
  | some qs =>
    simp only [oK_some, callE]
    cases argsOf s1 [] qs with
    | none => rfl
    | some as =>
      simp only [oK_some]
      cases cf f as s1.sto <;> rfl
def gloK (fs : List Str) (K : Str → Prop) (o : Option Sl) (h : Fx (fs, K) := ()) : Prop := match o with
  | some (.val (.glo f)) => if fs.contains f then K f else False
  | _ => False
theorem gloK_v {fs : List Str} {K : Str → Prop} {f : Str} (h : fs.contains f = true) : gloK fs K (some (.val (.glo f))) = K f := by
  simp only [gloK, h, if_true]
theorem wE_callL {i : Nat} {fs : List Str} {es : List E} : wE cf (.callL i fs es) s Q X = gloK fs (fun f => wEs cf es s (fun rs s1 => oK (argsOf s1 [] rs) fun as => WC (cf f as s1.sto) (fun r fin sto => Q r ⟨backE s1.env rs as fin, sto⟩) (fun x fin sto => X x ⟨backE s1.env rs as fin, sto⟩)) X) (s.env[i]?) := by
  unfold wE
  simp only [evalE]
  cases s.env[i]? with
  | none => rfl
  | some x =>
    cases x with
    | val v =>
      cases v with
      | glo f =>
        simp only [gloK]
        split
        · have := wE_call (cf := cf) (s := s) (Q := Q) (X := X) (f := f) (es := es)
          unfold wE at this
          simp only [evalE] at this
          exact this
        · rfl
      | _ => rfl
    | _ => rfl
/-- a deed -/
def MU (m : M) (r : RV) (s : SS) (Q : RV → SS → Prop) (vs : List PV) (h : Fx (m, r, s, Q, vs) := ()) : Prop := oK (cont s r) fun o => oK (mutSem m o vs) fun q => oK (putBack r q.1 s) fun s4 => Q (.sh q.2) s4
theorem wE_mut {m : M} {t : E} {es : List E} : wE cf (.mut m t es) s Q X = wE cf t s (fun r s1 => BR (some (mutTy m (cont s1 r))) (wEs cf es s1 (fun rs s2 => KPs s2 rs fun vs s3 => MU m r s3 Q vs) X) False) X := by
  unfold wE wEs
  simp only [evalE, Wp_bind]
  congr 1
  funext r s1
  cases mutTy m (cont s1 r) with
  | false => rfl
  | true =>
    simp only [Bool.true_eq_false, if_false, Wp_bind]
    show _ = Wp _ _ X
    congr 1
    funext rs s2
    rw [KPs_eq]
    cases keeps s2 rs with
    | none => rfl
    | some q =>
      obtain ⟨vs, s3⟩ := q
      simp only [oK_some, MU]
      cases cont s3 r with
      | none => rfl
      | some o =>
        simp only [oK_some]
        cases mutSem m o vs with
        | none => rfl
        | some q =>
          obtain ⟨o', v⟩ := q
          simp only [oK_some]
          cases putBack r o' s3 <;> rfl
theorem wE_slice {a lo hi : E} : wE cf (.slice a lo hi) s Q X = wE cf a s (fun ra s1 => wE cf lo s1 (fun rl s2 => oK (bndOf s2 (isAbs lo) rl) fun l => wE cf hi s2 (fun rh s3 => oK (bndOf s3 (isAbs hi) rh) fun h => oK (cont s3 ra) fun c => oK (slSem l h c) fun r => Q r s3) X) X) X := by
  unfold wE
  simp only [evalE, Wp_bind]
  congr 1
  funext ra s1
  congr 1
  funext rl s2
  cases bndOf s2 (isAbs lo) rl with
  | none => rfl
  | some l =>
    simp only [oK_some, Wp_bind]
    show Wp _ _ X = Wp _ _ X
    congr 1
    funext rh s3
    cases bndOf s3 (isAbs hi) rh with
    | none => rfl
    | some h =>
      simp only [oK_some]
      cases cont s3 ra with
      | none => rfl
      | some c =>
        simp only [oK_some]
        cases slSem l h c <;> rfl
/-- a comprehension's turns -/
def LC (cf : CF) (elt : E) (t : T) (cs : List E) (own : List Nat) (Q : RV → SS → Prop) (xs : List PV) (s : SS) (h : Fx (cf, elt, t, cs, own, Q, xs) := ()) : Prop :=
  ownSlots s.env own = false ∧ Wp (lcLoop own (lcTurn cf elt t cs) xs [] s) (fun ys s7 => Q (.fr (.lst ys)) { s7 with env := restS s.env s7.env own }) fun _ _ => False
theorem wE_lc {elt : E} {t : T} {it : I} {cs : List E} {own : List Nat} : wE cf (.lc elt t it cs own) s Q X = wI cf it s (fun xs s1 => LC cf elt t cs own Q xs s1) X := by
  unfold wE wI
  rw [evalE_lc, Wp_bind]
  congr 1
  funext xs s1
  unfold LC
  cases h : ownSlots s1.env own with
  | true => simp [Wp]
  | false =>
    simp only [Bool.false_eq_true, if_false, true_and, Wp_bind]
    cases lcLoop own (lcTurn cf elt t cs) xs [] s1 <;> rfl
/-- the turns of a comprehension of two -/
def LC2 (cf : CF) (elt : E) (t : T) (cs : List E) (t1 : T) (it1 : I) (cs1 : List E) (own own1 : List Nat) (Q : RV → SS → Prop) (xs : List PV) (s : SS) (h : Fx (cf, elt, t, cs, t1, it1, cs1, own, own1, Q, xs) := ()) : Prop :=
  ownSlots s.env own = false ∧ Wp (lc2Loop own (lcTurn2 cf elt t cs t1 it1 cs1 own1) xs [] s) (fun ys s7 => Q (.fr (.lst ys)) { s7 with env := restS s.env s7.env own }) fun _ _ => False
theorem wE_lc2 {elt : E} {t t1 : T} {it it1 : I} {cs cs1 : List E} {own own1 : List Nat} : wE cf (.lc2 elt t it cs t1 it1 cs1 own own1) s Q X = wI cf it s (fun xs s1 => LC2 cf elt t cs t1 it1 cs1 own own1 Q xs s1) X := by
  unfold wE wI
  rw [evalE_lc2, Wp_bind]
  congr 1
  funext xs s1
  unfold LC2
  cases h : ownSlots s1.env own with
  | true => simp [Wp]
  | false =>
    simp only [Bool.false_eq_true, if_false, true_and, Wp_bind]
    cases lc2Loop own (lcTurn2 cf elt t cs t1 it1 cs1 own1) xs [] s1 <;> rfl
/-! what loops go through -/
def itK (Q : List PV → SS → Prop) (s : SS) (o : Option (List PV)) (h : Fx (Q, s) := ()) : Prop := match o with
  | some xs => Q xs s
  | none => False
theorem itK_s {Q : List PV → SS → Prop} {xs : List PV} : itK Q s (some xs) = Q xs s := rfl
theorem wI_of {e : E} {Q : List PV → SS → Prop} : wI cf (.of e) s Q X = wE cf e s (fun r s1 => oK (keep s1 r) fun q => itK Q q.2 (itemsOf q.1)) X := by
  unfold wI wE
  simp only [evalI, Wp_bind]
  congr 1
  funext r s1
  cases keep s1 r with
  | none => rfl
  | some q =>
    obtain ⟨v, s2⟩ := q
    simp only [oK_some]
    cases itemsOf v <;> rfl
def rgK (Q : List PV → SS → Prop) (s : SS) (o : Option PV) (h : Fx (Q, s) := ()) : Prop := match o with
  | some (.int n) => (-(2 ^ 62) ≤ n ∧ n < 2 ^ 62) ∧ Q (rangeL 0 n.toNat) s
  | _ => False
theorem rgK_i {Q : List PV → SS → Prop} {n : Int} : rgK Q s (some (.int n)) = ((-(2 ^ 62) ≤ n ∧ n < 2 ^ 62) ∧ Q (rangeL 0 n.toNat) s) := rfl
theorem wI_range1 {e : E} {Q : List PV → SS → Prop} : wI cf (.range [e]) s Q X = wE cf e s (fun r s1 => rgK Q s1 (cont s1 r)) X := by
  unfold wI wE
  simp only [evalI, evalEs, Wp_bind]
  congr 1
  funext r s1
  simp only [Wp, conts]
  cases cont s1 r with
  | none => rfl
  | some c =>
    cases c with
    | int n =>
      simp only [rgK]
      by_cases h : -(2 ^ 62) ≤ n ∧ n < 2 ^ 62
      · rw [if_pos h]
        exact propext ⟨fun z => ⟨h, z⟩, fun z => z.2⟩
      · rw [if_neg h]
        exact propext ⟨fun z => z.elim, fun z => (h z.1).elim⟩
    | _ => rfl
def rg2K (Q : List PV → SS → Prop) (s : SS) (o o2 : Option PV) (h : Fx (Q, s) := ()) : Prop := match o, o2 with
  | some (.int a), some (.int b) => ((-(2 ^ 62) ≤ a ∧ a < 2 ^ 62) ∧ (-(2 ^ 62) ≤ b ∧ b < 2 ^ 62)) ∧ Q (rangeL a (b - a).toNat) s
  | _, _ => False
theorem rg2K_i {Q : List PV → SS → Prop} {a b : Int} : rg2K Q s (some (.int a)) (some (.int b)) = (((-(2 ^ 62) ≤ a ∧ a < 2 ^ 62) ∧ (-(2 ^ 62) ≤ b ∧ b < 2 ^ 62)) ∧ Q (rangeL a (b - a).toNat) s) := rfl
theorem wI_range2 {e f : E} {Q : List PV → SS → Prop} : wI cf (.range [e, f]) s Q X = wE cf e s (fun r s1 => wE cf f s1 (fun t s2 => rg2K Q s2 (cont s2 r) (cont s2 t)) X) X := by
  unfold wI wE
  simp only [evalI, evalEs, Wp_bind]
  congr 1
  funext r s1
  congr 1
  funext t s2
  simp only [Wp, conts]
  cases cont s2 r with
  | none => rfl
  | some c =>
    cases cont s2 t with
    | none => cases c <;> rfl
    | some d =>
      cases c with
      | int a =>
        cases d with
        | int b =>
          simp only [rg2K]
          by_cases h : (-(2 ^ 62) ≤ a ∧ a < 2 ^ 62) ∧ (-(2 ^ 62) ≤ b ∧ b < 2 ^ 62)
          · rw [if_pos h]
            exact propext ⟨fun z => ⟨h, z⟩, fun z => z.2⟩
          · rw [if_neg h]
            exact propext ⟨fun z => z.elim, fun z => (h z.1).elim⟩
        | _ => rfl
      | _ => cases d <;> rfl
def enumOf : PV → Option (List PV)
  | .lst xs => some (enumL 0 xs)
  | _ => none
theorem wI_enum {e : E} {Q : List PV → SS → Prop} : wI cf (.enum e) s Q X = wE cf e s (fun r s1 => oK (keep s1 r) fun q => itK Q q.2 (enumOf q.1)) X := by
  unfold wI wE
  simp only [evalI, Wp_bind]
  congr 1
  funext r s1
  cases keep s1 r with
  | none => rfl
  | some q =>
    obtain ⟨v, s2⟩ := q
    cases v <;> rfl
def revOf : PV → Option (List PV)
  | .lst xs => some xs.reverse
  | .tup xs => some xs.reverse
  | _ => none
theorem wI_rev {e : E} {Q : List PV → SS → Prop} : wI cf (.rev e) s Q X = wE cf e s (fun r s1 => oK (keep s1 r) fun q => itK Q q.2 (revOf q.1)) X := by
  unfold wI wE
  simp only [evalI, Wp_bind]
  congr 1
  funext r s1
  cases keep s1 r with
  | none => rfl
  | some q =>
    obtain ⟨v, s2⟩ := q
    cases v <;> rfl
def zipOf : List PV → Option (List PV)
  | [.lst xs, .lst ys] => some ((xs.zip ys).map fun p => .tup [p.1, p.2])
  | [.tup xs, .tup ys] => some ((xs.zip ys).map fun p => .tup [p.1, p.2])
  | _ => none
theorem wI_zip {e f : E} {Q : List PV → SS → Prop} : wI cf (.zip e f) s Q X = wE cf e s (fun r s1 => wE cf f s1 (fun t s2 => KPs s2 [r, t] fun vs s3 => itK Q s3 (zipOf vs)) X) X := by
  unfold wI wE
  simp only [evalI, Wp_bind]
  congr 1
  funext r s1
  congr 1
  funext t s2
  rw [KPs_eq]
  cases h : keeps s2 [r, t] with
  | none => rfl
  | some q =>
    obtain ⟨vs, s3⟩ := q
    simp only [oK_some]
    match vs with
    | [] => rfl
    | [a] => cases a <;> rfl
    | [a, b] => cases a <;> cases b <;> rfl
    | a :: b :: c :: d => cases a <;> cases b <;> rfl
/-! statements -/
/-- behind a statement: R, or the end -/
def nxt (R : SS → Prop) (Qf : Fl → SS → Prop) : Fl → SS → Prop
  | .nx, s => R s
  | f, s => Qf f s
/-- behind a turn: W goes on, R behind the loop -/
def lpQ (W R : SS → Prop) (Qf : Fl → SS → Prop) : Fl → SS → Prop
  | .nx, s => W s
  | .ct, s => W s
  | .br, s => R s
  | .rt r, s => Qf (.rt r) s
theorem nxt_nx {R : SS → Prop} {Qf : Fl → SS → Prop} : nxt R Qf .nx s = R s := rfl
theorem nxt_br {R : SS → Prop} {Qf : Fl → SS → Prop} : nxt R Qf .br s = Qf .br s := rfl
theorem nxt_ct {R : SS → Prop} {Qf : Fl → SS → Prop} : nxt R Qf .ct s = Qf .ct s := rfl
theorem nxt_rt {r : RV} {R : SS → Prop} {Qf : Fl → SS → Prop} : nxt R Qf (.rt r) s = Qf (.rt r) s := rfl
theorem lpQ_nx {W R : SS → Prop} {Qf : Fl → SS → Prop} : lpQ W R Qf .nx s = W s := rfl
theorem lpQ_ct {W R : SS → Prop} {Qf : Fl → SS → Prop} : lpQ W R Qf .ct s = W s := rfl
theorem lpQ_br {W R : SS → Prop} {Qf : Fl → SS → Prop} : lpQ W R Qf .br s = R s := rfl
theorem lpQ_rt {r : RV} {W R : SS → Prop} {Qf : Fl → SS → Prop} : lpQ W R Qf (.rt r) s = Qf (.rt r) s := rfl
/-- target = value -/
def AG (t : T) (r : RV) (s : SS) (K : SS → Prop) (h : Fx (t, r, K) := ()) : Prop := oK (asgT t r s) K
def BT (t : T) (v : PV) (s : SS) (K : SS → Prop) (h : Fx (t, v, K) := ()) : Prop := oK (bindT t v s) K
def BTs (t : List T) (v : List PV) (s : SS) (K : SS → Prop) (h : Fx (t, K) := ()) : Prop := oK (bindTs t v s) K
theorem BT_nm {i : Nat} {v : PV} {K : SS → Prop} : BT (.nm i) v ⟨env, sto⟩ K = oK (env[i]?) fun _ => K ⟨env.set i (.val v), sto⟩ := by
  unfold BT
  simp only [bindT]
  by_cases h : i < env.length
  · simp only [if_pos h, List.getElem?_eq_getElem h]
    rfl
  · rw [List.getElem?_eq_none (by omega)]
    simp only [if_neg h]
    rfl
theorem BT_tup {ts : List T} {xs : List PV} {K : SS → Prop} : BT (.tp ts) (.tup xs) s K = BTs ts xs s K := by
  unfold BT BTs; simp only [bindT]
theorem BT_lst {ts : List T} {xs : List PV} {K : SS → Prop} : BT (.tp ts) (.lst xs) s K = BTs ts xs s K := by
  unfold BT BTs; simp only [bindT]
theorem BTs_nil {K : SS → Prop} : BTs [] [] s K = K s := by
  unfold BTs; simp only [bindTs]; rfl
theorem BTs_cons {t : T} {ts : List T} {x : PV} {xs : List PV} {K : SS → Prop} : BTs (t :: ts) (x :: xs) s K = BT t x s fun s1 => BTs ts xs s1 K := by
  unfold BTs BT
  simp only [bindTs]
  cases bindT t x s <;> rfl
theorem AG_sh {t : T} {v : PV} {K : SS → Prop} : AG t (.sh v) s K = BT t v s K := by
  unfold AG BT
  cases t <;> simp only [asgT, keep]
theorem AG_fr {i : Nat} {v : PV} {K : SS → Prop} : AG (.nm i) (.fr v) ⟨env, sto⟩ K = oK (env[i]?) fun _ => K ⟨env.set i (.own v), sto⟩ := by
  unfold AG
  simp only [asgT]
  by_cases h : i < env.length
  · simp only [if_pos h, List.getElem?_eq_getElem h]
    rfl
  · rw [List.getElem?_eq_none (by omega)]
    simp only [if_neg h]
    rfl
theorem AG_frT {ts : List T} {v : PV} {K : SS → Prop} : AG (.tp ts) (.fr v) s K = BT (.tp ts) v s K := by
  unfold AG BT
  simp only [asgT, keep]
theorem AG_hd {t : T} {i : Nat} {K : SS → Prop} : AG t (.hd i) s K = oK (keep s (.hd i)) fun q => BT t q.1 q.2 K := by
  unfold AG BT
  cases t <;> (simp only [asgT]; cases keep s (.hd i) <;> rfl)
/-- what is returned -/
def RT (np : Nat) (r : RV) (s : SS) (K : RV → SS → Prop) (h : Fx (np, r, K) := ()) : Prop := oK (retR np r s) fun q => K q.1 q.2
theorem RT_sh {v : PV} {K : RV → SS → Prop} : RT np (.sh v) s K = K (.sh v) s := rfl
theorem RT_fr {v : PV} {K : RV → SS → Prop} : RT np (.fr v) s K = K (.fr v) s := rfl
def rtH (np i : Nat) (s : SS) (K : RV → SS → Prop) (o : Option Sl) (h : Fx (np, i, s, K) := ()) : Prop := match o with
  | some (.val v) => K (.sh v) s
  | some (.own o) => if i < np then K (.sh o) { s with env := s.env.set i (.val o) } else K (.fr o) { s with env := s.env.set i .un }
  | _ => False
theorem RT_hd {i : Nat} {K : RV → SS → Prop} : RT np (.hd i) ⟨env, sto⟩ K = rtH np i ⟨env, sto⟩ K (env[i]?) := by
  unfold RT
  simp only [retR]
  cases env[i]? with
  | none => rfl
  | some x =>
    cases x with
    | own o =>
      simp only [rtH]
      split <;> rfl
    | _ => rfl
theorem rtH_val {i : Nat} {v : PV} {K : RV → SS → Prop} : rtH np i s K (some (.val v)) = K (.sh v) s := rfl
theorem rtH_own {i : Nat} {v : PV} {K : RV → SS → Prop} (h : ¬ i < np) : rtH np i ⟨env, sto⟩ K (some (.own v)) = K (.fr v) ⟨env.set i .un, sto⟩ := if_neg h
theorem rtH_par {i : Nat} {v : PV} {K : RV → SS → Prop} (h : i < np) : rtH np i ⟨env, sto⟩ K (some (.own v)) = K (.sh v) ⟨env.set i (.val v), sto⟩ := if_pos h
variable {Qf : Fl → SS → Prop}
theorem wS_nil : wS cf np [] s Qf X = Qf .nx s := by
  unfold wS; simp only [execSs]; rfl
theorem wS_asg {t : T} {e : E} {r : List S} : wS cf np (.asg t e :: r) s Qf X = wE cf e s (fun x s1 => AG t x s1 fun s2 => wS cf np r s2 Qf X) X := by
  unfold wS wE
  simp only [execSs, execS, Wp_bind]
  congr 1
  funext x s1
  unfold AG
  cases asgT t x s1 <;> rfl
theorem wS_ret {e : E} {r : List S} : wS cf np (.ret e :: r) s Qf X = wE cf e s (fun x s1 => RT np x s1 fun y s2 => Qf (.rt y) s2) X := by
  unfold wS wE
  simp only [execSs, execS, Wp_bind]
  congr 1
  funext x s1
  unfold RT
  cases retR np x s1 with
  | none => rfl
  | some q => rfl
theorem wS_retN {r : List S} : wS cf np (.retN :: r) s Qf X = Qf (.rt (.sh .non)) s := by
  unfold wS; simp only [execSs, execS, Wp_bind]; rfl
theorem wS_pass {r : List S} : wS cf np (.pass :: r) s Qf X = wS cf np r s Qf X := by
  unfold wS; simp only [execSs, execS, Wp_bind]; rfl
theorem wS_brk {r : List S} : wS cf np (.brk :: r) s Qf X = Qf .br s := by
  unfold wS; simp only [execSs, execS, Wp_bind]; rfl
theorem wS_cont {r : List S} : wS cf np (.cont :: r) s Qf X = Qf .ct s := by
  unfold wS; simp only [execSs, execS, Wp_bind]; rfl
theorem wS_dead {r : List S} : wS cf np (.dead :: r) s Qf X = False := by
  unfold wS; simp only [execSs, execS, Wp_bind]; rfl
theorem wS_expr {e : E} {r : List S} : wS cf np (.expr e :: r) s Qf X = wE cf e s (fun _ s1 => wS cf np r s1 Qf X) X := by
  unfold wS wE
  simp only [execSs, execS, Wp_bind]
  rfl
theorem wS_app {a : List S} : ∀ {s : SS} {r : List S} {Qf : Fl → SS → Prop}, wS cf np (a ++ r) s Qf X = wS cf np a s (nxt (fun s1 => wS cf np r s1 Qf X) Qf) X := by
  induction a with
  | nil =>
    intro s r Qf
    rw [wS_nil]
    rfl
  | cons st a ih =>
    intro s r Qf
    have one : ∀ {b : List S} {Q : Fl → SS → Prop}, wS cf np (st :: b) s Q X = Wp (execS cf np st s) (fun f s1 => nxt (fun s2 => wS cf np b s2 Q X) Q f s1) X := by
      intro b Q
      unfold wS
      simp only [execSs, Wp_bind]
      congr 1
      funext f s1
      cases f <;> rfl
    rw [List.cons_append, one, one]
    congr 1
    funext f s1
    cases f with
    | nx => exact ih
    | br => rfl
    | ct => rfl
    | rt r => rfl
theorem wS_apc {st : S} {a r : List S} : wS cf np ((st :: a) ++ r) s Qf X = wS cf np (st :: (a ++ r)) s Qf X := by rw [List.cons_append]
theorem wS_apn {r : List S} : wS cf np ([] ++ r) s Qf X = wS cf np r s Qf X := by rw [List.nil_append]
theorem wS_ite {c : E} {a b r : List S} : wS cf np (.ite c a b :: r) s Qf X = wE cf c s (fun x s1 => TS s1 x fun t => BR t (wS cf np (a ++ r) s1 Qf X) (wS cf np (b ++ r) s1 Qf X)) X := by
  have e : ∀ s1 (d : List S), wS cf np (d ++ r) s1 Qf X = Wp (execSs cf np d s1) (fun f s2 => Wp (match f with | .nx => execSs cf np r s2 | f => .ok f s2) Qf X) X := fun s1 d => by
    rw [wS_app]
    unfold wS
    congr 1
    funext f s2
    cases f <;> rfl
  have key : (fun (x : RV) (s1 : SS) => TS s1 x fun t => BR t (wS cf np (a ++ r) s1 Qf X) (wS cf np (b ++ r) s1 Qf X)) = fun (x : RV) (s1 : SS) => TS s1 x fun t => BR t (Wp (execSs cf np a s1) (fun f s2 => Wp (match f with | .nx => execSs cf np r s2 | f => .ok f s2) Qf X) X) (Wp (execSs cf np b s1) (fun f s2 => Wp (match f with | .nx => execSs cf np r s2 | f => .ok f s2) Qf X) X) := by
    funext x s1
    rw [e, e]
  rw [key]
  unfold wS wE
  simp only [execSs, execS, Wp_bind]
  congr 1
  funext x s1
  unfold TS
  cases testR s1 x with
  | none => rfl
  | some t => cases t <;> rfl
/-- a[i] = v -/
def SX (s : SS) (ra : RV) (v : PV) (K : SS → Prop) (o k : Option PV) (h : Fx (s, ra, v, K) := ()) : Prop := oK o fun o => oK k fun k => oK (setSem o k v) fun o' => oK (putBack ra o' s) K
theorem wS_setix {a i e : E} {r : List S} : wS cf np (.setix a i e :: r) s Qf X = wE cf e s (fun x s1 => oK (keep s1 x) fun q => wE cf a q.2 (fun ra s3 => wE cf i s3 (fun ri s4 => SX s4 ra q.1 (fun s5 => wS cf np r s5 Qf X) (cont s4 ra) (cont s4 ri)) X) X) X := by
  unfold wS wE
  simp only [execSs, execS, Wp_bind]
  congr 1
  funext x s1
  cases keep s1 x with
  | none => rfl
  | some q =>
    obtain ⟨v, s2⟩ := q
    simp only [oK_some, Wp_bind]
    congr 1
    funext ra s3
    congr 1
    funext ri s4
    unfold SX
    cases cont s4 ra with
    | none => rfl
    | some o =>
      cases cont s4 ri with
      | none => rfl
      | some k =>
        simp only [oK_some]
        cases setSem o k v with
        | none => rfl
        | some o' =>
          simp only [oK_some]
          cases putBack ra o' s4 <;> rfl
def augK (i : Nat) (p : P) (K : PV → PV → Prop) : Option Sl → PV → Prop
  | some (.val v), w => oK (augSem p v w) (K v)
  | _, _ => False
theorem wS_aug {i : Nat} {p : P} {e : E} {v : PV} {r : List S} (h : env[i]? = some (.val v)) : wS cf np (.aug i p e :: r) ⟨env, sto⟩ Qf X = wE cf e ⟨env, sto⟩ (fun x s1 => oK (cont s1 x) fun w => oK (augSem p v w) fun z => wS cf np r { s1 with env := s1.env.set i (.val z) } Qf X) X := by
  unfold wS wE
  simp only [execSs, execS, h, Wp_bind]
  congr 1
  funext x s1
  cases cont s1 x with
  | none => rfl
  | some w =>
    simp only [oK_some]
    cases augSem p v w <;> rfl
/-- x op= e -/
def AU (cf : CF) (np i : Nat) (p : P) (e : E) (r : List S) (env : List Sl) (sto : List SO) (Qf : Fl → SS → Prop) (X : PV → SS → Prop) (o : Option Sl) (h : Fx (cf, np, i, p, e, r, env, sto, Qf, X) := ()) : Prop := match o with
  | some (.val v) => wE cf e ⟨env, sto⟩ (fun x s1 => oK (cont s1 x) fun w => oK (augSem p v w) fun z => wS cf np r { s1 with env := s1.env.set i (.val z) } Qf X) X
  | _ => wS cf np (.aug i p e :: r) ⟨env, sto⟩ Qf X
theorem wS_augU {i : Nat} {p : P} {e : E} {r : List S} : wS cf np (.aug i p e :: r) ⟨env, sto⟩ Qf X = AU cf np i p e r env sto Qf X (env[i]?) := by
  cases h : env[i]? with
  | none => rfl
  | some a =>
    cases a with
    | val v => exact wS_aug h
    | un => rfl
    | own o => rfl
theorem AU_v {i : Nat} {p : P} {e : E} {r : List S} {v : PV} : AU cf np i p e r env sto Qf X (some (.val v)) = wE cf e ⟨env, sto⟩ (fun x s1 => oK (cont s1 x) fun w => oK (augSem p v w) fun z => wS cf np r { s1 with env := s1.env.set i (.val z) } Qf X) X := rfl
theorem wS_par {is : List Nat} {es : List E} {r : List S} : wS cf np (.par is es :: r) s Qf X = wEs cf es s (fun rs s1 => oK (slsOf s1 rs) fun q => oK (putSls is q.1 q.2) fun s3 => wS cf np r s3 Qf X) X := by
  unfold wS wEs
  simp only [execSs, execS, Wp_bind]
  congr 1
  funext rs s1
  cases slsOf s1 rs with
  | none => rfl
  | some q =>
    obtain ⟨as, s2⟩ := q
    simp only [oK_some]
    cases putSls is as s2 <;> rfl
theorem wS_asgR {is : List Nat} {j : Nat} {e : E} {r : List S} : wS cf np (.asgR is j e :: r) s Qf X = wE cf e s (fun x s1 => oK (keep s1 x) fun q => oK (asgRS is j q.1 q.2) fun s3 => wS cf np r s3 Qf X) X := by
  unfold wS wE
  simp only [execSs, execS, Wp_bind]
  congr 1
  funext x s1
  cases keep s1 x with
  | none => rfl
  | some q =>
    obtain ⟨v, s2⟩ := q
    simp only [oK_some]
    cases asgRS is j v s2 <;> rfl
/-- the turns of a for -/
def FR0 (cf : CF) (np : Nat) (t : T) (b : List S) (R : SS → Prop) (Qf : Fl → SS → Prop) (X : PV → SS → Prop) : List PV → SS → Prop
  | [], s => R s
  | x :: xs, s => BT t x s fun s1 => wS cf np b s1 (lpQ (fun s2 => FR0 cf np t b R Qf X xs s2) R Qf) X
def FR (cf : CF) (np : Nat) (t : T) (b : List S) (R : SS → Prop) (Qf : Fl → SS → Prop) (X : PV → SS → Prop) (xs : List PV) (s : SS) (h : Fx (cf, np, t, b, R, Qf, X, xs) := ()) : Prop := FR0 cf np t b R Qf X xs s
theorem FR_nil {t : T} {b : List S} {R : SS → Prop} : FR cf np t b R Qf X [] s = R s := rfl
theorem FR_cons {t : T} {b : List S} {R : SS → Prop} {x : PV} {xs : List PV} : FR cf np t b R Qf X (x :: xs) s = BT t x s fun s1 => wS cf np b s1 (lpQ (fun s2 => FR cf np t b R Qf X xs s2) R Qf) X := rfl
theorem FR_eq {t : T} {b : List S} {R : SS → Prop} : ∀ {xs : List PV} {s : SS}, Wp (forN (fun x s2 => match bindT t x s2 with
      | some s3 => execSs cf np b s3
      | none => .bad) xs s) (nxt R Qf) X = FR cf np t b R Qf X xs s
  | [], s => rfl
  | x :: xs, s => by
    rw [FR_cons]
    simp only [forN, Wp_bind]
    unfold BT
    cases bindT t x s with
    | none => rfl
    | some s3 =>
      simp only [oK_some]
      unfold wS
      congr 1
      funext f s4
      cases f with
      | nx => exact FR_eq
      | ct => exact FR_eq
      | br => rfl
      | rt r => rfl
theorem wS_for {t : T} {it : I} {b r : List S} : wS cf np (.for t it b :: r) s Qf X = wI cf it s (fun xs s1 => FR cf np t b (fun s2 => wS cf np r s2 Qf X) Qf X xs s1) X := by
  unfold wI
  have e : wS cf np (.for t it b :: r) s Qf X = Wp (execS cf np (.for t it b) s) (nxt (fun s2 => wS cf np r s2 Qf X) Qf) X := by
    unfold wS
    simp only [execSs, Wp_bind]
    congr 1
    funext f s1
    cases f <;> rfl
  rw [e]
  simp only [execS, Wp_bind]
  congr 1
  funext xs s1
  exact FR_eq
/-- a for, by what stands ahead of each turn -/
theorem fr_rule {t : T} {b : List S} {R : SS → Prop} {xs : List PV} (W : List PV → SS → Prop) (h0 : W xs s) (hx : ∀ s, W [] s → R s) (h : ∀ x r s, W (x :: r) s → BT t x s fun s1 => wS cf np b s1 (lpQ (W r) R Qf) X) : FR cf np t b R Qf X xs s := by
  induction xs generalizing s with
  | nil => exact hx s h0
  | cons x xs ih =>
    rw [FR_cons]
    have := h x xs s h0
    unfold BT at *
    cases e : bindT t x s with
    | none => rw [e] at this; exact this
    | some s3 =>
      rw [e] at this
      simp only [oK_some] at *
      unfold wS at *
      cases e2 : execSs cf np b s3 with
      | bad => rw [e2] at this; exact this
      | exc x s4 => rw [e2] at this; exact this
      | ok f s4 =>
        rw [e2] at this
        cases f with
        | nx => exact ih this
        | ct => exact ih this
        | br => exact this
        | rt r => exact this
/-- a while, by what stands ahead of each test, and a measure -/
def WH (cf : CF) (np : Nat) (c : E) (b : List S) (R : SS → Prop) (Qf : Fl → SS → Prop) (X : PV → SS → Prop) (s : SS) (h : Fx (cf, np, c, b, R, Qf, X) := ()) : Prop := Wp (execS cf np (.while c b) s) (nxt R Qf) X
theorem wS_while {c : E} {b r : List S} : wS cf np (.while c b :: r) s Qf X = WH cf np c b (fun s2 => wS cf np r s2 Qf X) Qf X s := by
  unfold wS WH
  simp only [execSs, Wp_bind]
  congr 1
  funext f s1
  cases f <;> rfl
theorem wh_rule {c : E} {b : List S} {R : SS → Prop} (W : Nat → SS → Prop) (n : Nat) (hn : n < turns) (h0 : W n s) (h : ∀ m s, W m s → wE cf c s (fun x s1 => TS s1 x fun t => BR t (wS cf np b s1 (lpQ (fun s2 => ∃ k, k < m ∧ W k s2) R Qf) X) (R s1)) X) : WH cf np c b R Qf X s := by
  unfold WH
  have key : ∀ (m N : Nat) (s : SS), m < N → W m s → Wp (whileN (fun s => (evalE cf c s).bind fun r s1 => match testR s1 r with
      | some t => .ok t s1
      | none => .bad) (fun s => execSs cf np b s) N s) (nxt R Qf) X := by
    intro m
    induction m using Nat.strongRecOn with
    | ind m ih =>
      intro N s hmN hW
      obtain ⟨N, rfl⟩ : ∃ k, N = k + 1 := ⟨N - 1, by omega⟩
      have hh := h m s hW
      simp only [whileN, Wp_bind]
      unfold wE at hh
      cases e1 : evalE cf c s with
      | bad => rw [e1] at hh; exact hh
      | exc x s1 => rw [e1] at hh; exact hh
      | ok r s1 =>
        rw [e1] at hh
        simp only [Wp, TS] at hh ⊢
        cases e2 : testR s1 r with
        | none => rw [e2] at hh; exact hh
        | some t =>
          rw [e2] at hh
          cases t with
          | false => exact hh
          | true =>
            simp only [BR] at hh
            unfold wS at hh
            show Wp ((execSs cf np b s1).bind _) _ _
            rw [Wp_bind]
            cases e3 : execSs cf np b s1 with
            | bad => rw [e3] at hh; exact hh
            | exc x s2 => rw [e3] at hh; exact hh
            | ok f s2 =>
              rw [e3] at hh
              cases f with
              | nx =>
                obtain ⟨k, hk, hW'⟩ := hh
                exact ih k hk N s2 (by omega) hW'
              | ct =>
                obtain ⟨k, hk, hW'⟩ := hh
                exact ih k hk N s2 (by omega) hW'
              | br => exact hh
              | rt r => exact hh
  simp only [execS]
  exact key n turns s hn h0
end
/-! defs -/
theorem eq_of_WC {c : CR} {r : RV} {fin : List Sl} {sto : List SO} (h : WC c (fun a f s => a = r ∧ f = fin ∧ s = sto) fun _ _ _ => False) : c = .ok r fin sto := by
  cases c with
  | ok a f s => obtain ⟨rfl, rfl, rfl⟩ := h; rfl
  | exc _ _ _ => exact h.elim
  | bad => exact h.elim
theorem WC_mono {c : CR} {Q Q' : RV → List Sl → List SO → Prop} {X X' : PV → List Sl → List SO → Prop} (h : WC c Q X) (q : ∀ a f s, Q a f s → Q' a f s) (x : ∀ a f s, X a f s → X' a f s) : WC c Q' X' := by
  cases c with
  | ok a f s => exact q a f s h
  | exc a f s => exact x a f s h
  | bad => exact h
/-- behind a def's body -/
def dfQ (d : Fd) (as : List Sl) (Q : RV → List Sl → List SO → Prop) : Fl → SS → Prop
  | .nx, s => Q (.sh .non) (finA d.asg 0 as s.env) s.sto
  | .rt r, s => Q r (finA d.asg 0 as s.env) s.sto
  | _, _ => False
theorem dfQ_nx {d : Fd} {as : List Sl} {Q : RV → List Sl → List SO → Prop} {s : SS} : dfQ d as Q .nx s = Q (.sh .non) (finA d.asg 0 as s.env) s.sto := rfl
theorem dfQ_rt {d : Fd} {as : List Sl} {Q : RV → List Sl → List SO → Prop} {r : RV} {s : SS} : dfQ d as Q (.rt r) s = Q r (finA d.asg 0 as s.env) s.sto := rfl
theorem wc_def {tab : Tab} {n : Nat} {f : Str} {d : Fd} {as : List Sl} {sto : List SO} {Q : RV → List Sl → List SO → Prop} {X : PV → List Sl → List SO → Prop} (hl : tab.lookup f = some d) (h1 : as.length = d.np ∧ d.np ≤ d.ns)
    (h : wS (callF tab n) d.np d.body ⟨frzA d.asg as ++ List.replicate (d.ns - d.np) .un, sto⟩ (dfQ d (frzA d.asg as) Q) fun x s => X x (finA d.asg 0 (frzA d.asg as) s.env) s.sto) : WC (callF tab (n + 1) f as sto) Q X := by
  show WC (match tab.lookup f with | some d => runFd (callF tab n) d as sto | none => .bad) Q X
  rw [hl]
  simp only [runFd, if_pos h1]
  unfold wS at h
  cases e : execSs (callF tab n) d.np d.body ⟨frzA d.asg as ++ List.replicate (d.ns - d.np) .un, sto⟩ with
  | bad => rw [e] at h; exact h
  | exc x s => rw [e] at h; exact h
  | ok f s =>
    rw [e] at h
    cases f with
    | nx => exact h
    | rt r => exact h
    | br => exact h
    | ct => exact h
end TP

set_option Elab.async false
set_option linter.all false
set_option maxRecDepth 100000
set_option maxHeartbeats 4000000
/-! Kl2: the rewriting set. -/
namespace TP
open PySem
section
variable {env : List Sl} {sto : List SO} {s : SS} {Q : RV → SS → Prop} {cf : CF} {X : PV → SS → Prop}
theorem wE_var' {i : Nat} : wE cf (.var i) ⟨env, sto⟩ Q X = varK i ⟨env, sto⟩ Q (env[i]?) := wE_var
/-! contents -/
def contH (sto : List SO) : Option Sl → Option PV
  | some (.val v) => some (boxC sto v)
  | some (.own o) => some o
  | _ => none
theorem cont_sh {v : PV} : cont ⟨env, sto⟩ (.sh v) = some (boxC sto v) := rfl
theorem cont_fr {v : PV} : cont s (.fr v) = some v := rfl
theorem cont_hd {i : Nat} : cont ⟨env, sto⟩ (.hd i) = contH sto (env[i]?) := by
  simp only [cont]
  cases env[i]? with
  | none => rfl
  | some x => cases x <;> rfl
theorem contH_val {v : PV} : contH sto (some (.val v)) = some (boxC sto v) := rfl
theorem contH_own {v : PV} : contH sto (some (.own v)) = some v := rfl
theorem boxC_nl {v : PV} : boxC [] v = v := by cases v <;> rfl
theorem boxC_non : boxC sto .non = .non := rfl
theorem boxC_bl {b : Bool} : boxC sto (.bl b) = .bl b := rfl
theorem boxC_int {b : Int} : boxC sto (.int b) = .int b := rfl
theorem boxC_str {b : List Nat} : boxC sto (.str b) = .str b := rfl
theorem boxC_tup {b : List PV} : boxC sto (.tup b) = .tup b := rfl
theorem boxC_lst {b : List PV} : boxC sto (.lst b) = .lst b := rfl
theorem boxC_rol {b : List PV} : boxC sto (.rol b) = .rol b := rfl
theorem boxC_dct {ks : List L2.Key} {vs : List PV} : boxC sto (.dct ks vs) = .dct ks vs := rfl
theorem boxC_ty {b : String} : boxC sto (.ty b) = .ty b := rfl
theorem boxC_glo {b : Str} : boxC sto (.glo b) = .glo b := rfl
def pbH (i : Nat) (o : PV) (env : List Sl) (sto : List SO) : Option Sl → Option SS
  | some (.own _) => some ⟨env.set i (.own o), sto⟩
  | some (.val (.ref l)) => (match sto[l]? with
    | some (.box _) => some ⟨env, sto.set l (.box o)⟩
    | _ => none)
  | _ => none
theorem putBack_hd {i : Nat} {o : PV} : putBack (.hd i) o ⟨env, sto⟩ = pbH i o env sto (env[i]?) := by
  simp only [putBack]
  cases env[i]? with
  | none => rfl
  | some x =>
    cases x with
    | val v => cases v <;> rfl
    | _ => rfl
theorem pbH_own {i : Nat} {o o' : PV} : pbH i o env sto (some (.own o')) = some ⟨env.set i (.own o), sto⟩ := rfl
/-! arguments -/
theorem argsOf_nil {l : List Nat} : argsOf s l [] = some [] := rfl
theorem argsOf_sh {l : List Nat} {v : PV} {rs : List RV} : argsOf s l (.sh v :: rs) = (argsOf s l rs).map (.val v :: ·) := by
  simp only [argsOf, argOf]
  cases argsOf s l rs <;> rfl
theorem argsOf_fr {l : List Nat} {v : PV} {rs : List RV} : argsOf s l (.fr v :: rs) = (argsOf s l rs).map (.own v :: ·) := by
  simp only [argsOf, argOf]
  cases argsOf s l rs <;> rfl
def argH (i : Nat) (l : List Nat) (K : List Nat → Option (List Sl)) : Option Sl → Option (List Sl)
  | some (.val v) => (K l).map (.val v :: ·)
  | some (.own o) => if i ∈ l then none else (K (i :: l)).map (.own o :: ·)
  | _ => none
theorem argsOf_hd {i : Nat} {l : List Nat} {rs : List RV} : argsOf ⟨env, sto⟩ l (.hd i :: rs) = argH i l (fun l => argsOf ⟨env, sto⟩ l rs) (env[i]?) := by
  simp only [argsOf, argOf]
  cases env[i]? with
  | none => rfl
  | some x =>
    cases x with
    | un => rfl
    | val v => simp only [argH]; cases argsOf ⟨env, sto⟩ l rs <;> rfl
    | own o =>
      simp only [argH]
      by_cases h : i ∈ l
      · simp only [if_pos h]
      · simp only [if_neg h]
        cases argsOf ⟨env, sto⟩ (i :: l) rs <;> rfl
theorem argH_val {i : Nat} {l : List Nat} {K : List Nat → Option (List Sl)} {v : PV} : argH i l K (some (.val v)) = (K l).map (.val v :: ·) := rfl
theorem argH_own {i : Nat} {l : List Nat} {K : List Nat → Option (List Sl)} {v : PV} (h : i ∉ l) : argH i l K (some (.own v)) = (K (i :: l)).map (.own v :: ·) := if_neg h
theorem backE_nil {as fs : List Sl} : backE env [] as fs = env := by cases as <;> rfl
theorem backE_sh {v : PV} {a f : Sl} {rs : List RV} {as fs : List Sl} : backE env (.sh v :: rs) (a :: as) (f :: fs) = backE env rs as fs := rfl
theorem backE_fr {v : PV} {a f : Sl} {rs : List RV} {as fs : List Sl} : backE env (.fr v :: rs) (a :: as) (f :: fs) = backE env rs as fs := rfl
theorem backE_own {i : Nat} {o : PV} {f : Sl} {rs : List RV} {as fs : List Sl} : backE env (.hd i :: rs) (.own o :: as) (f :: fs) = backE (env.set i f) rs as fs := rfl
theorem backE_val {i : Nat} {o : PV} {f : Sl} {rs : List RV} {as fs : List Sl} : backE env (.hd i :: rs) (.val o :: as) (f :: fs) = backE env rs as fs := rfl
theorem permR_nil {rs : List RV} : permR rs [] = some [] := rfl
theorem permR_inl {rs : List RV} {i : Nat} {pm : List (Sum Nat PV)} : permR rs (.inl i :: pm) = (rs[i]?).bind fun r => (permR rs pm).map (r :: ·) := by
  simp only [permR]
  cases rs[i]? with
  | none => rfl
  | some r => cases permR rs pm <;> rfl
theorem permR_inr {rs : List RV} {v : PV} {pm : List (Sum Nat PV)} : permR rs (.inr v :: pm) = (permR rs pm).map (.sh v :: ·) := rfl
theorem finA_nil {asg : List Nat} {k : Nat} : finA asg k [] env = [] := rfl
theorem finA_cons {asg : List Nat} {k : Nat} {a : Sl} {r : List Sl} : finA asg k (a :: r) env = (if k ∈ asg then a else env.getD k .un) :: finA asg (k + 1) r env := rfl
theorem frzA_nil {as : List Sl} : frzA [] as = as := rfl
theorem frzA_cons {i : Nat} {is : List Nat} {as : List Sl} : frzA (i :: is) as = frzA is (frz1 as i) := rfl
def frH (as : List Sl) (i : Nat) : Option Sl → List Sl
  | some (.own o) => as.set i (.val o)
  | _ => as
theorem frz1_eq {as : List Sl} {i : Nat} : frz1 as i = frH as i (as[i]?) := by
  unfold frz1
  cases as[i]? with
  | none => rfl
  | some x => cases x <;> rfl
theorem frH_own {as : List Sl} {i : Nat} {o : PV} : frH as i (some (.own o)) = as.set i (.val o) := rfl
theorem frH_val {as : List Sl} {i : Nat} {o : PV} : frH as i (some (.val o)) = as := rfl
/-! iterables -/
theorem itemsOf_lst {xs : List PV} : itemsOf (.lst xs) = some xs := rfl
theorem itemsOf_tup {xs : List PV} : itemsOf (.tup xs) = some xs := rfl
theorem itemsOf_rol {xs : List PV} : itemsOf (.rol xs) = some xs := rfl
theorem itemsOf_str {xs : List Nat} : itemsOf (.str xs) = some (xs.map fun c => .str [c]) := rfl
theorem itemsOf_dct {ks : List L2.Key} {vs : List PV} : itemsOf (.dct ks vs) = some (ks.map pvKey) := rfl
theorem enumOf_lst {xs : List PV} : enumOf (.lst xs) = some (enumL 0 xs) := rfl
theorem revOf_lst {xs : List PV} : revOf (.lst xs) = some xs.reverse := rfl
theorem revOf_tup {xs : List PV} : revOf (.tup xs) = some xs.reverse := rfl
theorem zipOf_lst {xs ys : List PV} : zipOf [.lst xs, .lst ys] = some ((xs.zip ys).map fun p => .tup [p.1, p.2]) := rfl
theorem zipOf_tup {xs ys : List PV} : zipOf [.tup xs, .tup ys] = some ((xs.zip ys).map fun p => .tup [p.1, p.2]) := rfl
/-! operations -/
theorem P1_s {p : P} {a : PV} : P1 p s Q (some a) = oK (primSem p [a]) fun r => Q r s := rfl
theorem P2_s {p : P} {a b : PV} : P2 p s Q (some a) (some b) = oK (primSem p [a, b]) fun r => Q r s := rfl
theorem SM_s {p : P} {z a : PV} : SM p s Q z (some a) = oK (primSem p [z, a]) fun r => Q r s := rfl
theorem MU_s {m : M} {r : RV} {vs : List PV} : MU m r s Q vs = oK (cont s r) fun o => oK (mutSem m o vs) fun q => oK (putBack r q.1 s) fun s4 => Q (.sh q.2) s4 := rfl
theorem SX_s {ra : RV} {v o k : PV} {K : SS → Prop} : SX s ra v K (some o) (some k) = oK (setSem o k v) fun o' => oK (putBack ra o' s) K := rfl
theorem C2_s {p : P} {x y : PV} {A B : Prop} : C2 p (some x) (some y) A B = C2k A B (primSem p [x, y]) := rfl
theorem C2k_t {A B : Prop} : C2k A B (some (.sh (.bl true))) = A := rfl
theorem C2k_f {A B : Prop} : C2k A B (some (.sh (.bl false))) = B := rfl
theorem C2k_d {p : Prop} [Decidable p] {A B : Prop} : C2k A B (some (.sh (.bl (decide p)))) = ((p → A) ∧ (¬ p → B)) := by
  by_cases h : p <;> simp [C2k, h]

theorem BR_nd {p : Prop} [inst : Decidable p] {A B : Prop} : BR (some (!decide p)) A B = ((¬ p → A) ∧ (p → B)) := by
  by_cases h : p <;> simp [BR, h]
theorem pm_add {i j : Int} : primSem .add [.int i, .int j] = some (.sh (.int (i + j))) := rfl
theorem pm_sub {i j : Int} : primSem .sub [.int i, .int j] = some (.sh (.int (i - j))) := rfl
theorem pm_neg {i : Int} : primSem .neg [.int i] = some (.sh (.int (-i))) := rfl
theorem pm_addS {x y : List Nat} (h : x.length + y.length ≤ szL) : primSem .add [.str x, .str y] = some (.sh (.str (x ++ y))) := if_pos h
theorem pm_addT {x y : List PV} (h : x.length + y.length ≤ szL) : primSem .add [.tup x, .tup y] = some (.sh (.tup (x ++ y))) := if_pos h
theorem pm_addL {x y : List PV} (h : x.length + y.length ≤ szL) : primSem .add [.lst x, .lst y] = some (.fr (.lst (x ++ y))) := if_pos h
theorem pm_mul {i j : Int} (h : intBig i = true) (k : intBig j = true) : primSem .mul [.int i, .int j] = some (.sh (.int (i * j))) := by show (if _ then _ else _) = _; rw [h, k]; rfl
theorem pm_fdiv {i j : Int} (h : j ≠ 0) (k : intBig j = true) : primSem .fdiv [.int i, .int j] = some (.sh (.int (i.fdiv j))) := if_pos ⟨h, k⟩
theorem pm_mod {i j : Int} (h : j ≠ 0) : primSem .mod [.int i, .int j] = some (.sh (.int (i.fmod j))) := if_pos h
theorem pm_pow {i j : Int} (h : 0 ≤ j ∧ j ≤ 1000000 ∧ i.natAbs < 2 ^ 64) : primSem .pow [.int i, .int j] = some (.sh (.int (i ^ j.toNat))) := if_pos h
theorem pm_lt {i j : Int} : primSem .lt [.int i, .int j] = some (.sh (.bl (decide (i < j)))) := rfl
theorem pm_le {i j : Int} : primSem .le [.int i, .int j] = some (.sh (.bl (decide (i ≤ j)))) := rfl
theorem pm_gt {i j : Int} : primSem .gt [.int i, .int j] = some (.sh (.bl (decide (j < i)))) := rfl
theorem pm_ge {i j : Int} : primSem .ge [.int i, .int j] = some (.sh (.bl (decide (j ≤ i)))) := rfl
theorem pm_isN {x : PV} : primSem .isN [x] = some (.sh (.bl (isNon x))) := rfl
theorem pm_notN {x : PV} : primSem .notN [x] = some (.sh (.bl (!isNon x))) := rfl
theorem pm_isB {b c : Bool} : primSem (.isB b) [.bl c] = some (.sh (.bl (decide (c = b)))) := rfl
theorem pm_notB {b c : Bool} : primSem (.notB b) [.bl c] = some (.sh (.bl (!decide (c = b)))) := rfl
theorem pm_idx_lst {xs : List PV} {i : Int} : primSem .idx [.lst xs, .int i] = (L2.atI xs i).map RV.sh := rfl
theorem pm_len_lst {xs : List PV} : primSem .len [.lst xs] = some (.sh (.int xs.length)) := rfl
theorem pm_idx_tup {xs : List PV} {i : Int} : primSem .idx [.tup xs, .int i] = (L2.atI xs i).map RV.sh := rfl
theorem pm_len_tup {xs : List PV} : primSem .len [.tup xs] = some (.sh (.int xs.length)) := rfl
theorem pm_idx_rol {xs : List PV} {i : Int} : primSem .idx [.rol xs, .int i] = (L2.atI xs i).map RV.sh := rfl
theorem pm_len_rol {xs : List PV} : primSem .len [.rol xs] = some (.sh (.int xs.length)) := rfl
theorem pm_idx_str {xs : List Nat} {i : Int} (k : xs.length ≤ szL) : primSem .idx [.str xs, .int i] = (L2.atI xs i).map (fun c => .sh (.str [c])) := if_pos k
theorem pm_len_str {xs : List Nat} (k : xs.length ≤ szL) : primSem .len [.str xs] = some (.sh (.int xs.length)) := if_pos k
theorem pm_abs {i : Int} : primSem .abs [.int i] = some (.sh (.int (if i < 0 then -i else i))) := rfl
theorem pm_min2 {i j : Int} : primSem .min2 [.int i, .int j] = some (.sh (.int (if j < i then j else i))) := rfl
theorem pm_max2 {i j : Int} : primSem .max2 [.int i, .int j] = some (.sh (.int (if j > i then j else i))) := rfl
theorem pm_toIntI {i : Int} : primSem .toInt [.int i] = some (.sh (.int i)) := rfl
theorem pm_toIntB {b : Bool} : primSem .toInt [.bl b] = some (.sh (.int (if b then 1 else 0))) := rfl
theorem pm_toTupL {xs : List PV} : primSem .toTup [.lst xs] = some (.sh (.tup xs)) := rfl
theorem pm_toTupT {xs : List PV} : primSem .toTup [.tup xs] = some (.sh (.tup xs)) := rfl
theorem pm_toList_lst {xs : List PV} : primSem .toList [.lst xs] = some (.fr (.lst xs)) := rfl
theorem pm_toList_tup {xs : List PV} : primSem .toList [.tup xs] = some (.fr (.lst xs)) := rfl
theorem pm_toList_rol {xs : List PV} : primSem .toList [.rol xs] = some (.fr (.lst xs)) := rfl
theorem pm_all {xs : List PV} : primSem .all [.lst xs] = (bools xs).map (fun bs => .sh (.bl (bs.all id))) := rfl
theorem pm_maxD {xs : List PV} {d : Int} : primSem .maxD [.lst xs, .int d] = (intsL xs).map (fun ns => .sh (.int (match ns with | [] => d | n :: r => maxI n r))) := by
  show maxDSem (.lst xs) (.int d) = _
  simp only [maxDSem]
  cases intsL xs with
  | none => rfl
  | some ns => cases ns <;> rfl
theorem pm_zipL {xs ys : List PV} (h : min xs.length ys.length ≤ szL) : primSem .zipL [.lst xs, .lst ys] = some (.fr (.lst (zipPs xs ys))) := if_pos h
theorem pm_any {xs : List PV} : primSem .any [.lst xs] = (bools xs).map (fun bs => .sh (.bl (bs.any id))) := rfl
theorem pm_sum {xs : List PV} : primSem .sum [.lst xs] = (intsL xs).map (fun bs => .sh (.int bs.sum)) := rfl
theorem pm_eq {x y : PV} (h : dataOk x = true) (k : dataOk y = true) : primSem .eq [x, y] = some (.sh (.bl (x.eqv y))) := by show (if _ then _ else _) = _; rw [h, k]; rfl
theorem pm_ne {x y : PV} (h : dataOk x = true) (k : dataOk y = true) : primSem .ne [x, y] = some (.sh (.bl (!x.eqv y))) := by show (if _ then _ else _) = _; rw [h, k]; rfl
theorem pm_revs {xs : List PV} : primSem .revs [.lst xs] = some (.fr (.lst xs.reverse)) := rfl
theorem pm_toStrI {i : Int} (h : i.natAbs < 2 ^ 1900) : primSem .toStr [.int i] = some (.sh (.str (toString i : Str).cps.toList)) := if_pos (decide_eq_true h)
def jnK (z : List Nat) : Option (List (List Nat)) → Option RV
  | some ys => if joinOk z ys then some (.sh (.str (TL.joinL z ys))) else none
  | none => none
theorem pm_joinL {z : List Nat} {xs : List PV} : primSem .join [.str z, .lst xs] = jnK z (strsL xs) := by
  simp only [primSem, joinSem]
  cases strsL xs with
  | none => rfl
  | some ys => rfl
theorem jnK_s {z : List Nat} {ys : List (List Nat)} (k : joinOk z ys = true) : jnK z (some ys) = some (.sh (.str (TL.joinL z ys))) := if_pos k
theorem pm_split {x : List Nat} {c : Nat} (h : x.length + 2 ≤ szL ∧ c < 256) : primSem .split [.str x, .str [c]] = some (.fr (.lst ((TL.spl [c] 0 [] x).map .str))) := if_pos h
theorem pm_mulS {x : List Nat} {j : Int} (h : small63 j = true) (k : x.length * j.toNat ≤ szL) : primSem .mul [.str x, .int j] = some (.sh (.str (List.replicate j.toNat x).flatten)) := by show (if _ then _ else _) = _; rw [h, decide_eq_true k]; rfl
theorem pm_mulL {x : List PV} {j : Int} (h : small63 j = true) (k : x.length * j.toNat ≤ szL) : primSem .mul [.lst x, .int j] = some (.fr (.lst (List.replicate j.toNat x).flatten)) := by show (if _ then _ else _) = _; rw [h, decide_eq_true k]; rfl
theorem pm_mulT {x : List PV} {j : Int} (h1 : -1000 ≤ j) (h2 : j ≤ 1000) (h3 : x.length ≤ 1000) : primSem .mul [.tup x, .int j] = some (.sh (.tup (List.replicate j.toNat x).flatten)) := by show (if _ then _ else _) = _; rw [decide_eq_true h1, decide_eq_true h2, decide_eq_true h3]; rfl
theorem pm_isinT {x : PV} {xs : List PV} (h : x.flat = true) (k : xs.all PV.flat = true) : primSem .isin [x, .tup xs] = some (.sh (.bl (xs.any fun y => y.eqv x))) := by simp only [primSem, isinB, h, k, Bool.and_self, if_true, Option.map_some]
theorem pm_isinL {x : PV} {xs : List PV} (h : x.flat = true) (k : xs.all PV.flat = true) : primSem .isin [x, .lst xs] = some (.sh (.bl (xs.any fun y => y.eqv x))) := by simp only [primSem, isinB, h, k, Bool.and_self, if_true, Option.map_some]
theorem pm_notinT {x : PV} {xs : List PV} (h : x.flat = true) (k : xs.all PV.flat = true) : primSem .notin [x, .tup xs] = some (.sh (.bl (!xs.any fun y => y.eqv x))) := by simp only [primSem, isinB, h, k, Bool.and_self, if_true, Option.map_some]
theorem pm_notinL {x : PV} {xs : List PV} (h : x.flat = true) (k : xs.all PV.flat = true) : primSem .notin [x, .lst xs] = some (.sh (.bl (!xs.any fun y => y.eqv x))) := by simp only [primSem, isinB, h, k, Bool.and_self, if_true, Option.map_some]
theorem pm_isinS {c : Nat} {z : List Nat} : primSem .isin [.str [c], .str z] = some (.sh (.bl (decide (c ∈ z)))) := rfl
theorem pm_notinS {c : Nat} {z : List Nat} : primSem .notin [.str [c], .str z] = some (.sh (.bl (!decide (c ∈ z)))) := rfl
theorem pm_isi_non_int : primSem .isi [.non, .ty "int"] = some (.sh (.bl false)) := by simp [primSem, isiSem, tyKnown, tyName, tySub]
theorem pm_isi_non_bool : primSem .isi [.non, .ty "bool"] = some (.sh (.bl false)) := by simp [primSem, isiSem, tyKnown, tyName, tySub]
theorem pm_isi_non_str : primSem .isi [.non, .ty "str"] = some (.sh (.bl false)) := by simp [primSem, isiSem, tyKnown, tyName, tySub]
theorem pm_isi_non_tuple : primSem .isi [.non, .ty "tuple"] = some (.sh (.bl false)) := by simp [primSem, isiSem, tyKnown, tyName, tySub]
theorem pm_isi_non_list : primSem .isi [.non, .ty "list"] = some (.sh (.bl false)) := by simp [primSem, isiSem, tyKnown, tyName, tySub]
theorem pm_isi_bl_int {b : Bool} : primSem .isi [(.bl b), .ty "int"] = some (.sh (.bl true)) := by simp [primSem, isiSem, tyKnown, tyName, tySub]
theorem pm_isi_bl_bool {b : Bool} : primSem .isi [(.bl b), .ty "bool"] = some (.sh (.bl true)) := by simp [primSem, isiSem, tyKnown, tyName, tySub]
theorem pm_isi_bl_str {b : Bool} : primSem .isi [(.bl b), .ty "str"] = some (.sh (.bl false)) := by simp [primSem, isiSem, tyKnown, tyName, tySub]
theorem pm_isi_bl_tuple {b : Bool} : primSem .isi [(.bl b), .ty "tuple"] = some (.sh (.bl false)) := by simp [primSem, isiSem, tyKnown, tyName, tySub]
theorem pm_isi_bl_list {b : Bool} : primSem .isi [(.bl b), .ty "list"] = some (.sh (.bl false)) := by simp [primSem, isiSem, tyKnown, tyName, tySub]
theorem pm_isi_int_int {i : Int} : primSem .isi [(.int i), .ty "int"] = some (.sh (.bl true)) := by simp [primSem, isiSem, tyKnown, tyName, tySub]
theorem pm_isi_int_bool {i : Int} : primSem .isi [(.int i), .ty "bool"] = some (.sh (.bl false)) := by simp [primSem, isiSem, tyKnown, tyName, tySub]
theorem pm_isi_int_str {i : Int} : primSem .isi [(.int i), .ty "str"] = some (.sh (.bl false)) := by simp [primSem, isiSem, tyKnown, tyName, tySub]
theorem pm_isi_int_tuple {i : Int} : primSem .isi [(.int i), .ty "tuple"] = some (.sh (.bl false)) := by simp [primSem, isiSem, tyKnown, tyName, tySub]
theorem pm_isi_int_list {i : Int} : primSem .isi [(.int i), .ty "list"] = some (.sh (.bl false)) := by simp [primSem, isiSem, tyKnown, tyName, tySub]
theorem pm_isi_str_int {x : List Nat} : primSem .isi [(.str x), .ty "int"] = some (.sh (.bl false)) := by simp [primSem, isiSem, tyKnown, tyName, tySub]
theorem pm_isi_str_bool {x : List Nat} : primSem .isi [(.str x), .ty "bool"] = some (.sh (.bl false)) := by simp [primSem, isiSem, tyKnown, tyName, tySub]
theorem pm_isi_str_str {x : List Nat} : primSem .isi [(.str x), .ty "str"] = some (.sh (.bl true)) := by simp [primSem, isiSem, tyKnown, tyName, tySub]
theorem pm_isi_str_tuple {x : List Nat} : primSem .isi [(.str x), .ty "tuple"] = some (.sh (.bl false)) := by simp [primSem, isiSem, tyKnown, tyName, tySub]
theorem pm_isi_str_list {x : List Nat} : primSem .isi [(.str x), .ty "list"] = some (.sh (.bl false)) := by simp [primSem, isiSem, tyKnown, tyName, tySub]
theorem pm_isi_tup_int {xs : List PV} : primSem .isi [(.tup xs), .ty "int"] = some (.sh (.bl false)) := by simp [primSem, isiSem, tyKnown, tyName, tySub]
theorem pm_isi_tup_bool {xs : List PV} : primSem .isi [(.tup xs), .ty "bool"] = some (.sh (.bl false)) := by simp [primSem, isiSem, tyKnown, tyName, tySub]
theorem pm_isi_tup_str {xs : List PV} : primSem .isi [(.tup xs), .ty "str"] = some (.sh (.bl false)) := by simp [primSem, isiSem, tyKnown, tyName, tySub]
theorem pm_isi_tup_tuple {xs : List PV} : primSem .isi [(.tup xs), .ty "tuple"] = some (.sh (.bl true)) := by simp [primSem, isiSem, tyKnown, tyName, tySub]
theorem pm_isi_tup_list {xs : List PV} : primSem .isi [(.tup xs), .ty "list"] = some (.sh (.bl false)) := by simp [primSem, isiSem, tyKnown, tyName, tySub]
theorem pm_isi_lst_int {xs : List PV} : primSem .isi [(.lst xs), .ty "int"] = some (.sh (.bl false)) := by simp [primSem, isiSem, tyKnown, tyName, tySub]
theorem pm_isi_lst_bool {xs : List PV} : primSem .isi [(.lst xs), .ty "bool"] = some (.sh (.bl false)) := by simp [primSem, isiSem, tyKnown, tyName, tySub]
theorem pm_isi_lst_str {xs : List PV} : primSem .isi [(.lst xs), .ty "str"] = some (.sh (.bl false)) := by simp [primSem, isiSem, tyKnown, tyName, tySub]
theorem pm_isi_lst_tuple {xs : List PV} : primSem .isi [(.lst xs), .ty "tuple"] = some (.sh (.bl false)) := by simp [primSem, isiSem, tyKnown, tyName, tySub]
theorem pm_isi_lst_list {xs : List PV} : primSem .isi [(.lst xs), .ty "list"] = some (.sh (.bl true)) := by simp [primSem, isiSem, tyKnown, tyName, tySub]
theorem mu_app {xs : List PV} {v : PV} (h : xs.length < szL) : mutSem .append (.lst xs) [v] = some (.lst (xs ++ [v]), .non) := if_pos h
theorem mu_pop {xs : List PV} {v : PV} : mutSem .pop (.lst (xs ++ [v])) [] = some (.lst xs, v) := by simp [mutSem, popSem]
theorem mu_clear {xs : List PV} : mutSem .clear (.lst xs) [] = some (.lst [], .non) := rfl
theorem mu_reverse {xs : List PV} : mutSem .reverse (.lst xs) [] = some (.lst xs.reverse, .non) := rfl
theorem mutTy_s {m : M} {xs : List PV} : mutTy m (some (.lst xs)) = true := rfl
theorem set_lst {xs : List PV} {i : Int} {v : PV} : setSem (.lst xs) (.int i) v = (L2.ixN xs.length i).map (fun k => .lst (xs.set k v)) := by
  simp only [setSem]
  cases L2.ixN xs.length i <;> rfl
theorem key_int {i : Int} : keyPV (.int i) = some (.inl i) := rfl
theorem key_str {x : List Nat} : keyPV (.str x) = some (.inr ⟨x.toArray⟩) := rfl
theorem pm_idx_dct {ks : List L2.Key} {vs : List PV} {k : PV} : primSem .idx [.dct ks vs, k] = (keyPV k).bind fun q => (lkD ks vs q).map RV.sh := by
  show idxSem (.dct ks vs) k = _
  simp only [idxSem]
  cases keyPV k <;> rfl
theorem pm_isin_dct {ks : List L2.Key} {vs : List PV} {k : PV} : primSem .isin [k, .dct ks vs] = (keyPV k).map fun q => .sh (.bl (ks.any fun j => decide (j = q))) := by
  show (isinB k (.dct ks vs)).map _ = _
  simp only [isinB, Option.map_map]
  rfl
theorem pm_notin_dct {ks : List L2.Key} {vs : List PV} {k : PV} : primSem .notin [k, .dct ks vs] = (keyPV k).map fun q => .sh (.bl (!ks.any fun j => decide (j = q))) := by
  show (isinB k (.dct ks vs)).map _ = _
  simp only [isinB, Option.map_map]
  rfl
theorem pm_len_dct {ks : List L2.Key} {vs : List PV} : primSem .len [.dct ks vs] = some (.sh (.int ks.length)) := rfl
theorem set_dct {ks : List L2.Key} {vs : List PV} {k v : PV} (h : ks.length < szL) : setSem (.dct ks vs) k v = (keyPV k).map fun q => putD ks vs q v := by
  simp only [setSem, if_pos h]
  cases keyPV k <;> rfl
theorem PD_s {vs : List PV} : PD s Q vs = oK (pairsD vs) fun ps => ps.length ≤ 15 ∧ Q (.fr (mergeD [] [] ps)) s := rfl
theorem pairs_nil : pairsD [] = some [] := rfl
theorem pairs_str {x : List Nat} {v : PV} {r : List PV} : pairsD (.str x :: v :: r) = (pairsD r).map (((.inr ⟨x.toArray⟩ : L2.Key), v) :: ·) := by
  simp only [pairsD, keyPV]
  cases pairsD r <;> rfl
theorem pairs_int {x : Int} {v : PV} {r : List PV} : pairsD (.int x :: v :: r) = (pairsD r).map (((.inl x : L2.Key), v) :: ·) := by
  simp only [pairsD, keyPV]
  cases pairsD r <;> rfl
theorem aug_add {i j : Int} : augSem .add (.int i) (.int j) = some (.int (i + j)) := rfl
theorem aug_sub {i j : Int} : augSem .sub (.int i) (.int j) = some (.int (i - j)) := rfl
theorem sl_lst {l h : Option Int} {xs : List PV} : slSem l h (.lst xs) = some (.fr (.lst (cutL xs l h))) := rfl
theorem sl_tup {l h : Option Int} {xs : List PV} : slSem l h (.tup xs) = some (.sh (.tup (cutL xs l h))) := rfl
theorem sl_str {l h : Option Int} {xs : List Nat} (k : xs.length ≤ szL) : slSem l h (.str xs) = some (.sh (.str (cutL xs l h))) := if_pos k
theorem bnd_abs {r : RV} : bndOf s true r = some none := rfl
theorem bnd_int {i : Int} : bndOf s false (.sh (.int i)) = some (some i) := rfl
theorem isAbs_non : isAbs (.con .non) = true := rfl
theorem isAbs_int {i : Int} : isAbs (.con (.int i)) = false := rfl
theorem isAbs_var {i : Nat} : isAbs (.var i) = false := rfl
theorem isAbs_prim {p : P} {es : List E} : isAbs (.prim p es) = false := rfl
theorem isAbs_call {p : Str} {es : List E} : isAbs (.call p es) = false := rfl
theorem bools_map {α : Type} {f : α → Bool} : ∀ {xs : List α}, bools (xs.map fun x => .bl (f x)) = some (xs.map f)
  | [] => rfl
  | x :: xs => by simp only [List.map_cons, bools, bools_map, Option.map_some]
theorem ints_map {α : Type} {f : α → Int} : ∀ {xs : List α}, intsL (xs.map fun x => .int (f x)) = some (xs.map f)
  | [] => rfl
  | x :: xs => by simp only [List.map_cons, intsL, ints_map, Option.map_some]
theorem strs_map {α : Type} {f : α → List Nat} : ∀ {xs : List α}, strsL (xs.map fun x => .str (f x)) = some (xs.map f)
  | [] => rfl
  | x :: xs => by simp only [List.map_cons, strsL, strs_map, Option.map_some]
theorem ixN_0 {n : Nat} (h : 0 < n) : L2.ixN n 0 = some 0 := by simp [L2.ixN]; omega
theorem ixN_1 {n : Nat} (h : 1 < n) : L2.ixN n 1 = some 1 := by simp [L2.ixN]; omega
theorem atI_c0 {α : Type} {a : α} {xs : List α} : L2.atI (a :: xs) 0 = some a := by simp [L2.atI, L2.ixN]
theorem atI_nat {α : Type} {xs : List α} {i : Nat} (h : i < xs.length) : L2.atI xs (i : Int) = some xs[i] := by
  unfold L2.atI L2.ixN
  rw [if_pos (by omega), if_pos (by omega)]
  simp [h]
theorem atI_c1 {α : Type} {a b : α} {xs : List α} : L2.atI (a :: b :: xs) 1 = some b := atI_nat (i := 1) (by simp)
theorem atI_c2 {α : Type} {a b c : α} {xs : List α} : L2.atI (a :: b :: c :: xs) 2 = some c := atI_nat (i := 2) (by simp)
theorem atI_c3 {α : Type} {a b c d : α} {xs : List α} : L2.atI (a :: b :: c :: d :: xs) 3 = some d := atI_nat (i := 3) (by simp)
theorem atI_c4 {α : Type} {a b c d e : α} {xs : List α} : L2.atI (a :: b :: c :: d :: e :: xs) 4 = some e := atI_nat (i := 4) (by simp)
theorem atI_c5 {α : Type} {a b c d e f : α} {xs : List α} : L2.atI (a :: b :: c :: d :: e :: f :: xs) 5 = some f := atI_nat (i := 5) (by simp)
theorem atI_c6 {α : Type} {a b c d e f g : α} {xs : List α} : L2.atI (a :: b :: c :: d :: e :: f :: g :: xs) 6 = some g := atI_nat (i := 6) (by simp)
theorem atI_c7 {α : Type} {a b c d e f g h : α} {xs : List α} : L2.atI (a :: b :: c :: d :: e :: f :: g :: h :: xs) 7 = some h := atI_nat (i := 7) (by simp)
theorem pm_eqI {i j : Int} : primSem .eq [.int i, .int j] = some (.sh (.bl (decide (i = j)))) := by
  refine (pm_eq rfl rfl).trans ?_
  rfl
theorem pm_neI {i j : Int} : primSem .ne [.int i, .int j] = some (.sh (.bl (!decide (i = j)))) := by
  refine (pm_ne rfl rfl).trans ?_
  rfl
def txOk (x : List Nat) : Bool := x.all fun c => decide (c < 1114112)
theorem tx_ok {x : List Nat} (h : txOk x = true) : dataOk (.str x) = true := by
  unfold txOk at h
  simp only [dataOk, PV.deep, h, if_true]
  rfl
theorem pm_eqS {x y : List Nat} (h : txOk x = true) (k : txOk y = true) : primSem .eq [.str x, .str y] = some (.sh (.bl (decide (x = y)))) := by
  refine (pm_eq (tx_ok h) (tx_ok k)).trans ?_
  show some (RV.sh (.bl (x == y))) = _
  congr 3
  by_cases e : x = y <;> simp [e]
theorem pm_neS {x y : List Nat} (h : txOk x = true) (k : txOk y = true) : primSem .ne [.str x, .str y] = some (.sh (.bl (!decide (x = y)))) := by
  refine (pm_ne (tx_ok h) (tx_ok k)).trans ?_
  show some (RV.sh (.bl (!(x == y)))) = _
  congr 4
  by_cases e : x = y <;> simp [e]
theorem any_str {x : List Nat} : ∀ {ys : List (List Nat)}, ((ys.map PV.str).any fun y => y.eqv (.str x)) = decide (x ∈ ys)
  | [] => by simp
  | y :: ys => by
    rw [List.map_cons, List.any_cons, any_str]
    show ((y == x) || _) = _
    by_cases e : y = x
    · subst e; simp
    · have : ¬ x = y := fun h => e h.symm
      simp [e, this]
theorem all_flat_str {ys : List (List Nat)} : (ys.map PV.str).all PV.flat = true := by simp [PV.flat]
theorem pm_isinT_s {x : List Nat} {ys : List (List Nat)} : primSem .isin [.str x, .tup (ys.map PV.str)] = some (.sh (.bl (decide (x ∈ ys)))) := by
  rw [← any_str]; exact pm_isinT rfl all_flat_str
theorem pm_notinT_s {x : List Nat} {ys : List (List Nat)} : primSem .notin [.str x, .tup (ys.map PV.str)] = some (.sh (.bl (!decide (x ∈ ys)))) := by
  rw [← any_str]; exact pm_notinT rfl all_flat_str
theorem pm_isinL_s {x : List Nat} {ys : List (List Nat)} : primSem .isin [.str x, .lst (ys.map PV.str)] = some (.sh (.bl (decide (x ∈ ys)))) := by
  rw [← any_str]; exact pm_isinL rfl all_flat_str
theorem pm_notinL_s {x : List Nat} {ys : List (List Nat)} : primSem .notin [.str x, .lst (ys.map PV.str)] = some (.sh (.bl (!decide (x ∈ ys)))) := by
  rw [← any_str]; exact pm_notinL rfl all_flat_str
theorem atI_0 {α : Type} {a : α} {xs : List α} : L2.atI (a :: xs) 0 = some a := by simp [L2.atI, L2.ixN]
theorem atI_n {α : Type} {xs : List α} {i : Int} {k : Nat} (h : i = (k : Int)) (hk : k < xs.length) : L2.atI xs i = xs[k]? := by
  subst h
  unfold L2.atI L2.ixN
  rw [if_pos (by omega), if_pos (by omega)]
  simp
end
end TP

set_option Elab.async false
set_option linter.all false
set_option maxRecDepth 100000
set_option maxHeartbeats 4000000
set_option exponentiation.threshold 20000
/-! Kl3: comprehensions; the laws' draws. -/
namespace TP
open PySem
theorem wipeS_nil {env : List Sl} : wipeS env [] = env := rfl
theorem wipeS_cons {env : List Sl} {v : Nat} {vs : List Nat} : wipeS env (v :: vs) = (wipeS env vs).set v .un := rfl
theorem restS_nil {old env : List Sl} : restS old env [] = env := rfl
theorem restS_cons {old env : List Sl} {v : Nat} {vs : List Nat} : restS old env (v :: vs) = (restS old env vs).set v (old.getD v .un) := rfl
theorem wipeZ_len {env : List Sl} : ∀ {vs : List Nat}, (wipeS env vs).length = env.length
  | [] => rfl
  | v :: vs => by rw [wipeS_cons, List.length_set, wipeZ_len]
theorem restZ_len {old env : List Sl} : ∀ {vs : List Nat}, (restS old env vs).length = env.length
  | [] => rfl
  | v :: vs => by rw [restS_cons, List.length_set, restZ_len]
theorem wipeZ_get {env : List Sl} {i : Nat} : ∀ {vs : List Nat}, (wipeS env vs)[i]? = if i ∈ vs ∧ i < env.length then some .un else env[i]?
  | [] => by simp [wipeS_nil]
  | v :: vs => by
    rw [wipeS_cons, List.getElem?_set, wipeZ_len, wipeZ_get (vs := vs)]
    by_cases h : v = i
    · subst h
      by_cases hl : v < env.length
      · simp [hl]
      · simp [hl]
    · have : ¬ i = v := fun e => h e.symm
      simp [h, this]
theorem restZ_get {old env : List Sl} {i : Nat} : ∀ {vs : List Nat}, (restS old env vs)[i]? = if i ∈ vs ∧ i < env.length then some (old.getD i .un) else env[i]?
  | [] => by simp [restS_nil]
  | v :: vs => by
    rw [restS_cons, List.getElem?_set, restZ_len, restZ_get (vs := vs)]
    by_cases h : v = i
    · subst h
      by_cases hl : v < env.length
      · simp [hl]
      · simp [hl]
    · have : ¬ i = v := fun e => h e.symm
      simp [h, this]
theorem restZ_of {old env : List Sl} {vs : List Nat} (h : wipeS env vs = wipeS old vs) : restS old env vs = old := by
  have hl : env.length = old.length := by rw [← wipeZ_len (env := env) (vs := vs), h, wipeZ_len]
  apply List.ext_getElem?
  intro i
  have hg : (wipeS env vs)[i]? = (wipeS old vs)[i]? := by rw [h]
  rw [wipeZ_get, wipeZ_get] at hg
  rw [restZ_get]
  by_cases c : i ∈ vs ∧ i < env.length
  · rw [if_pos c]
    have : i < old.length := by omega
    simp [List.getD, this]
  · rw [if_neg c] at hg ⊢
    rw [hg, if_neg (by rw [← hl]; exact c)]
def owH : Option Sl → Bool
  | some (.own _) => true
  | some _ => false
  | none => true
theorem owH_val {v : PV} : owH (some (.val v)) = false := rfl
theorem owH_un : owH (some .un) = false := rfl
theorem ownSlots_nil {env : List Sl} : ownSlots env [] = false := rfl
theorem ownSlots_cons {env : List Sl} {v : Nat} {vs : List Nat} : ownSlots env (v :: vs) = (owH env[v]? || ownSlots env vs) := by
  unfold ownSlots
  rw [List.any_cons]
  congr 1
section
variable {cf : CF} {X : PV → SS → Prop}
/-- the tests of a comprehension -/
def CS (cf : CF) (cs : List E) (s : SS) (A B : SS → Prop) (h : Fx (cf, cs, A, B) := ()) : Prop := Wp (evalCs cf cs s) (fun b s1 => if b = true then A s1 else B s1) fun _ _ => False
theorem CS_nil {s : SS} {A B : SS → Prop} : CS cf [] s A B = A s := by
  unfold CS; simp only [evalCs]; rfl
theorem CS_one {c : E} {s : SS} {A B : SS → Prop} : CS cf [c] s A B = wE cf c s (fun r s1 => TS s1 r fun t => BR t (A s1) (B s1)) fun _ _ => False := by
  unfold CS wE
  simp only [evalCs, Wp_bind]
  congr 1
  funext r s1
  unfold TS
  cases testR s1 r with
  | none => rfl
  | some t => cases t <;> rfl
theorem lc_inv {elt : E} {t : T} {cs : List E} {own : List Nat} {Q : RV → SS → Prop} {xs : List PV} {s : SS} (W : List PV → List PV → SS → Prop) (ho : ownSlots s.env own = false) (h0 : W xs [] s)
    (h : ∀ x rest acc s1, W (x :: rest) acc s1 → acc.length < szL ∧ BT t x { s1 with env := wipeS s1.env own } fun s3 => CS cf cs s3 (fun s4 => wE cf elt s4 (fun r s5 => oK (keep s5 r) fun q => W rest (acc ++ [q.1]) q.2) fun _ _ => False) (fun s4 => W rest acc s4))
    (hx : ∀ acc s1, W [] acc s1 → Q (.fr (.lst acc)) { s1 with env := restS s.env s1.env own }) : LC cf elt t cs own Q xs s := by
  refine ⟨ho, ?_⟩
  have key : ∀ (xs acc : List PV) (s1 : SS), W xs acc s1 → Wp (lcLoop own (lcTurn cf elt t cs) xs acc s1) (fun ys s7 => Q (.fr (.lst ys)) { s7 with env := restS s.env s7.env own }) fun _ _ => False := by
    intro xs
    induction xs with
    | nil => intro acc s1 hW; exact hx acc s1 hW
    | cons x xs ih =>
      intro acc s1 hW
      obtain ⟨hl, hh⟩ := h x xs acc s1 hW
      simp only [lcLoop, Wp_bind]
      simp only [lcTurn]
      unfold BT at hh
      cases e1 : bindT t x { s1 with env := wipeS s1.env own } with
      | none => rw [e1] at hh; exact hh
      | some s3 =>
        rw [e1] at hh
        simp only [oK_some, CS] at hh
        simp only [Wp_bind]
        cases e2 : evalCs cf cs s3 with
        | bad => rw [e2] at hh; exact hh
        | exc _ _ => rw [e2] at hh; exact hh
        | ok b s4 =>
          rw [e2] at hh
          cases b with
          | false => exact ih _ _ hh
          | true =>
            simp only [Wp, if_true, wE] at hh ⊢
            cases e3 : evalE cf elt s4 with
            | bad => rw [e3] at hh; exact hh
            | exc _ _ => rw [e3] at hh; exact hh
            | ok r s5 =>
              rw [e3] at hh
              simp only [Wp] at hh
              show Wp (Res.bind _ _) _ _
              cases e4 : keep s5 r with
              | none => rw [e4] at hh; exact hh.elim
              | some q =>
                rw [e4] at hh
                obtain ⟨v, s6⟩ := q
                simp only [oK_some] at hh
                simp only [Res.bind, e4, if_pos hl]
                exact ih _ _ hh
  exact key xs [] s h0
theorem lc_fm {α : Type} {elt : E} {t : T} {cs : List E} {own : List Nat} {Q : RV → SS → Prop} {env : List Sl} {sto : List SO} {xs : List α} {g : α → PV} (p : α → Bool) (f : α → PV) (ho : ownSlots env own = false) (hl : xs.length ≤ szL)
    (h : ∀ x ∈ xs, BT t (g x) ⟨wipeS env own, sto⟩ fun s3 => CS cf cs s3 (fun s4 => p x = true ∧ wE cf elt s4 (fun r s5 => oK (keep s5 r) fun q => q.1 = f x ∧ wipeS q.2.env own = wipeS env own ∧ q.2.sto = sto) fun _ _ => False) (fun s4 => p x = false ∧ wipeS s4.env own = wipeS env own ∧ s4.sto = sto))
    (hq : Q (.fr (.lst ((xs.filter p).map f))) ⟨env, sto⟩) : LC cf elt t cs own Q (xs.map g) ⟨env, sto⟩ := by
  refine lc_inv (fun rest acc s => ∃ done ys, xs = done ++ ys ∧ rest = ys.map g ∧ acc = (done.filter p).map f ∧ wipeS s.env own = wipeS env own ∧ s.sto = sto) ho ⟨[], xs, rfl, rfl, rfl, rfl, rfl⟩ ?_ ?_
  · rintro x rest acc ⟨e1, st1⟩ ⟨done, ys, e, er, rfl, ew, es⟩
    cases ys with
    | nil => cases er
    | cons y ys =>
      cases er
      simp only at ew es
      have hy := h y (by rw [e]; simp)
      have hlen : ((done.filter p).map f).length < szL := by
        have h1 : (done.filter p).length ≤ done.length := List.length_filter_le _ _
        have h2 : xs.length = done.length + (ys.length + 1) := by rw [e]; simp
        rw [List.length_map]
        omega
      refine ⟨hlen, ?_⟩
      simp only
      rw [ew, es]
      unfold BT at hy ⊢
      cases e1 : bindT t (g y) ⟨wipeS env own, sto⟩ with
      | none => rw [e1] at hy; exact hy
      | some s3 =>
        rw [e1] at hy
        simp only [oK_some, CS] at hy ⊢
        cases e2 : evalCs cf cs s3 with
        | bad => rw [e2] at hy; exact hy
        | exc _ _ => rw [e2] at hy; exact hy
        | ok b s4 =>
          rw [e2] at hy
          cases b with
          | false =>
            obtain ⟨hp, w1, w2⟩ := hy
            exact ⟨done ++ [y], ys, by rw [e]; simp, rfl, by simp [hp], w1, w2⟩
          | true =>
            obtain ⟨hp, hy⟩ := hy
            show wE cf elt s4 _ _
            unfold wE at hy ⊢
            cases e3 : evalE cf elt s4 with
            | bad => rw [e3] at hy; exact hy
            | exc _ _ => rw [e3] at hy; exact hy
            | ok r s5 =>
              rw [e3] at hy
              simp only [Wp] at hy ⊢
              cases e4 : keep s5 r with
              | none => rw [e4] at hy; exact hy.elim
              | some q =>
                rw [e4] at hy
                obtain ⟨hq1, w1, w2⟩ := hy
                refine ⟨done ++ [y], ys, by rw [e]; simp, rfl, ?_, w1, w2⟩
                simp [hp, hq1]
  · rintro acc ⟨e1, st1⟩ ⟨done, ys, e, er, rfl, ew, es⟩
    cases ys with
    | cons y ys => cases er
    | nil =>
      rw [List.append_nil] at e
      subst e
      simp only at ew es ⊢
      rw [restZ_of ew, es]
      exact hq
theorem lc_map {α : Type} {elt : E} {t : T} {own : List Nat} {Q : RV → SS → Prop} {env : List Sl} {sto : List SO} {xs : List α} {g : α → PV} (f : α → PV) (ho : ownSlots env own = false) (hl : xs.length ≤ szL)
    (h : ∀ x ∈ xs, BT t (g x) ⟨wipeS env own, sto⟩ fun s4 => wE cf elt s4 (fun r s5 => oK (keep s5 r) fun q => q.1 = f x ∧ wipeS q.2.env own = wipeS env own ∧ q.2.sto = sto) fun _ _ => False)
    (hq : Q (.fr (.lst (xs.map f))) ⟨env, sto⟩) : LC cf elt t [] own Q (xs.map g) ⟨env, sto⟩ := by
  refine lc_fm (fun _ => true) f ho hl (fun x hx => ?_) (by rw [List.filter_eq_self.mpr (fun _ _ => rfl)]; exact hq)
  have hh := h x hx
  unfold BT at hh ⊢
  cases e : bindT t (g x) ⟨wipeS env own, sto⟩ with
  | none => rw [e] at hh; exact hh
  | some s3 =>
    rw [e] at hh
    simp only [oK_some] at hh ⊢
    rw [CS_nil]
    exact ⟨rfl, hh⟩
end
section
variable {cf : CF} {X : PV → SS → Prop}
theorem wipeS_set_in {env : List Sl} {vs : List Nat} {j : Nat} {a : Sl} (h : j ∈ vs) : wipeS (env.set j a) vs = wipeS env vs := by
  apply List.ext_getElem?
  intro i
  rw [wipeZ_get, wipeZ_get, List.length_set, List.getElem?_set]
  by_cases c : i ∈ vs ∧ i < env.length
  · rw [if_pos c, if_pos c]
  · rw [if_neg c, if_neg c]
    by_cases e : j = i
    · subst e
      have : ¬ j < env.length := fun z => c ⟨h, z⟩
      rw [if_pos rfl, if_neg this, List.getElem?_eq_none (by omega)]
    · rw [if_neg e]
theorem wipeS_idem {env : List Sl} {vs : List Nat} : wipeS (wipeS env vs) vs = wipeS env vs := by
  apply List.ext_getElem?
  intro i
  rw [wipeZ_get, wipeZ_get, wipeZ_len]
  by_cases c : i ∈ vs ∧ i < env.length
  · rw [if_pos c, if_pos c]
  · rw [if_neg c, if_neg c]
/-- the second walk takes all that it meets -/
theorem lc_copy {j : Nat} {vs : List Nat} (hj : j ∈ vs) : ∀ (ys acc : List PV) (s : SS), j < s.env.length → acc.length + ys.length ≤ szL → ∃ s', lcLoop [j] (lcTurn cf (.var j) (.nm j) []) ys acc s = .ok (acc ++ ys) s' ∧ wipeS s'.env vs = wipeS s.env vs ∧ s'.sto = s.sto ∧ s'.env.length = s.env.length
  | [], acc, s, _, _ => ⟨s, by simp [lcLoop], rfl, rfl, rfl⟩
  | y :: ys, acc, s, h, hl => by
    simp only [List.length_cons] at hl
    have h1 : lcTurn cf (.var j) (.nm j) [] y { s with env := wipeS s.env [j] } = .ok (some y) { s with env := (wipeS s.env [j]).set j (.val y) } := by
      unfold lcTurn
      have hlt : j < (wipeS s.env [j]).length := by rw [wipeZ_len]; exact h
      simp only [bindT, if_pos hlt, evalCs, evalE, Res.bind, List.getElem?_set_self hlt, keep, if_true]
    obtain ⟨s', e1, e2, e3, e4⟩ := lc_copy hj ys (acc ++ [y]) { s with env := (wipeS s.env [j]).set j (.val y) } (by simp [wipeZ_len]; exact h) (by simp; omega)
    refine ⟨s', ?_, ?_, e3, by rw [e4]; simp [wipeZ_len]⟩
    · simp only [lcLoop, h1, Res.bind]
      rw [if_pos (by omega), e1, List.append_assoc]
      rfl
    · rw [e2]
      show wipeS ((wipeS s.env [j]).set j (.val y)) vs = _
      rw [wipeS_set_in hj, wipeS_cons, wipeS_nil, wipeS_set_in hj]
theorem lc2_copy {α : Type} {t : T} {it1 : I} {own : List Nat} {j : Nat} {Q : RV → SS → Prop} {env : List Sl} {sto : List SO} {xs : List α} {g : α → PV} (f : α → List PV) (ho : ownSlots env own = false) (hj : j ∈ own ∧ j < env.length) (hl : (xs.map f).flatten.length ≤ szL)
    (h : ∀ x ∈ xs, BT t (g x) ⟨wipeS env own, sto⟩ fun s3 => wI cf it1 s3 (fun ys s5 => ys = f x ∧ wipeS s5.env own = wipeS env own ∧ s5.sto = sto) fun _ _ => False)
    (hq : Q (.fr (.lst (xs.map f).flatten)) ⟨env, sto⟩) : LC2 cf (.var j) t [] (.nm j) it1 [] own [j] Q (xs.map g) ⟨env, sto⟩ := by
  refine ⟨ho, ?_⟩
  have key : ∀ (ys : List α) (done : List α) (s : SS), xs = done ++ ys → wipeS s.env own = wipeS env own → s.sto = sto → Wp (lc2Loop own (lcTurn2 cf (.var j) t [] (.nm j) it1 [] [j]) (ys.map g) (done.map f).flatten s) (fun zs s7 => Q (.fr (.lst zs)) { s7 with env := restS env s7.env own }) fun _ _ => False := by
    intro ys
    induction ys with
    | nil =>
      intro done s e ew es
      rw [List.append_nil] at e
      subst e
      show Q (.fr (.lst _)) _
      rw [restZ_of ew, es]
      exact hq
    | cons y ys ih =>
      intro done s e ew es
      have hy := h y (by rw [e]; simp)
      rw [List.map_cons]
      have tu : ∃ s', lcTurn2 cf (.var j) t [] (.nm j) it1 [] [j] (g y) (done.map f).flatten ⟨wipeS env own, sto⟩ = .ok ((done.map f).flatten ++ f y) s' ∧ wipeS s'.env own = wipeS env own ∧ s'.sto = sto := by
        unfold lcTurn2
        unfold BT at hy
        cases e1 : bindT t (g y) ⟨wipeS env own, sto⟩ with
        | none => rw [e1] at hy; exact hy.elim
        | some s3 =>
          rw [e1] at hy
          simp only [oK_some] at hy
          simp only [evalCs, Res.bind, if_true]
          unfold wI at hy
          cases e2 : evalI cf it1 s3 with
          | bad => rw [e2] at hy; exact hy.elim
          | exc _ _ => rw [e2] at hy; exact hy.elim
          | ok zs s5 =>
            rw [e2] at hy
            obtain ⟨rfl, w1, w2⟩ := hy
            have hlen : s5.env.length = env.length := by rw [← wipeZ_len (vs := own), w1, wipeZ_len]
            have hsum : (done.map f).flatten.length + (f y).length ≤ szL := by
              have : (xs.map f).flatten.length = (done.map f).flatten.length + ((f y).length + (ys.map f).flatten.length) := by
                rw [e]; simp
              omega
            obtain ⟨s', q1, q2, q3, q4⟩ := lc_copy (cf := cf) hj.1 (f y) (done.map f).flatten s5 (by rw [hlen]; exact hj.2) hsum
            exact ⟨s', q1, by rw [q2, w1], by rw [q3, w2]⟩
      obtain ⟨s', q1, q2, q3⟩ := tu
      simp only [lc2Loop, Wp_bind]
      rw [ew, es, q1]
      have := ih (done ++ [y]) s' (by rw [e]; simp) q2 q3
      rw [List.map_append, List.flatten_append, List.map_cons, List.map_nil, List.flatten_cons, List.flatten_nil, List.append_nil] at this
      exact this
  exact key xs [] ⟨env, sto⟩ rfl rfl rfl
end
theorem wc_ex {c : CR} {x : RV} (h : WC c (fun r _ _ => r = x) fun _ _ _ => False) : ∃ fin sto, c = .ok x fin sto := by
  cases c with
  | ok a f s => cases h; exact ⟨f, s, rfl⟩
  | exc _ _ _ => exact h.elim
  | bad => exact h.elim
/-- a meeting place behind a statement -/
theorem wS_split {cf : CF} {np : Nat} {st : S} {rest : List S} {s : SS} {Qf : Fl → SS → Prop} {X : PV → SS → Prop} (R : SS → Prop) (h1 : wS cf np [st] s (nxt R Qf) X) (h2 : ∀ s, R s → wS cf np rest s Qf X) : wS cf np (st :: rest) s Qf X := by
  have e : wS cf np (st :: rest) s Qf X = wS cf np [st] s (nxt (fun s1 => wS cf np rest s1 Qf X) Qf) X := wS_app (a := [st])
  rw [e]
  unfold wS at h1 ⊢
  cases z : execSs cf np [st] s with
  | bad => rw [z] at h1; exact h1
  | exc x s1 => rw [z] at h1; exact h1
  | ok f s1 =>
    rw [z] at h1
    cases f with
    | nx => exact h2 _ h1
    | br => exact h1
    | ct => exact h1
    | rt r => exact h1
mutual
theorem eqv_rf : ∀ {v : PV}, v.deep.isSome = true → v.eqv v = true
  | .non, _ => rfl
  | .bl b, _ => by simp [PV.eqv]
  | .int i, _ => by simp [PV.eqv]
  | .str x, _ => by simp [PV.eqv]
  | .tup xs, h => by
    rw [PV.eqv]
    exact eqvs_rf (by simpa [PV.deep] using h)
  | .lst xs, h => by
    rw [PV.eqv]
    exact eqvs_rf (by simpa [PV.deep] using h)
  | .rol xs, h => by simp [PV.deep] at h
  | .dct ks vs, h => by simp [PV.deep] at h
  | .ref l, h => by simp [PV.deep] at h
  | .glo x, h => by simp [PV.deep] at h
  | .ty x, h => by simp [PV.deep] at h
theorem eqvs_rf : ∀ {vs : List PV}, (deeps vs).isSome = true → eqvs vs vs = true
  | [], _ => rfl
  | x :: xs, h => by
    rw [eqvs, Bool.and_eq_true]
    simp only [deeps] at h
    cases h1 : x.deep with
    | none => rw [h1] at h; cases h
    | some a =>
      cases h2 : deeps xs with
      | none => rw [h1, h2] at h; cases h
      | some b => exact ⟨eqv_rf (by rw [h1]; rfl), eqvs_rf (by rw [h2]; rfl)⟩
end
theorem eqv_refl {v : PV} (h : dataOk v = true) : v.eqv v = true := by
  refine eqv_rf ?_
  unfold dataOk at h
  cases e : v.deep with
  | none => rw [e] at h; cases h
  | some n => rfl
theorem wS_join {cf : CF} {np : Nat} {a b : List S} {s : SS} {Qf : Fl → SS → Prop} {X : PV → SS → Prop} (R : SS → Prop) (h1 : wS cf np a s (nxt R Qf) X) (h2 : ∀ s, R s → wS cf np b s Qf X) : wS cf np (a ++ b) s Qf X := by
  rw [wS_app]
  unfold wS at h1 ⊢
  cases z : execSs cf np a s with
  | bad => rw [z] at h1; exact h1
  | exc x s1 => rw [z] at h1; exact h1
  | ok f s1 =>
    rw [z] at h1
    cases f with
    | nx => exact h2 _ h1
    | br => exact h1
    | ct => exact h1
    | rt r => exact h1
theorem turns_lt {n : Nat} (h : n ≤ 1000000) : n < turns := Nat.lt_of_le_of_lt h (by decide)
/-! the draws -/
theorem big_of {i : Int} (h : i.natAbs < 2 ^ 8000) : intBig i = true := decide_eq_true h
/-- the widths -/
def wd : Nat → Nat
  | 0 => 1
  | n + 1 => wd n * 268435456
theorem wd_pow : ∀ n : Nat, wd n = 2 ^ (28 * n)
  | 0 => rfl
  | n + 1 => by
    have e : 28 * (n + 1) = 28 * n + 28 := by omega
    rw [wd, wd_pow n, e, Nat.pow_add]
theorem wd_mono {i j : Nat} (h : i ≤ j) : wd i ≤ wd j := by
  rw [wd_pow, wd_pow]
  exact Nat.pow_le_pow_right (by omega) (by omega)
theorem wd_pos (i : Nat) : 1 ≤ wd i := wd_mono (i := 0) (Nat.zero_le i)
theorem wd_big {j : Nat} (h : j ≤ 280) : wd j < 2 ^ 8000 := by
  rw [wd_pow]
  exact Nat.pow_lt_pow_right (by omega) (by omega)
theorem big_wd {i : Int} {j : Nat} (h : j ≤ 280) (h0 : 0 ≤ i) (hi : i ≤ (wd j : Int)) : intBig i = true := big_of (by
  have := wd_big h
  omega)
/-- for sizes that are seen -/
theorem big_lit {i : Int} (h : -100000000000000000000000000000000000000000000000000000000000000000000000000000000000000000000000000 ≤ i ∧ i ≤ 100000000000000000000000000000000000000000000000000000000000000000000000000000000000000000000000000) : intBig i = true := big_of (by
  have h1 : (100000000000000000000000000000000000000000000000000000000000000000000000000000000000000000000000000 : Nat) < 2 ^ 8000 := by decide +kernel
  omega)
theorem wd_lit {m : Int} (h : m ≤ 1000000000000000000000000000000000000000000000000000000000000) : m ≤ (wd 71 : Int) := by
  have : wd 8 ≤ wd 71 := wd_mono (by omega)
  have e : (1000000000000000000000000000000000000000000000000000000000000 : Nat) ≤ wd 8 := by decide +kernel
  omega
local macro_rules
  | `(tactic| push_cast [$xs,*]) => `(tactic| simp (maxSteps := 2000000) -implicitDefEqProofs -dsimp (disch := first | assumption | (with_reducible refine TP.big_lit ?_; omega) | decide | omega | (simp only [List.length_cons, List.length_nil, List.length_map, List.length_append, TP.szL]; omega)) only [TP.oK_some, TP.varK_val, TP.varK_own, TP.BR_t, TP.BR_f, TP.BR_d, ↓TP.wE_con, ↓TP.wE_dead, ↓TP.wEs_nil, ↓TP.wEs_cons, ↓TP.wE_prim1, ↓TP.wE_prim2, TP.strK_s, ↓TP.wE_sm, TP.dixK_s, ↓TP.wE_didx, ↓TP.wE_dnew, TP.dctK_d, TP.DG_s, ↓TP.wE_dget, TP.TS_bl, ↓TP.wE_not, ↓TP.wE_and1, ↓TP.wE_and, ↓TP.wE_or1, ↓TP.wE_or, ↓TP.wE_ite, ↓TP.wE_chain, ↓TP.KPs_nil, ↓TP.wE_disp, TP.keep_sh, TP.keep_fr, TP.keep_hd, TP.keepH_val, TP.keepH_own, ↓TP.wE_tup, ↓TP.wE_list, ↓TP.wE_call, ↓TP.wE_callK, TP.gloK_v, ↓TP.wE_callL, ↓TP.wE_mut, ↓TP.wE_slice, ↓TP.wE_lc, ↓TP.wE_lc2, TP.itK_s, ↓TP.wI_of, TP.rgK_i, ↓TP.wI_range1, TP.rg2K_i, ↓TP.wI_range2, ↓TP.wI_enum, ↓TP.wI_rev, ↓TP.wI_zip, ↓TP.nxt_nx, ↓TP.nxt_br, ↓TP.nxt_ct, ↓TP.nxt_rt, ↓TP.lpQ_nx, ↓TP.lpQ_ct, ↓TP.lpQ_br, ↓TP.lpQ_rt, TP.BT_nm, TP.BT_tup, TP.BT_lst, TP.BTs_nil, TP.BTs_cons, TP.AG_sh, TP.AG_fr, TP.AG_frT, TP.AG_hd, TP.RT_sh, TP.RT_fr, TP.RT_hd, TP.rtH_val, TP.rtH_own, TP.rtH_par, ↓TP.wS_nil, ↓TP.wS_asg, ↓TP.wS_ret, ↓TP.wS_retN, ↓TP.wS_pass, ↓TP.wS_brk, ↓TP.wS_cont, ↓TP.wS_dead, ↓TP.wS_expr, ↓TP.wS_apc, ↓TP.wS_apn, ↓TP.wS_ite, ↓TP.wS_setix, ↓TP.wS_augU, TP.AU_v, ↓TP.wS_par, ↓TP.wS_asgR, ↓TP.wS_for, ↓TP.wS_while, ↓TP.dfQ_nx, ↓TP.dfQ_rt, ↓TP.wE_var', TP.cont_sh, TP.cont_fr, TP.cont_hd, TP.contH_val, TP.contH_own, TP.boxC_nl, TP.boxC_non, TP.boxC_bl, TP.boxC_int, TP.boxC_str, TP.boxC_tup, TP.boxC_lst, TP.boxC_rol, TP.boxC_dct, TP.boxC_ty, TP.boxC_glo, TP.putBack_hd, TP.pbH_own, TP.argsOf_nil, TP.argsOf_sh, TP.argsOf_fr, TP.argsOf_hd, TP.argH_val, TP.argH_own, TP.backE_nil, TP.backE_sh, TP.backE_fr, TP.backE_own, TP.backE_val, TP.permR_nil, TP.permR_inl, TP.permR_inr, TP.finA_nil, TP.finA_cons, TP.frzA_nil, TP.frzA_cons, TP.frz1_eq, TP.frH_own, TP.frH_val, TP.itemsOf_lst, TP.itemsOf_tup, TP.itemsOf_rol, TP.itemsOf_str, TP.itemsOf_dct, TP.enumOf_lst, TP.revOf_lst, TP.revOf_tup, TP.zipOf_lst, TP.zipOf_tup, TP.P1_s, TP.P2_s, TP.SM_s, TP.MU_s, TP.SX_s, TP.C2_s, TP.C2k_t, TP.C2k_f, TP.C2k_d, TP.BR_nd, TP.pm_add, TP.pm_sub, TP.pm_neg, TP.pm_addS, TP.pm_addT, TP.pm_addL, TP.pm_mul, TP.pm_fdiv, TP.pm_mod, TP.pm_pow, TP.pm_lt, TP.pm_le, TP.pm_gt, TP.pm_ge, TP.pm_isN, TP.pm_notN, TP.pm_isB, TP.pm_notB, TP.pm_idx_lst, TP.pm_len_lst, TP.pm_idx_tup, TP.pm_len_tup, TP.pm_idx_rol, TP.pm_len_rol, TP.pm_idx_str, TP.pm_len_str, TP.pm_abs, TP.pm_min2, TP.pm_max2, TP.pm_toIntI, TP.pm_toIntB, TP.pm_toTupL, TP.pm_toTupT, TP.pm_toList_lst, TP.pm_toList_tup, TP.pm_toList_rol, TP.pm_all, TP.pm_maxD, TP.pm_zipL, TP.pm_any, TP.pm_sum, TP.pm_revs, TP.pm_toStrI, TP.pm_joinL, TP.jnK_s, TP.pm_split, TP.pm_mulS, TP.pm_mulL, TP.pm_mulT, TP.pm_isinT, TP.pm_isinL, TP.pm_notinT, TP.pm_notinL, TP.pm_isinS, TP.pm_notinS, TP.pm_isi_non_int, TP.pm_isi_non_bool, TP.pm_isi_non_str, TP.pm_isi_non_tuple, TP.pm_isi_non_list, TP.pm_isi_bl_int, TP.pm_isi_bl_bool, TP.pm_isi_bl_str, TP.pm_isi_bl_tuple, TP.pm_isi_bl_list, TP.pm_isi_int_int, TP.pm_isi_int_bool, TP.pm_isi_int_str, TP.pm_isi_int_tuple, TP.pm_isi_int_list, TP.pm_isi_str_int, TP.pm_isi_str_bool, TP.pm_isi_str_str, TP.pm_isi_str_tuple, TP.pm_isi_str_list, TP.pm_isi_tup_int, TP.pm_isi_tup_bool, TP.pm_isi_tup_str, TP.pm_isi_tup_tuple, TP.pm_isi_tup_list, TP.pm_isi_lst_int, TP.pm_isi_lst_bool, TP.pm_isi_lst_str, TP.pm_isi_lst_tuple, TP.pm_isi_lst_list, TP.mu_app, TP.mu_clear, TP.mu_reverse, TP.mutTy_s, TP.set_lst, TP.key_int, TP.key_str, TP.pm_idx_dct, TP.pm_isin_dct, TP.pm_notin_dct, TP.pm_len_dct, TP.set_dct, TP.PD_s, TP.pairs_nil, TP.pairs_str, TP.pairs_int, TP.aug_add, TP.aug_sub, TP.sl_lst, TP.sl_tup, TP.sl_str, TP.bnd_abs, TP.bnd_int, TP.isAbs_non, TP.isAbs_int, TP.isAbs_var, TP.isAbs_prim, TP.isAbs_call, TP.bools_map, TP.ints_map, TP.strs_map, TP.ixN_0, TP.ixN_1, TP.atI_c0, TP.atI_nat, TP.atI_c1, TP.atI_c2, TP.atI_c3, TP.atI_c4, TP.atI_c5, TP.atI_c6, TP.atI_c7, TP.pm_eqI, TP.pm_neI, TP.tx_ok, TP.pm_eqS, TP.pm_neS, TP.any_str, TP.all_flat_str, TP.pm_isinT_s, TP.pm_notinT_s, TP.pm_isinL_s, TP.pm_notinL_s, TP.WC_ok, ↓TP.KPs_cons, List.getElem?_cons_succ, List.getElem?_cons_zero, List.set_cons_succ, List.set_cons_zero, List.cons_append, List.nil_append, List.length_cons, List.length_nil, Option.map_some, Option.bind_some, List.append_nil, List.getD_cons_zero, List.getD_cons_succ, List.replicate_succ, List.replicate_zero, TP.wipeS_nil, TP.wipeS_cons, TP.restS_nil, TP.restS_cons, TP.ownSlots_nil, TP.ownSlots_cons, TP.owH_val, TP.owH_un, Bool.or_false, Bool.false_or, Bool.or_true, Bool.true_or, Bool.and_true, Bool.true_and, Bool.and_false, Bool.false_and, Bool.not_true, Bool.not_false, List.not_mem_nil, if_true, if_false, ite_true, ite_false, and_true, true_and, forall_const, true_implies, false_implies, not_true, not_false, decide_true, decide_false, decide_eq_true_eq, Bool.false_eq_true, Bool.true_eq_false, and_self, not_true_eq_false, not_false_eq_true, ↓TP.CS_nil, ↓TP.CS_one, Int.reduceAdd, Int.reduceSub, Int.reduceMul, Int.reduceNeg, Int.reduceLT, Int.reduceLE, Int.reduceToNat, Int.reducePow, Nat.reduceAdd, Nat.reduceSub, Nat.reduceEqDiff, Int.reduceEq, Int.reduceFDiv, Int.reduceFMod, List.cons.injEq, reduceCtorEq, List.mem_cons, or_false, or_true, false_or, true_or, false_and, and_false, ne_eq, $xs,*])

/-- a state of the draws -/
structure Dr where
  a : Int
  b : Int
  ha : 0 ≤ a
  hb : 0 ≤ b
  hc : b < 2147483648
def Dr.pv (d : Dr) : PV := .lst [.int d.a, .int d.b]
def dDraw : Fd := ⟨2, 4, [], [.ite (.prim .gt [(.prim .idx [(.var 0), (.con (.int (0)))]), (.con (.int (0)))]) [.asg (.nm 2) (.prim .mod [(.prim .idx [(.var 0), (.con (.int (0)))]), (.var 1)]), .setix (.var 0) (.con (.int (0))) (.prim .fdiv [(.prim .idx [(.var 0), (.con (.int (0)))]), (.var 1)]), .ret (.var 2)] [], .asg (.nm 2) (.con (.int (0))), .asg (.nm 3) (.con (.int (1))), .while (.prim .lt [(.var 3), (.var 1)]) [.setix (.var 0) (.con (.int (1))) (.prim .mod [(.prim .mul [(.prim .idx [(.var 0), (.con (.int (1)))]), (.con (.int (69621)))]), (.con (.int (2147483647)))]), .asg (.nm 2) (.prim .add [(.prim .mul [(.var 2), (.con (.int (268435456)))]), (.prim .fdiv [(.prim .mod [(.prim .mul [(.prim .idx [(.var 0), (.con (.int (1)))]), (.prim .add [(.prim .fdiv [(.prim .idx [(.var 0), (.con (.int (1)))]), (.con (.int (128)))]), (.con (.int (3)))])]), (.con (.int (2147483629)))]), (.con (.int (8)))])]), .asg (.nm 3) (.prim .mul [(.var 3), (.con (.int (268435456)))])], .ret (.prim .mod [(.var 2), (.var 1)])]⟩
theorem wc_draw {tab : Tab} {n : Nat} {d : Dr} {many : Int} {sto : List SO} {Q : RV → List Sl → List SO → Prop} {X : PV → List Sl → List SO → Prop} (hl : tab.lookup ("_law_draw" : Str) = some dDraw) (hm : 1 ≤ many) (hb : many ≤ (wd 71 : Int))
    (q : ∀ (r : Int) (d' : Dr), 0 ≤ r → r < many → Q (.sh (.int r)) [.own d'.pv, .val (.int many)] sto) :
    WC (callF tab (n + 1) "_law_draw" [.own d.pv, .val (.int many)] sto) Q X := by
  obtain ⟨d0, d1, h0, h1, h2⟩ := d
  have hn : many ≠ 0 := by omega
  have hbig : intBig many = true := big_wd (by omega) (by omega) hb
  refine wc_def hl ⟨rfl, by decide⟩ ?_
  simp only [dDraw, Dr.pv]
  push_cast []
  constructor
  · intro ht
    have f1 := Int.fmod_eq_emod_of_nonneg d0 (b := many) (by omega)
    have f2 := Int.fdiv_eq_ediv_of_nonneg d0 (b := many) (by omega)
    refine q _ ⟨d0.fdiv many, d1, ?_, h1, h2⟩ ?_ ?_
    · rw [f2]; exact Int.ediv_nonneg h0 (by omega)
    · rw [f1]; exact Int.emod_nonneg _ hn
    · rw [f1]; exact Int.emod_lt_of_pos _ (by omega)
  · intro ht
    refine wh_rule (fun m s => ∃ (e1 fo : Int) (j : Nat), m = 80 - j ∧ j ≤ 79 ∧ s = ⟨[.own (.lst [.int d0, .int e1]), .val (.int many), .val (.int fo), .val (.int (wd j : Int))], sto⟩ ∧ 0 ≤ e1 ∧ e1 < 2147483648 ∧ 0 ≤ fo ∧ fo < (wd j : Int)) 80 (by decide) ⟨d1, 0, 0, rfl, by omega, rfl, h1, h2, by omega, by decide⟩ ?_
    rintro m s ⟨e1, fo, j, rfl, hj, rfl, i1, i2, i3, i4⟩
    push_cast []
    constructor
    · intro ht
      have hj2 : j ≤ 71 := by
        apply Classical.byContradiction
        intro hc
        have a1 : wd 71 ≤ wd j := wd_mono (by omega)
        omega
      have b1 : intBig e1 = true := big_lit (by omega)
      have b2 : intBig 69621 = true := big_lit (by omega)
      have b3 : intBig 128 = true := big_lit (by omega)
      have b4 : intBig 8 = true := big_lit (by omega)
      have b5 : intBig 268435456 = true := big_lit (by omega)
      have bf : intBig fo = true := big_wd (j := j) (by omega) i3 (by omega)
      have bj : intBig (wd j : Int) = true := big_wd (j := j) (by omega) (by omega) (by omega)
      push_cast []
      generalize hE : (e1 * 69621).fmod 2147483647 = E1
      have k1 : 0 ≤ E1 ∧ E1 < 2147483647 := by
        rw [← hE, Int.fmod_eq_emod_of_nonneg _ (by omega)]
        exact ⟨Int.emod_nonneg _ (by omega), Int.emod_lt_of_pos _ (by omega)⟩
      have c1 : intBig E1 = true := big_lit (by omega)
      have k2 : 0 ≤ E1.fdiv 128 ∧ E1.fdiv 128 ≤ 2147483647 := by
        rw [Int.fdiv_eq_ediv_of_nonneg _ (by omega)]
        omega
      have c2 : intBig (E1.fdiv 128 + 3) = true := big_lit (by omega)
      push_cast []
      generalize E1.fdiv 128 = E2 at *
      have k3 : 0 ≤ ((E1 * (E2 + 3)).fmod 2147483629).fdiv 8 ∧ ((E1 * (E2 + 3)).fmod 2147483629).fdiv 8 < 268435456 := by
        have a1 := Int.emod_nonneg (E1 * (E2 + 3)) (b := 2147483629) (by omega)
        have a2 := Int.emod_lt_of_pos (E1 * (E2 + 3)) (b := 2147483629) (by omega)
        rw [Int.fdiv_eq_ediv_of_nonneg _ (by omega), Int.fmod_eq_emod_of_nonneg _ (by omega)]
        omega
      generalize ((E1 * (E2 + 3)).fmod 2147483629).fdiv 8 = x at *
      refine ⟨80 - (j + 1), by omega, E1, fo * 268435456 + x, j + 1, rfl, by omega, ?_, k1.1, by omega, by omega, ?_⟩
      · have : ((wd (j + 1) : Nat) : Int) = (wd j : Int) * 268435456 := by simp [wd]
        rw [this]
      · have : ((wd (j + 1) : Nat) : Int) = (wd j : Int) * 268435456 := by simp [wd]
        rw [this]
        omega
    · intro ht
      push_cast []
      have f1 := Int.fmod_eq_emod_of_nonneg fo (b := many) (by omega)
      refine q _ ⟨d0, e1, h0, i1, i2⟩ ?_ ?_
      · rw [f1]; exact Int.emod_nonneg _ hn
      · rw [f1]; exact Int.emod_lt_of_pos _ (by omega)
end TP

set_option Elab.async false
set_option linter.all false
set_option maxRecDepth 100000
set_option maxHeartbeats 4000000
set_option exponentiation.threshold 20000
/-! Kl4: draws; worths. -/
namespace TP
open PySem
local macro_rules
  | `(tactic| push_cast [$xs,*]) => `(tactic| simp (maxSteps := 2000000) -implicitDefEqProofs -dsimp (disch := first | assumption | (with_reducible refine TP.big_lit ?_; omega) | decide | omega | (simp only [List.length_cons, List.length_nil, List.length_map, List.length_append, TP.szL]; omega)) only [TP.oK_some, TP.varK_val, TP.varK_own, TP.BR_t, TP.BR_f, TP.BR_d, ↓TP.wE_con, ↓TP.wE_dead, ↓TP.wEs_nil, ↓TP.wEs_cons, ↓TP.wE_prim1, ↓TP.wE_prim2, TP.strK_s, ↓TP.wE_sm, TP.dixK_s, ↓TP.wE_didx, ↓TP.wE_dnew, TP.dctK_d, TP.DG_s, ↓TP.wE_dget, TP.TS_bl, ↓TP.wE_not, ↓TP.wE_and1, ↓TP.wE_and, ↓TP.wE_or1, ↓TP.wE_or, ↓TP.wE_ite, ↓TP.wE_chain, ↓TP.KPs_nil, ↓TP.wE_disp, TP.keep_sh, TP.keep_fr, TP.keep_hd, TP.keepH_val, TP.keepH_own, ↓TP.wE_tup, ↓TP.wE_list, ↓TP.wE_call, ↓TP.wE_callK, TP.gloK_v, ↓TP.wE_callL, ↓TP.wE_mut, ↓TP.wE_slice, ↓TP.wE_lc, ↓TP.wE_lc2, TP.itK_s, ↓TP.wI_of, TP.rgK_i, ↓TP.wI_range1, TP.rg2K_i, ↓TP.wI_range2, ↓TP.wI_enum, ↓TP.wI_rev, ↓TP.wI_zip, ↓TP.nxt_nx, ↓TP.nxt_br, ↓TP.nxt_ct, ↓TP.nxt_rt, ↓TP.lpQ_nx, ↓TP.lpQ_ct, ↓TP.lpQ_br, ↓TP.lpQ_rt, TP.BT_nm, TP.BT_tup, TP.BT_lst, TP.BTs_nil, TP.BTs_cons, TP.AG_sh, TP.AG_fr, TP.AG_frT, TP.AG_hd, TP.RT_sh, TP.RT_fr, TP.RT_hd, TP.rtH_val, TP.rtH_own, TP.rtH_par, ↓TP.wS_nil, ↓TP.wS_asg, ↓TP.wS_ret, ↓TP.wS_retN, ↓TP.wS_pass, ↓TP.wS_brk, ↓TP.wS_cont, ↓TP.wS_dead, ↓TP.wS_expr, ↓TP.wS_apc, ↓TP.wS_apn, ↓TP.wS_ite, ↓TP.wS_setix, ↓TP.wS_augU, TP.AU_v, ↓TP.wS_par, ↓TP.wS_asgR, ↓TP.wS_for, ↓TP.wS_while, ↓TP.dfQ_nx, ↓TP.dfQ_rt, ↓TP.wE_var', TP.cont_sh, TP.cont_fr, TP.cont_hd, TP.contH_val, TP.contH_own, TP.boxC_nl, TP.boxC_non, TP.boxC_bl, TP.boxC_int, TP.boxC_str, TP.boxC_tup, TP.boxC_lst, TP.boxC_rol, TP.boxC_dct, TP.boxC_ty, TP.boxC_glo, TP.putBack_hd, TP.pbH_own, TP.argsOf_nil, TP.argsOf_sh, TP.argsOf_fr, TP.argsOf_hd, TP.argH_val, TP.argH_own, TP.backE_nil, TP.backE_sh, TP.backE_fr, TP.backE_own, TP.backE_val, TP.permR_nil, TP.permR_inl, TP.permR_inr, TP.finA_nil, TP.finA_cons, TP.frzA_nil, TP.frzA_cons, TP.frz1_eq, TP.frH_own, TP.frH_val, TP.itemsOf_lst, TP.itemsOf_tup, TP.itemsOf_rol, TP.itemsOf_str, TP.itemsOf_dct, TP.enumOf_lst, TP.revOf_lst, TP.revOf_tup, TP.zipOf_lst, TP.zipOf_tup, TP.P1_s, TP.P2_s, TP.SM_s, TP.MU_s, TP.SX_s, TP.C2_s, TP.C2k_t, TP.C2k_f, TP.C2k_d, TP.BR_nd, TP.pm_add, TP.pm_sub, TP.pm_neg, TP.pm_addS, TP.pm_addT, TP.pm_addL, TP.pm_mul, TP.pm_fdiv, TP.pm_mod, TP.pm_pow, TP.pm_lt, TP.pm_le, TP.pm_gt, TP.pm_ge, TP.pm_isN, TP.pm_notN, TP.pm_isB, TP.pm_notB, TP.pm_idx_lst, TP.pm_len_lst, TP.pm_idx_tup, TP.pm_len_tup, TP.pm_idx_rol, TP.pm_len_rol, TP.pm_idx_str, TP.pm_len_str, TP.pm_abs, TP.pm_min2, TP.pm_max2, TP.pm_toIntI, TP.pm_toIntB, TP.pm_toTupL, TP.pm_toTupT, TP.pm_toList_lst, TP.pm_toList_tup, TP.pm_toList_rol, TP.pm_all, TP.pm_maxD, TP.pm_zipL, TP.pm_any, TP.pm_sum, TP.pm_revs, TP.pm_toStrI, TP.pm_joinL, TP.jnK_s, TP.pm_split, TP.pm_mulS, TP.pm_mulL, TP.pm_mulT, TP.pm_isinT, TP.pm_isinL, TP.pm_notinT, TP.pm_notinL, TP.pm_isinS, TP.pm_notinS, TP.pm_isi_non_int, TP.pm_isi_non_bool, TP.pm_isi_non_str, TP.pm_isi_non_tuple, TP.pm_isi_non_list, TP.pm_isi_bl_int, TP.pm_isi_bl_bool, TP.pm_isi_bl_str, TP.pm_isi_bl_tuple, TP.pm_isi_bl_list, TP.pm_isi_int_int, TP.pm_isi_int_bool, TP.pm_isi_int_str, TP.pm_isi_int_tuple, TP.pm_isi_int_list, TP.pm_isi_str_int, TP.pm_isi_str_bool, TP.pm_isi_str_str, TP.pm_isi_str_tuple, TP.pm_isi_str_list, TP.pm_isi_tup_int, TP.pm_isi_tup_bool, TP.pm_isi_tup_str, TP.pm_isi_tup_tuple, TP.pm_isi_tup_list, TP.pm_isi_lst_int, TP.pm_isi_lst_bool, TP.pm_isi_lst_str, TP.pm_isi_lst_tuple, TP.pm_isi_lst_list, TP.mu_app, TP.mu_clear, TP.mu_reverse, TP.mutTy_s, TP.set_lst, TP.key_int, TP.key_str, TP.pm_idx_dct, TP.pm_isin_dct, TP.pm_notin_dct, TP.pm_len_dct, TP.set_dct, TP.PD_s, TP.pairs_nil, TP.pairs_str, TP.pairs_int, TP.aug_add, TP.aug_sub, TP.sl_lst, TP.sl_tup, TP.sl_str, TP.bnd_abs, TP.bnd_int, TP.isAbs_non, TP.isAbs_int, TP.isAbs_var, TP.isAbs_prim, TP.isAbs_call, TP.bools_map, TP.ints_map, TP.strs_map, TP.ixN_0, TP.ixN_1, TP.atI_c0, TP.atI_nat, TP.atI_c1, TP.atI_c2, TP.atI_c3, TP.atI_c4, TP.atI_c5, TP.atI_c6, TP.atI_c7, TP.pm_eqI, TP.pm_neI, TP.tx_ok, TP.pm_eqS, TP.pm_neS, TP.any_str, TP.all_flat_str, TP.pm_isinT_s, TP.pm_notinT_s, TP.pm_isinL_s, TP.pm_notinL_s, TP.WC_ok, ↓TP.KPs_cons, List.getElem?_cons_succ, List.getElem?_cons_zero, List.set_cons_succ, List.set_cons_zero, List.cons_append, List.nil_append, List.length_cons, List.length_nil, Option.map_some, Option.bind_some, List.append_nil, List.getD_cons_zero, List.getD_cons_succ, List.replicate_succ, List.replicate_zero, TP.wipeS_nil, TP.wipeS_cons, TP.restS_nil, TP.restS_cons, TP.ownSlots_nil, TP.ownSlots_cons, TP.owH_val, TP.owH_un, Bool.or_false, Bool.false_or, Bool.or_true, Bool.true_or, Bool.and_true, Bool.true_and, Bool.and_false, Bool.false_and, Bool.not_true, Bool.not_false, List.not_mem_nil, if_true, if_false, ite_true, ite_false, and_true, true_and, forall_const, true_implies, false_implies, not_true, not_false, decide_true, decide_false, decide_eq_true_eq, Bool.false_eq_true, Bool.true_eq_false, and_self, not_true_eq_false, not_false_eq_true, ↓TP.CS_nil, ↓TP.CS_one, Int.reduceAdd, Int.reduceSub, Int.reduceMul, Int.reduceNeg, Int.reduceLT, Int.reduceLE, Int.reduceToNat, Int.reducePow, Nat.reduceAdd, Nat.reduceSub, Nat.reduceEqDiff, Int.reduceEq, Int.reduceFDiv, Int.reduceFMod, List.cons.injEq, reduceCtorEq, List.mem_cons, or_false, or_true, false_or, true_or, false_and, and_false, ne_eq, $xs,*])

def dDraws : Fd := ⟨2, 3, [], [.asg (.nm 2) (.prim .mul [(.con (.int (15485863))), (.var 1)]), .ite (.prim .lt [(.var 1), (.prim .len [(.var 0)])]) [.asg (.nm 2) (.prim .mod [(.prim .idx [(.var 0), (.var 1)]), (.prim .mul [(.prim .mul [(.prim .mul [(.prim .mul [(.prim .pow [(.con (.int (10))), (.con (.int (60)))]), (.prim .pow [(.con (.int (10))), (.con (.int (60)))])]), (.prim .pow [(.con (.int (10))), (.con (.int (60)))])]), (.prim .pow [(.con (.int (10))), (.con (.int (60)))])]), (.prim .pow [(.con (.int (10))), (.con (.int (60)))])])])] [.ite (.prim .gt [(.prim .len [(.var 0)]), (.con (.int (0)))]) [.asg (.nm 2) (.prim .add [(.prim .mod [(.prim .idx [(.var 0), (.prim .mod [(.var 1), (.prim .len [(.var 0)])])]), (.prim .pow [(.con (.int (10))), (.con (.int (15)))])]), (.prim .mul [(.con (.int (15485863))), (.var 1)])])] []], .ret (.list [(.prim .mul [(.var 2), (.prim .toInt [(.prim .ge [(.var 2), (.prim .pow [(.con (.int (10))), (.con (.int (18)))])])])]), (.prim .add [(.con (.int (1))), (.prim .mod [(.prim .add [(.prim .mul [(.var 2), (.con (.int (69621)))]), (.prim .mul [(.con (.int (86028121))), (.prim .add [(.var 1), (.con (.int (1)))])])]), (.con (.int (2147483646)))])])])]⟩
theorem wc_draws {tab : Tab} {n : Nat} {ns : List Int} {k : Nat} {sto : List SO} {Q : RV → List Sl → List SO → Prop} {X : PV → List Sl → List SO → Prop} (hl : tab.lookup ("_law_draws" : Str) = some dDraws) (hk : k < 64)
    (q : ∀ d : Dr, Q (.fr d.pv) [.val (.rol (ns.map PV.int)), .val (.int k)] sto) :
    WC (callF tab (n + 1) "_law_draws" [.val (.rol (ns.map PV.int)), .val (.int (k : Int))] sto) Q X := by
  have w1 : ∀ c : Int, c ≤ 268435456 * 268435456 * 268435456 → c ≤ (wd 60 : Int) := fun c h => by
    have : wd 3 ≤ wd 60 := wd_mono (by omega)
    have e : ((wd 3 : Nat) : Int) = 268435456 * 268435456 * 268435456 := by simp [wd]
    omega
  have b1 : intBig 15485863 = true := big_lit (by omega)
  have b2 : intBig (k : Int) = true := big_lit (by omega)
  have b3 : intBig 86028121 = true := big_lit (by omega)
  have b4 : intBig ((k : Int) + 1) = true := big_lit (by omega)
  have b5 : intBig 69621 = true := big_lit (by omega)
  have fin : ∀ c : Int, 0 ≤ c → c ≤ (wd 60 : Int) → 0 ≤ c * (if 1000000000000000000 ≤ c then (1:Int) else 0) ∧ 0 ≤ 1 + (c * 69621 + 86028121 * ((k : Int) + 1)).fmod 2147483646 ∧ 1 + (c * 69621 + 86028121 * ((k : Int) + 1)).fmod 2147483646 < 2147483648 := by
    intro c h0 h1
    refine ⟨?_, ?_, ?_⟩
    · split <;> omega
    · rw [Int.fmod_eq_emod_of_nonneg _ (by omega)]
      have := Int.emod_nonneg (c * 69621 + 86028121 * ((k : Int) + 1)) (b := 2147483646) (by omega)
      omega
    · rw [Int.fmod_eq_emod_of_nonneg _ (by omega)]
      have := Int.emod_lt_of_pos (c * 69621 + 86028121 * ((k : Int) + 1)) (b := 2147483646) (by omega)
      omega
  have b6 : ∀ c : Int, intBig (if 1000000000000000000 ≤ c then (1:Int) else 0) = true := fun c => big_lit (by split <;> omega)
  refine wc_def hl ⟨rfl, by decide⟩ ?_
  simp only [dDraws]
  push_cast [List.length_map]
  refine ⟨fun ht => ?_, fun ht => ?_⟩
  · have hkn : k < ns.length := by omega
    rw [atI_nat (by simpa using hkn)]
    have bp : intBig (1000000000000000000000000000000000000000000000000000000000000 : Int) = true := big_lit (by omega)
    have bp2 : intBig (1000000000000000000000000000000000000000000000000000000000000000000000000000000000000000000000000000000000000000000000000 : Int) = true := by decide +kernel
    have bp3 : intBig (1000000000000000000000000000000000000000000000000000000000000000000000000000000000000000000000000000000000000000000000000000000000000000000000000000000000000000000000000000000000000 : Int) = true := by decide +kernel
    have bp4 : intBig (1000000000000000000000000000000000000000000000000000000000000000000000000000000000000000000000000000000000000000000000000000000000000000000000000000000000000000000000000000000000000000000000000000000000000000000000000000000000000000000000000 : Int) = true := by decide +kernel
    push_cast [List.getElem_map]
    generalize ns[k] = x
    have key : ∀ M : Int, 0 < M → M ≤ (wd 60 : Int) → 0 ≤ x.fmod M ∧ x.fmod M ≤ (wd 60 : Int) := fun M h1 h2 => by
      have e1 := Int.fmod_eq_emod_of_nonneg x (b := M) (by omega)
      have e2 := Int.emod_nonneg x (b := M) (by omega)
      have e3 := Int.emod_lt_of_pos x (b := M) (by omega)
      omega
    obtain ⟨c0, c1⟩ := key 1000000000000000000000000000000000000000000000000000000000000000000000000000000000000000000000000000000000000000000000000000000000000000000000000000000000000000000000000000000000000000000000000000000000000000000000000000000000000000000000000000000000000000000000000000000000000000000000000000000000000 (by omega) (by
      have : wd 36 ≤ wd 60 := wd_mono (by omega)
      have e : (1000000000000000000000000000000000000000000000000000000000000000000000000000000000000000000000000000000000000000000000000000000000000000000000000000000000000000000000000000000000000000000000000000000000000000000000000000000000000000000000000000000000000000000000000000000000000000000000000000000000000 : Nat) ≤ wd 36 := by decide +kernel
      omega)
    generalize x.fmod 1000000000000000000000000000000000000000000000000000000000000000000000000000000000000000000000000000000000000000000000000000000000000000000000000000000000000000000000000000000000000000000000000000000000000000000000000000000000000000000000000000000000000000000000000000000000000000000000000000000000000 = c at c0 c1 ⊢
    have bc : intBig c = true := big_wd (j := 60) (by omega) c0 c1
    have := b6 c
    push_cast []
    obtain ⟨f1, f2, f3⟩ := fin c c0 c1
    exact q ⟨_, _, f1, f2, f3⟩
  · refine ⟨fun ht2 => ?_, fun ht2 => ?_⟩
    · have hpos : 0 < ns.length := by omega
      have hn0 : (ns.length : Int) ≠ 0 := by omega
      have e0 : ((k : Int).fmod (ns.length : Int)) = ((k % ns.length : Nat) : Int) := by
        rw [Int.fmod_eq_emod_of_nonneg _ (by omega)]
        rfl
      have hkn : k % ns.length < ns.length := Nat.mod_lt k hpos
      push_cast [List.length_map]
      rw [e0, atI_nat (by simpa using hkn)]
      push_cast [List.getElem_map]
      generalize ns[k % ns.length] = x
      push_cast []
      have e1 := Int.fmod_eq_emod_of_nonneg x (b := 1000000000000000) (by omega)
      have e2 := Int.emod_nonneg x (b := 1000000000000000) (by omega)
      have e3 := Int.emod_lt_of_pos x (b := 1000000000000000) (by omega)
      have c0 : 0 ≤ x.fmod 1000000000000000 + 15485863 * (k : Int) := by omega
      have c1 : x.fmod 1000000000000000 + 15485863 * (k : Int) ≤ (wd 60 : Int) := w1 _ (by omega)
      generalize x.fmod 1000000000000000 + 15485863 * (k : Int) = c at c0 c1 ⊢
      have bc : intBig c = true := big_wd (j := 60) (by omega) c0 c1
      have := b6 c
      push_cast []
      obtain ⟨f1, f2, f3⟩ := fin c c0 c1
      exact q ⟨_, _, f1, f2, f3⟩
    · have c0 : 0 ≤ 15485863 * (k : Int) := by omega
      have c1 : 15485863 * (k : Int) ≤ (wd 60 : Int) := w1 _ (by omega)
      generalize 15485863 * (k : Int) = c at c0 c1 ⊢
      have bc : intBig c = true := big_wd (j := 60) (by omega) c0 c1
      have := b6 c
      push_cast []
      obtain ⟨f1, f2, f3⟩ := fin c c0 c1
      exact q ⟨_, _, f1, f2, f3⟩
end TP

set_option Elab.async false
set_option linter.all false
set_option maxRecDepth 100000
set_option maxHeartbeats 4000000
set_option exponentiation.threshold 20000
/-! Kg0: programs that are drawn: trees, kinds, what is near; leaves. -/
namespace TP
open PySem
/-! a slot that holds a list, its own or not -/
def NS (b : Bool) (nr : List PV) : Sl := if b then .own (.lst nr) else .val (.lst nr)
def RN (b : Bool) (i : Nat) (nr : List PV) : RV := if b then .hd i else .sh (.lst nr)
section
variable {env : List Sl} {sto : List SO} {nr : List PV} {b b2 : Bool} {i : Nat}
theorem varK_ns {s : SS} {Q : RV → SS → Prop} : varK i s Q (some (NS b nr)) = Q (RN b i nr) s := by cases b <;> rfl
def contN (b : Bool) (nr : List PV) (sto : List SO) (o : Option Sl) : Option PV := if b then contH sto o else some (.lst nr)
theorem cont_rn : cont ⟨env, sto⟩ (RN b i nr) = contN b nr sto (env[i]?) := by
  cases b
  · rfl
  · exact cont_hd
theorem contN_ns : contN b nr sto (some (NS b nr)) = some (.lst nr) := by cases b <;> rfl
def argN (b : Bool) (i : Nat) (nr : List PV) (l : List Nat) (K : List Nat → Option (List Sl)) (o : Option Sl) : Option (List Sl) := if b then argH i l K o else (K l).map (.val (.lst nr) :: ·)
theorem argsOf_rn {l : List Nat} {rs : List RV} : argsOf ⟨env, sto⟩ l (RN b i nr :: rs) = argN b i nr l (fun l => argsOf ⟨env, sto⟩ l rs) (env[i]?) := by
  cases b
  · exact argsOf_sh
  · exact argsOf_hd
def lN (b : Bool) (i : Nat) (l : List Nat) : List Nat := if b then i :: l else l
theorem argN_ns {l : List Nat} {K : List Nat → Option (List Sl)} (h : i ∉ l) : argN b i nr l K (some (NS b nr)) = (K (lN b i l)).map (NS b nr :: ·) := by
  cases b
  · rfl
  · exact argH_own h
def bkN (b b2 : Bool) (i : Nat) (nr : List PV) (env : List Sl) (rs : List RV) (as fs : List Sl) (o : Option Sl) : List Sl := if b then backE (env.set i (NS b2 nr)) rs as fs else (match o with
  | some x => backE (env.set i x) rs as fs
  | none => backE env rs as fs)
theorem backE_rn {rs : List RV} {as fs : List Sl} : backE env (RN b i nr :: rs) (NS b nr :: as) (NS b2 nr :: fs) = bkN b b2 i nr env rs as fs (env[i]?) := by
  cases b
  · show backE env rs as fs = match env[i]? with
      | some x => backE (env.set i x) rs as fs
      | none => backE env rs as fs
    cases h : env[i]? with
    | none => rfl
    | some x =>
      show _ = backE (env.set i x) rs as fs
      congr 1
      apply List.ext_getElem?
      intro j
      rw [List.getElem?_set]
      by_cases e : i = j
      · subst e
        have := (List.getElem?_eq_some_iff.mp h).1
        rw [if_pos rfl, if_pos this, h]
      · rw [if_neg e]
  · rfl
theorem bkN_ns {rs : List RV} {as fs : List Sl} : bkN b b2 i nr env rs as fs (some (NS b nr)) = backE (env.set i (NS (b && b2) nr)) rs as fs := by cases b <;> rfl
def keepN (b : Bool) (i : Nat) (nr : List PV) (env : List Sl) (sto : List SO) (o : Option Sl) : Option (PV × SS) := if b then keepH i ⟨env, sto⟩ o else (match o with
  | some x => some (.lst nr, ⟨env.set i x, sto⟩)
  | none => some (.lst nr, ⟨env, sto⟩))
theorem keep_rn : keep ⟨env, sto⟩ (RN b i nr) = keepN b i nr env sto (env[i]?) := by
  cases b
  · show some (PV.lst nr, (⟨env, sto⟩ : SS)) = match env[i]? with
      | some x => some (.lst nr, ⟨env.set i x, sto⟩)
      | none => some (.lst nr, ⟨env, sto⟩)
    cases h : env[i]? with
    | none => rfl
    | some x =>
      show _ = some (PV.lst nr, (⟨env.set i x, sto⟩ : SS))
      congr 3
      apply List.ext_getElem?
      intro j
      rw [List.getElem?_set]
      by_cases e : i = j
      · subst e
        have := (List.getElem?_eq_some_iff.mp h).1
        rw [if_pos rfl, if_pos this, h]
      · rw [if_neg e]
  · exact keep_hd
theorem keepN_ns : keepN b i nr env sto (some (NS b nr)) = some (.lst nr, ⟨env.set i (NS false nr), sto⟩) := by cases b <;> rfl
theorem owH_ns : owH (some (NS false nr)) = false := rfl
theorem ns_own : Sl.own (.lst nr) = NS true nr := rfl
theorem ns_val : Sl.val (.lst nr) = NS false nr := rfl
end
/-! kinds, names, places -/
/-- a kind: l, or n -/
def kx (k : Bool) : List Nat := if k then [108] else [110]
def kv (k : Bool) : PV := .str (kx k)
theorem kx_tx {k : Bool} : txOk (kx k) = true := by cases k <;> rfl
theorem kv_eqn {k : Bool} : primSem .eq [.str (kx k), .str [110]] = some (.sh (.bl (!k))) := by
  rw [pm_eqS kx_tx rfl]; cases k <;> rfl
theorem kv_eql {k : Bool} : primSem .eq [.str (kx k), .str [108]] = some (.sh (.bl k)) := by
  rw [pm_eqS kx_tx rfl]; cases k <;> rfl
theorem kv_eqk {k j : Bool} : primSem .eq [.str (kx k), .str (kx j)] = some (.sh (.bl (decide (k = j)))) := by
  rw [pm_eqS kx_tx kx_tx]; cases k <;> cases j <;> rfl
def keysL : List (List Nat) := [[108, 101, 116], [105, 102], [116, 104, 101, 110], [101, 108, 115, 101], [99, 97, 115, 101], [111, 102], [100, 105, 118], [109, 111, 100], [97, 110, 100], [111, 114]]
def opsL : List (List Nat) := [[43], [45], [42], [100, 105, 118], [109, 111, 100], [61, 61], [60], [58]]
def nameOk (x : List Nat) : Prop := 1 ≤ x.length ∧ x.length ≤ 8 ∧ x ∉ keysL ∧ ∀ c ∈ x, 97 ≤ c ∧ c ≤ 122
theorem nameOk.tx {x : List Nat} (h : nameOk x) : txOk x = true := by
  unfold txOk
  rw [List.all_eq_true]
  intro c hc
  have := h.2.2.2 c hc
  exact decide_eq_true (by omega)
structure NmOk (nms : List (List Nat)) : Prop where
  len : nms.length = 8
  nd : nms.Nodup
  ok : ∀ x ∈ nms, nameOk x
abbrev Pl := Int × Int
def plv (p : Pl) : PV := .tup [.int p.1, .int p.2]
def plOk (p : Pl) : Prop := (0 ≤ p.1 ∧ p.1 ≤ 9999) ∧ (0 ≤ p.2 ∧ p.2 ≤ 59)
structure Hd where
  nm : List Nat
  ps : List Bool
  k : Bool
def Hd.pv (h : Hd) : PV := .tup [.str h.nm, .lst (h.ps.map kv), kv h.k]
/-! trees -/
inductive Tr where
  | num (p : Pl) (n : Int)
  | nil (p : Pl)
  | use (p : Pl) (x : List Nat) (as : List Tr)
  | op (p : Pl) (s : List Nat) (a b : Tr)
  | ite (p : Pl) (a b c : Tr)
  | lt (p : Pl) (x : List Nat) (a b : Tr)
  | cs (p : Pl) (a b : Tr) (h t : List Nat) (c : Tr)
mutual
def Tr.pv : Tr → PV
  | .num p n => .tup [.str [110, 117, 109], plv p, .int n]
  | .nil p => .tup [.str [110, 105, 108], plv p]
  | .use p x as => .tup [.str [117, 115, 101], plv p, .str x, .tup (pvsT as)]
  | .op p s a b => .tup [.str [111, 112], plv p, .str s, a.pv, b.pv]
  | .ite p a b c => .tup [.str [105, 102], plv p, a.pv, b.pv, c.pv]
  | .lt p x a b => .tup [.str [108, 101, 116], plv p, .str x, a.pv, b.pv]
  | .cs p a b h t c => .tup [.str [99, 97, 115, 101], plv p, a.pv, b.pv, .str h, .str t, c.pv]
def pvsT : List Tr → List PV
  | [] => []
  | t :: ts => t.pv :: pvsT ts
end
theorem pvsT_map : ∀ (ts : List Tr), pvsT ts = ts.map Tr.pv
  | [] => rfl
  | t :: ts => by rw [pvsT, pvsT_map ts]; rfl
mutual
def Tr.dep : Tr → Nat
  | .num _ _ => 1
  | .nil _ => 1
  | .use _ _ as => 1 + depsT as
  | .op _ _ a b => 1 + max a.dep b.dep
  | .ite _ a b c => 1 + max a.dep (max b.dep c.dep)
  | .lt _ _ a b => 1 + max a.dep b.dep
  | .cs _ a b _ _ c => 1 + max a.dep (max b.dep c.dep)
def depsT : List Tr → Nat
  | [] => 0
  | t :: ts => max t.dep (depsT ts)
end
/-! trees that are no leaves -/
mutual
def Tr.inn : Tr → Nat
  | .num _ _ => 0
  | .nil _ => 0
  | .use _ _ [] => 0
  | .use _ _ (a :: as) => 1 + innsT (a :: as)
  | .op _ _ a b => 1 + a.inn + b.inn
  | .ite _ a b c => 1 + a.inn + b.inn + c.inn
  | .lt _ _ a b => 1 + a.inn + b.inn
  | .cs _ a b _ _ c => 1 + a.inn + b.inn + c.inn
def innsT : List Tr → Nat
  | [] => 0
  | t :: ts => t.inn + innsT ts
end
/-! well formed, and sound: nms: the names of locals, hds: the defs, near: what is near -/
mutual
def Tr.ok (nms : List (List Nat)) (hds : List Hd) : List (List Nat) → Tr → Prop
  | _, .num p n => plOk p ∧ 0 ≤ n ∧ n ≤ 999999999
  | _, .nil p => plOk p
  | near, .use p x as => plOk p ∧ ((as = [] ∧ x ∈ near) ∨ (x ∉ near ∧ (∃ h ∈ hds, h.nm = x ∧ h.ps.length = as.length) ∧ oksT nms hds near as))
  | near, .op p s a b => plOk p ∧ s ∈ opsL ∧ a.ok nms hds near ∧ b.ok nms hds near
  | near, .ite p a b c => plOk p ∧ a.ok nms hds near ∧ b.ok nms hds near ∧ c.ok nms hds near
  | near, .lt p x a b => plOk p ∧ x ∈ nms ∧ a.ok nms hds near ∧ b.ok nms hds (x :: near)
  | near, .cs p a b h t c => plOk p ∧ h ∈ nms ∧ t ∈ nms ∧ h ≠ t ∧ a.ok nms hds near ∧ b.ok nms hds near ∧ c.ok nms hds (h :: t :: near)
def oksT (nms : List (List Nat)) (hds : List Hd) : List (List Nat) → List Tr → Prop
  | _, [] => True
  | near, t :: ts => t.ok nms hds near ∧ oksT nms hds near ts
end
mutual
theorem Tr.ok_cg {nms : List (List Nat)} {hds : List Hd} : ∀ {t : Tr} {near near' : List (List Nat)}, (∀ x, x ∈ near ↔ x ∈ near') → t.ok nms hds near → t.ok nms hds near'
  | .num p n, _, _, _, h => h
  | .nil p, _, _, _, h => h
  | .use p x as, _, _, e, h => by
    simp only [Tr.ok] at h ⊢
    refine ⟨h.1, h.2.imp (fun q => ⟨q.1, (e x).mp q.2⟩) fun q => ⟨fun z => q.1 ((e x).mpr z), q.2.1, oksT_cg e q.2.2⟩⟩
  | .op p s a b, _, _, e, h => by
    simp only [Tr.ok] at h ⊢
    exact ⟨h.1, h.2.1, Tr.ok_cg e h.2.2.1, Tr.ok_cg e h.2.2.2⟩
  | .ite p a b c, _, _, e, h => by
    simp only [Tr.ok] at h ⊢
    exact ⟨h.1, Tr.ok_cg e h.2.1, Tr.ok_cg e h.2.2.1, Tr.ok_cg e h.2.2.2⟩
  | .lt p x a b, _, _, e, h => by
    simp only [Tr.ok] at h ⊢
    exact ⟨h.1, h.2.1, Tr.ok_cg e h.2.2.1, Tr.ok_cg (fun y => by simp [e y]) h.2.2.2⟩
  | .cs p a b hh tt c, _, _, e, h => by
    simp only [Tr.ok] at h ⊢
    exact ⟨h.1, h.2.1, h.2.2.1, h.2.2.2.1, Tr.ok_cg e h.2.2.2.2.1, Tr.ok_cg e h.2.2.2.2.2.1, Tr.ok_cg (fun y => by simp [e y]) h.2.2.2.2.2.2⟩
theorem oksT_cg {nms : List (List Nat)} {hds : List Hd} : ∀ {ts : List Tr} {near near' : List (List Nat)}, (∀ x, x ∈ near ↔ x ∈ near') → oksT nms hds near ts → oksT nms hds near' ts
  | [], _, _, _, _ => trivial
  | t :: ts, _, _, e, h => ⟨Tr.ok_cg e h.1, oksT_cg e h.2⟩
end
/-- a leaf -/
def LfOk (near : List (List Nat)) (t : Tr) : Prop := (∃ p n, t = .num p n ∧ plOk p ∧ 0 ≤ n ∧ n ≤ 999999999) ∨ (∃ p, t = .nil p ∧ plOk p) ∨ ∃ p x, t = .use p x [] ∧ plOk p ∧ x ∈ near
theorem LfOk.ok {near near' : List (List Nat)} {t : Tr} {nms : List (List Nat)} {hds : List Hd} (h : LfOk near t) (s : ∀ x ∈ near, x ∈ near') : t.ok nms hds near' := by
  rcases h with ⟨p, n, rfl, h1, h2, h3⟩ | ⟨p, rfl, h1⟩ | ⟨p, x, rfl, h1, h2⟩
  · simp only [Tr.ok]; exact ⟨h1, h2, h3⟩
  · simp only [Tr.ok]; exact h1
  · simp only [Tr.ok]; exact ⟨h1, .inl ⟨trivial, s x h2⟩⟩
theorem LfOk.dep {near : List (List Nat)} {t : Tr} (h : LfOk near t) : t.dep = 1 := by
  rcases h with ⟨p, n, rfl, h1, h2, h3⟩ | ⟨p, rfl, h1⟩ | ⟨p, x, rfl, h1, h2⟩ <;> rfl
theorem LfOk.inn {near : List (List Nat)} {t : Tr} (h : LfOk near t) : t.inn = 0 := by
  rcases h with ⟨p, n, rfl, h1, h2, h3⟩ | ⟨p, rfl, h1⟩ | ⟨p, x, rfl, h1, h2⟩ <;> rfl
/-- the way -/
structure Wy where
  w0 : Int
  w1 : Int
  w2 : Int
  nms : List (List Nat)
  hds : List Hd
  w5 : Int
def Wy.pv (w : Wy) : PV := .lst [.int w.w0, .int w.w1, .int w.w2, .lst (w.nms.map PV.str), .lst (w.hds.map Hd.pv), .int w.w5]
def Wy.to (w : Wy) (a b : Int) : Wy := { w with w0 := a, w2 := b }
/-- what is near -/
abbrev Nr := List (List Nat × Bool)
def nrv (n : Nr) : List PV := n.map fun q => .tup [.str q.1, kv q.2]
local macro_rules
  | `(tactic| push_cast [$xs,*]) => `(tactic| simp (maxSteps := 2000000) -implicitDefEqProofs -dsimp (disch := first | assumption | (with_reducible refine TP.big_lit ?_; omega) | decide | omega | (simp only [List.length_cons, List.length_nil, List.length_map, List.length_append, TP.szL]; omega)) only [TP.oK_some, TP.varK_val, TP.varK_own, TP.BR_t, TP.BR_f, TP.BR_d, ↓TP.wE_con, ↓TP.wE_dead, ↓TP.wEs_nil, ↓TP.wEs_cons, ↓TP.wE_prim1, ↓TP.wE_prim2, TP.strK_s, ↓TP.wE_sm, TP.dixK_s, ↓TP.wE_didx, ↓TP.wE_dnew, TP.dctK_d, TP.DG_s, ↓TP.wE_dget, TP.TS_bl, ↓TP.wE_not, ↓TP.wE_and1, ↓TP.wE_and, ↓TP.wE_or1, ↓TP.wE_or, ↓TP.wE_ite, ↓TP.wE_chain, ↓TP.KPs_nil, ↓TP.wE_disp, TP.keep_sh, TP.keep_fr, TP.keep_hd, TP.keepH_val, TP.keepH_own, ↓TP.wE_tup, ↓TP.wE_list, ↓TP.wE_call, ↓TP.wE_callK, TP.gloK_v, ↓TP.wE_callL, ↓TP.wE_mut, ↓TP.wE_slice, ↓TP.wE_lc, ↓TP.wE_lc2, TP.itK_s, ↓TP.wI_of, TP.rgK_i, ↓TP.wI_range1, TP.rg2K_i, ↓TP.wI_range2, ↓TP.wI_enum, ↓TP.wI_rev, ↓TP.wI_zip, ↓TP.nxt_nx, ↓TP.nxt_br, ↓TP.nxt_ct, ↓TP.nxt_rt, ↓TP.lpQ_nx, ↓TP.lpQ_ct, ↓TP.lpQ_br, ↓TP.lpQ_rt, TP.BT_nm, TP.BT_tup, TP.BT_lst, TP.BTs_nil, TP.BTs_cons, TP.AG_sh, TP.AG_fr, TP.AG_frT, TP.AG_hd, TP.RT_sh, TP.RT_fr, TP.RT_hd, TP.rtH_val, TP.rtH_own, TP.rtH_par, ↓TP.wS_nil, ↓TP.wS_asg, ↓TP.wS_ret, ↓TP.wS_retN, ↓TP.wS_pass, ↓TP.wS_brk, ↓TP.wS_cont, ↓TP.wS_dead, ↓TP.wS_expr, ↓TP.wS_apc, ↓TP.wS_apn, ↓TP.wS_ite, ↓TP.wS_setix, ↓TP.wS_augU, TP.AU_v, ↓TP.wS_par, ↓TP.wS_asgR, ↓TP.wS_for, ↓TP.wS_while, ↓TP.dfQ_nx, ↓TP.dfQ_rt, ↓TP.wE_var', TP.cont_sh, TP.cont_fr, TP.cont_hd, TP.contH_val, TP.contH_own, TP.boxC_nl, TP.boxC_non, TP.boxC_bl, TP.boxC_int, TP.boxC_str, TP.boxC_tup, TP.boxC_lst, TP.boxC_rol, TP.boxC_dct, TP.boxC_ty, TP.boxC_glo, TP.putBack_hd, TP.pbH_own, TP.argsOf_nil, TP.argsOf_sh, TP.argsOf_fr, TP.argsOf_hd, TP.argH_val, TP.argH_own, TP.backE_nil, TP.backE_sh, TP.backE_fr, TP.backE_own, TP.backE_val, TP.permR_nil, TP.permR_inl, TP.permR_inr, TP.finA_nil, TP.finA_cons, TP.frzA_nil, TP.frzA_cons, TP.frz1_eq, TP.frH_own, TP.frH_val, TP.itemsOf_lst, TP.itemsOf_tup, TP.itemsOf_rol, TP.itemsOf_str, TP.itemsOf_dct, TP.enumOf_lst, TP.revOf_lst, TP.revOf_tup, TP.zipOf_lst, TP.zipOf_tup, TP.P1_s, TP.P2_s, TP.SM_s, TP.MU_s, TP.SX_s, TP.C2_s, TP.C2k_t, TP.C2k_f, TP.C2k_d, TP.BR_nd, TP.pm_add, TP.pm_sub, TP.pm_neg, TP.pm_addS, TP.pm_addT, TP.pm_addL, TP.pm_mul, TP.pm_fdiv, TP.pm_mod, TP.pm_pow, TP.pm_lt, TP.pm_le, TP.pm_gt, TP.pm_ge, TP.pm_isN, TP.pm_notN, TP.pm_isB, TP.pm_notB, TP.pm_idx_lst, TP.pm_len_lst, TP.pm_idx_tup, TP.pm_len_tup, TP.pm_idx_rol, TP.pm_len_rol, TP.pm_idx_str, TP.pm_len_str, TP.pm_abs, TP.pm_min2, TP.pm_max2, TP.pm_toIntI, TP.pm_toIntB, TP.pm_toTupL, TP.pm_toTupT, TP.pm_toList_lst, TP.pm_toList_tup, TP.pm_toList_rol, TP.pm_all, TP.pm_maxD, TP.pm_zipL, TP.pm_any, TP.pm_sum, TP.pm_revs, TP.pm_toStrI, TP.pm_joinL, TP.jnK_s, TP.pm_split, TP.pm_mulS, TP.pm_mulL, TP.pm_mulT, TP.pm_isinT, TP.pm_isinL, TP.pm_notinT, TP.pm_notinL, TP.pm_isinS, TP.pm_notinS, TP.pm_isi_non_int, TP.pm_isi_non_bool, TP.pm_isi_non_str, TP.pm_isi_non_tuple, TP.pm_isi_non_list, TP.pm_isi_bl_int, TP.pm_isi_bl_bool, TP.pm_isi_bl_str, TP.pm_isi_bl_tuple, TP.pm_isi_bl_list, TP.pm_isi_int_int, TP.pm_isi_int_bool, TP.pm_isi_int_str, TP.pm_isi_int_tuple, TP.pm_isi_int_list, TP.pm_isi_str_int, TP.pm_isi_str_bool, TP.pm_isi_str_str, TP.pm_isi_str_tuple, TP.pm_isi_str_list, TP.pm_isi_tup_int, TP.pm_isi_tup_bool, TP.pm_isi_tup_str, TP.pm_isi_tup_tuple, TP.pm_isi_tup_list, TP.pm_isi_lst_int, TP.pm_isi_lst_bool, TP.pm_isi_lst_str, TP.pm_isi_lst_tuple, TP.pm_isi_lst_list, TP.mu_app, TP.mu_clear, TP.mu_reverse, TP.mutTy_s, TP.set_lst, TP.key_int, TP.key_str, TP.pm_idx_dct, TP.pm_isin_dct, TP.pm_notin_dct, TP.pm_len_dct, TP.set_dct, TP.PD_s, TP.pairs_nil, TP.pairs_str, TP.pairs_int, TP.aug_add, TP.aug_sub, TP.sl_lst, TP.sl_tup, TP.sl_str, TP.bnd_abs, TP.bnd_int, TP.isAbs_non, TP.isAbs_int, TP.isAbs_var, TP.isAbs_prim, TP.isAbs_call, TP.bools_map, TP.ints_map, TP.strs_map, TP.ixN_0, TP.ixN_1, TP.atI_c0, TP.atI_nat, TP.atI_c1, TP.atI_c2, TP.atI_c3, TP.atI_c4, TP.atI_c5, TP.atI_c6, TP.atI_c7, TP.pm_eqI, TP.pm_neI, TP.tx_ok, TP.pm_eqS, TP.pm_neS, TP.any_str, TP.all_flat_str, TP.pm_isinT_s, TP.pm_notinT_s, TP.pm_isinL_s, TP.pm_notinL_s, TP.WC_ok, ↓TP.KPs_cons, List.getElem?_cons_succ, List.getElem?_cons_zero, List.set_cons_succ, List.set_cons_zero, List.cons_append, List.nil_append, List.length_cons, List.length_nil, Option.map_some, Option.bind_some, List.append_nil, List.getD_cons_zero, List.getD_cons_succ, List.replicate_succ, List.replicate_zero, TP.wipeS_nil, TP.wipeS_cons, TP.restS_nil, TP.restS_cons, TP.ownSlots_nil, TP.ownSlots_cons, TP.owH_val, TP.owH_un, Bool.or_false, Bool.false_or, Bool.or_true, Bool.true_or, Bool.and_true, Bool.true_and, Bool.and_false, Bool.false_and, Bool.not_true, Bool.not_false, List.not_mem_nil, if_true, if_false, ite_true, ite_false, and_true, true_and, forall_const, true_implies, false_implies, not_true, not_false, decide_true, decide_false, decide_eq_true_eq, Bool.false_eq_true, Bool.true_eq_false, and_self, not_true_eq_false, not_false_eq_true, ↓TP.CS_nil, ↓TP.CS_one, Int.reduceAdd, Int.reduceSub, Int.reduceMul, Int.reduceNeg, Int.reduceLT, Int.reduceLE, Int.reduceToNat, Int.reducePow, Nat.reduceAdd, Nat.reduceSub, Nat.reduceEqDiff, Int.reduceEq, Int.reduceFDiv, Int.reduceFMod, List.cons.injEq, reduceCtorEq, List.mem_cons, or_false, or_true, false_or, true_or, false_and, and_false, ne_eq, $xs,*])

def gPlace : Fd := ⟨1, 1, [], [.setix (.var 0) (.con (.int (0))) (.prim .add [(.prim .idx [(.var 0), (.con (.int (0)))]), (.prim .idx [(.var 0), (.con (.int (1)))])]), .ret (.tup [(.prim .mod [(.prim .fdiv [(.prim .idx [(.var 0), (.con (.int (0)))]), (.con (.int (60)))]), (.con (.int (10000)))]), (.prim .mod [(.prim .idx [(.var 0), (.con (.int (0)))]), (.con (.int (60)))])])]⟩
def gLeaf : Fd := ⟨4, 9, [], [.asg (.nm 4) (.prim .dnew []), .for (.tp [(.nm 5), (.nm 6)]) (.of (.var 3)) [.setix (.var 4) (.var 5) (.var 6)], .asg (.nm 7) (.lc (.var 5) (.nm 5) (.of (.var 4)) [(.prim .eq [(.prim .idx [(.var 4), (.var 5)]), (.var 2)])] [5]), .asg (.nm 8) (.call "_law_place" [(.var 1)]), .ite (.and [(.prim .ne [(.var 7), (.list [])]), (.prim .gt [(.call "_law_draw" [(.var 0), (.con (.int (4)))]), (.con (.int (0)))])]) [.ret (.tup [(.con (.str [117, 115, 101])), (.var 8), (.prim .idx [(.var 7), (.call "_law_draw" [(.var 0), (.prim .len [(.var 7)])])]), (.tup [])])] [], .ite (.prim .eq [(.var 2), (.con (.str [108]))]) [.ret (.tup [(.con (.str [110, 105, 108])), (.var 8)])] [], .ret (.tup [(.con (.str [110, 117, 109])), (.var 8), (.prim .idx [(.list [(.con (.int (0))), (.con (.int (1))), (.con (.int (2))), (.con (.int (3))), (.con (.int (7))), (.prim .sub [(.prim .pow [(.con (.int (10))), (.con (.int (9)))]), (.con (.int (1)))]), (.con (.int (12))), (.con (.int (1)))]), (.call "_law_draw" [(.var 0), (.con (.int (8)))])])])]⟩
theorem wc_place {tab : Tab} {n : Nat} {w : Wy} {sto : List SO} {Q : RV → List Sl → List SO → Prop} {X : PV → List Sl → List SO → Prop} (hl : tab.lookup ("_law_place" : Str) = some gPlace)
    (q : ∀ (p : Pl) (a : Int), plOk p → Q (.sh (plv p)) [.own (w.to a w.w2).pv] sto) : WC (callF tab (n + 1) "_law_place" [.own w.pv] sto) Q X := by
  refine wc_def hl ⟨rfl, by decide⟩ ?_
  simp only [gPlace, Wy.pv]
  have b60 : intBig 60 = true := rfl
  push_cast []
  refine q (((w.w0 + w.w1).fdiv 60).fmod 10000, (w.w0 + w.w1).fmod 60) (w.w0 + w.w1) ?_
  have e1 := Int.fmod_eq_emod_of_nonneg ((w.w0 + w.w1).fdiv 60) (b := 10000) (by omega)
  have e2 := Int.fmod_eq_emod_of_nonneg (w.w0 + w.w1) (b := 60) (by omega)
  simp only [plOk, e1, e2]
  omega
/-! the dict of what is near -/
def lkM : Nr → List Nat → Option Bool
  | [], _ => none
  | (y, j) :: r, x => if y = x then some j else lkM r x
def putM (m : Nr) (x : List Nat) (k : Bool) : Nr := if (lkM m x).isSome then m.map (fun q => (q.1, if q.1 = x then k else q.2)) else m ++ [(x, k)]
def mks (m : Nr) : List L2.Key := m.map fun q => .inr ⟨q.1.toArray⟩
def mvs (m : Nr) : List PV := m.map fun q => kv q.2
theorem key_inj {x y : List Nat} : ((.inr ⟨x.toArray⟩ : L2.Key) = .inr ⟨y.toArray⟩) ↔ x = y := by
  constructor
  · intro h
    injection h with h
    injection h with h
    exact congrArg Array.toList h
  · rintro rfl; rfl
theorem any_mks : ∀ {m : Nr} {x : List Nat}, ((mks m).any fun k => decide (k = (.inr ⟨x.toArray⟩ : L2.Key))) = (lkM m x).isSome
  | [], x => rfl
  | (y, j) :: r, x => by
    simp only [mks, List.map_cons, List.any_cons, lkM]
    by_cases e : y = x
    · subst e; simp
    · have e' : ¬ ((.inr ⟨y.toArray⟩ : L2.Key) = .inr ⟨x.toArray⟩) := fun h => e (key_inj.mp h)
      rw [if_neg e, decide_eq_false e', Bool.false_or]
      exact any_mks (m := r)
theorem lk_mks : ∀ {m : Nr} {x : List Nat}, lkD (mks m) (mvs m) (.inr ⟨x.toArray⟩) = (lkM m x).map kv
  | [], x => rfl
  | (y, j) :: r, x => by
    simp only [mks, mvs, List.map_cons, lkD, lkM]
    by_cases e : y = x
    · subst e; simp
    · have e' : ¬ ((.inr ⟨y.toArray⟩ : L2.Key) = .inr ⟨x.toArray⟩) := fun h => e (key_inj.mp h)
      rw [if_neg e, if_neg e']
      exact lk_mks (m := r)
theorem rep_mks : ∀ {m : Nr} {x : List Nat} {k : Bool}, repD (mks m) (mvs m) (.inr ⟨x.toArray⟩) (kv k) = mvs (m.map fun q => (q.1, if q.1 = x then k else q.2))
  | [], x, k => rfl
  | (y, j) :: r, x, k => by
    simp only [mks, mvs, List.map_cons, repD]
    congr 1
    · by_cases e : y = x
      · subst e; simp
      · have e' : ¬ ((.inr ⟨y.toArray⟩ : L2.Key) = .inr ⟨x.toArray⟩) := fun h => e (key_inj.mp h)
        rw [if_neg e, if_neg e']
    · exact rep_mks (m := r)
theorem put_mks {m : Nr} {x : List Nat} {k : Bool} : putD (mks m) (mvs m) (.inr ⟨x.toArray⟩) (kv k) = .dct (mks (putM m x k)) (mvs (putM m x k)) := by
  unfold putD putM
  rw [any_mks]
  by_cases h : (lkM m x).isSome = true
  · rw [if_pos h, if_pos h, rep_mks]
    congr 1
    simp [mks]
  · rw [if_neg h, if_neg h]
    simp [mks, mvs]
theorem put_len {m : Nr} {x : List Nat} {k : Bool} : (putM m x k).length ≤ m.length + 1 := by
  unfold putM
  split <;> simp
theorem put_mem {m : Nr} {x : List Nat} {k : Bool} {y : List Nat} (h : y ∈ (putM m x k).map (·.1)) : y = x ∨ y ∈ m.map (·.1) := by
  unfold putM at h
  split at h
  · rw [List.map_map] at h
    exact .inr h
  · simp only [List.map_append, List.map_cons, List.map_nil, List.mem_append, List.mem_singleton] at h
    exact h.symm
theorem pvKey_s {x : List Nat} : pvKey (.inr ⟨x.toArray⟩) = .str x := by simp [pvKey]
theorem mks_pv {m : Nr} : (mks m).map pvKey = m.map fun q => .str q.1 := by
  unfold mks
  rw [List.map_map]
  exact List.map_congr_left fun q _ => pvKey_s
theorem lkM_mem : ∀ {m : Nr} {q : List Nat × Bool}, q ∈ m → (lkM m q.1).isSome = true
  | (y, j) :: r, q, h => by
    simp only [lkM]
    by_cases e : y = q.1
    · rw [if_pos e]; rfl
    · rw [if_neg e]
      rcases List.mem_cons.mp h with z | z
      · exact absurd (by rw [z]) e
      · exact lkM_mem z
/-! lists of names -/
theorem deeps_strs : ∀ {xs : List (List Nat)}, (∀ x ∈ xs, txOk x = true) → deeps (xs.map PV.str) = some 0
  | [], _ => rfl
  | x :: xs, h => by
    have h1 := h x (List.mem_cons_self ..)
    unfold txOk at h1
    simp only [List.map_cons, deeps, PV.deep, h1, if_true, deeps_strs (xs := xs) fun y hy => h y (List.mem_cons_of_mem _ hy)]
    rfl
theorem strs_data {xs : List (List Nat)} (h : ∀ x ∈ xs, txOk x = true) : dataOk (.lst (xs.map PV.str)) = true := by
  simp only [dataOk, PV.deep, deeps_strs h]
  rfl
theorem pm_neNil {xs : List (List Nat)} (h : ∀ x ∈ xs, txOk x = true) : primSem .ne [.lst (xs.map PV.str), .lst []] = some (.sh (.bl (!decide (xs = [])))) := by
  rw [pm_ne (strs_data h) rfl]
  cases xs with
  | nil => rfl
  | cons x xs => rfl
theorem wc_leaf {tab : Tab} {n : Nat} {d : Dr} {w : Wy} {k b : Bool} {nr : Nr} {sto : List SO} {Q : RV → List Sl → List SO → Prop} {X : PV → List Sl → List SO → Prop} (hD : tab.lookup ("_law_draw" : Str) = some dDraw) (hP : tab.lookup ("_law_place" : Str) = some gPlace) (hl : tab.lookup ("_law_leaf" : Str) = some gLeaf)
    (hx : ∀ x ∈ nr.map (·.1), nameOk x) (hn : nr.length ≤ 100000)
    (q : ∀ (d' : Dr) (a : Int) (t : Tr), LfOk (nr.map (·.1)) t → Q (.sh t.pv) [.own d'.pv, .own (w.to a w.w2).pv, .val (.str (kx k)), NS false (nrv nr)] sto) :
    WC (callF tab (n + 2) "_law_leaf" [.own d.pv, .own w.pv, .val (.str (kx k)), NS b (nrv nr)] sto) Q X := by
  refine wc_def hl ⟨rfl, by decide⟩ ?_
  simp only [gLeaf]
  push_cast [varK_ns, keep_rn, keepN_ns, nrv]
  refine fr_rule (fun xs s => ∃ (done rest : Nr) (m : Nr) (s5 s6 : Sl), owH (some s5) = false ∧ nr = done ++ rest ∧ xs = rest.map (fun q => .tup [.str q.1, kv q.2]) ∧ s = ⟨[.own d.pv, .own w.pv, .val (.str (kx k)), NS false (nr.map fun q => .tup [.str q.1, kv q.2]), .own (.dct (mks m) (mvs m)), s5, s6, .un, .un], sto⟩ ∧ m.length ≤ done.length ∧ ∀ y ∈ m.map (·.1), y ∈ nr.map (·.1)) ⟨[], nr, [], _, _, owH_un, rfl, rfl, rfl, Nat.le_refl _, fun y hy => nomatch hy⟩ ?_ ?_
  · rintro s ⟨done, rest, m, s5, s6, h5, e0, ex, rfl, hm, hsub⟩
    cases rest with
    | cons _ _ => cases ex
    | nil =>
    rw [List.append_nil] at e0
    subst e0
    push_cast [itemsOf_dct, mks_pv]
    refine lc_fm (fun q => decide (lkM m q.1 = some k)) (fun q => .str q.1) (by simp only [ownSlots_cons, ownSlots_nil, List.getElem?_cons_succ, List.getElem?_cons_zero, h5, Bool.or_false]) (by unfold szL; omega) (fun q hq => ?_) ?_
    · have hs := lkM_mem hq
      obtain ⟨j, hj⟩ := Option.isSome_iff_exists.mp hs
      have e1 : lkD (mks m) (mvs m) (.inr ⟨q.1.toArray⟩) = some (.str (kx j)) := by rw [lk_mks, hj]; rfl
      push_cast [e1, kv_eqk]
      rw [hj]
      exact ⟨fun e => by rw [e], fun e => decide_eq_false fun z => e (Option.some.inj z)⟩
    · rw [show List.map (fun q : List Nat × Bool => PV.str q.fst) (List.filter (fun q => decide (lkM m q.fst = some k)) m) = ((List.filter (fun q => decide (lkM m q.fst = some k)) m).map (·.1)).map PV.str from by rw [List.map_map]; rfl]
      have hmem : ∀ x ∈ (List.filter (fun q => decide (lkM m q.fst = some k)) m).map (·.1), x ∈ nr.map (·.1) := fun x hx' => by
        obtain ⟨y, hy, rfl⟩ := List.mem_map.mp hx'
        exact hsub _ (List.mem_map_of_mem (List.mem_filter.mp hy).1)
      have hlen : ((List.filter (fun q => decide (lkM m q.fst = some k)) m).map (·.1)).length ≤ 100000 := by
        rw [List.length_map]
        have := List.length_filter_le (fun q : List Nat × Bool => decide (lkM m q.fst = some k)) m
        omega
      generalize (List.filter (fun q => decide (lkM m q.fst = some k)) m).map (·.1) = xs at hmem hlen ⊢
      have htx : ∀ x ∈ xs, txOk x = true := fun x h => (hx x (hmem x h)).tx
      push_cast []
      refine wc_place hP fun p a hp => ?_
      push_cast [-TP.wS_ite]
      refine wS_split (fun s => ∃ d1 : Dr, s = ⟨[.own d1.pv, .own (w.to a w.w2).pv, .val (.str (kx k)), NS false (nrv nr), .val (.dct (mks m) (mvs m)), s5, s6, .own (.lst (xs.map PV.str)), .val (plv p)], sto⟩) ?_ ?_
      · push_cast [pm_neNil htx]
        refine ⟨fun hne => ?_, fun _ => ?_⟩
        · refine wc_draw hD (by omega) (wd_lit (by omega)) fun r1 d1 h0 h1 => ?_
          push_cast []
          refine ⟨fun hr => ?_, fun _ => ?_⟩
          · have hl1 : 1 ≤ xs.length := by
              cases xs with
              | nil => exact absurd rfl hne
              | cons _ _ => simp
            push_cast [List.length_map]
            refine wc_draw hD (by omega) (wd_lit (by omega)) fun r2 d2 g0 g1 => ?_
            obtain ⟨i, rfl⟩ := Int.eq_ofNat_of_zero_le g0
            have hi : i < xs.length := by omega
            have e2 : L2.atI (xs.map PV.str) (i : Int) = some (.str xs[i]) := by rw [atI_nat (by simpa using hi)]; simp
            push_cast [e2]
            exact q d2 a (.use p xs[i] []) (.inr (.inr ⟨p, _, rfl, hp, hmem _ (List.getElem_mem hi)⟩))
          · exact ⟨d1, rfl⟩
        · exact ⟨d, rfl⟩
      · rintro s ⟨d1, rfl⟩
        push_cast [kv_eql]
        rw [BR_b]
        refine ⟨fun hk => ?_, fun hk => ?_⟩
        · push_cast []
          exact q d1 a (.nil p) (.inr (.inl ⟨p, rfl, hp⟩))
        · push_cast []
          refine wc_draw hD (by omega) (wd_lit (by omega)) fun r2 d2 g0 g1 => ?_
          push_cast []
          have fin : ∀ v : Int, 0 ≤ v → v ≤ 999999999 → Q (.sh (.tup [.str [110, 117, 109], plv p, .int v])) [.own d2.pv, .own (w.to a w.w2).pv, .val (.str (kx k)), NS false (nrv nr)] sto := fun v h0 h1 => q d2 a (.num p v) (.inl ⟨p, v, rfl, hp, h0, h1⟩)
          simp only [nrv] at fin
          have hc : r2 = 0 ∨ r2 = 1 ∨ r2 = 2 ∨ r2 = 3 ∨ r2 = 4 ∨ r2 = 5 ∨ r2 = 6 ∨ r2 = 7 := by omega
          rcases hc with rfl | rfl | rfl | rfl | rfl | rfl | rfl | rfl
          all_goals
            push_cast []
            exact fin _ (by omega) (by omega)
  · rintro x xs s ⟨done, rest, m, s5, s6, h5, e0, ex, rfl, hm, hsub⟩
    cases rest with
    | nil => cases ex
    | cons q rest =>
    cases ex
    have hlen : m.length ≤ 100000 := by
      have := congrArg List.length e0
      simp at this
      omega
    have e1 : (mks m).length < szL := by simp [mks]; unfold szL; omega
    push_cast [kv, set_dct e1]
    refine ⟨done ++ [q], rest, putM m q.1 q.2, _, _, owH_val, by rw [e0]; simp, rfl, by rw [← put_mks]; rfl, ?_, fun y hy => ?_⟩
    · have := @put_len m q.1 q.2
      simp; omega
    · rcases put_mem hy with z | z
      · rw [z, e0]; simp
      · exact hsub y z
/-! the way and heads are read -/
theorem pm_w2 {w : Wy} : primSem .idx [w.pv, .int 2] = some (.sh (.int w.w2)) := rfl
theorem pm_w3 {w : Wy} : primSem .idx [w.pv, .int 3] = some (.sh (.lst (w.nms.map PV.str))) := rfl
theorem pm_w4 {w : Wy} : primSem .idx [w.pv, .int 4] = some (.sh (.lst (w.hds.map Hd.pv))) := rfl
theorem pm_w5 {w : Wy} : primSem .idx [w.pv, .int 5] = some (.sh (.int w.w5)) := rfl
theorem set_w2 {w : Wy} {v : Int} : setSem w.pv (.int 2) (.int v) = some (w.to w.w0 v).pv := rfl
theorem pm_h0 {h : Hd} : primSem .idx [h.pv, .int 0] = some (.sh (.str h.nm)) := rfl
theorem pm_h1 {h : Hd} : primSem .idx [h.pv, .int 1] = some (.sh (.lst (h.ps.map kv))) := rfl
theorem pm_h2 {h : Hd} : primSem .idx [h.pv, .int 2] = some (.sh (.str (kx h.k))) := rfl
theorem boxC_hdv {sto : List SO} {h : Hd} : boxC sto h.pv = h.pv := rfl
end TP

set_option Elab.async false
set_option linter.all false
set_option maxRecDepth 100000
set_option maxHeartbeats 8000000
set_option exponentiation.threshold 20000
/-! Kg1: trees that are drawn. -/
namespace TP
open PySem
local macro_rules
  | `(tactic| push_cast [$xs,*]) => `(tactic| simp (maxSteps := 2000000) -implicitDefEqProofs -dsimp (disch := first | assumption | (with_reducible refine TP.big_lit ?_; omega) | decide | omega | (simp only [List.length_cons, List.length_nil, List.length_map, List.length_append, TP.szL]; omega)) only [TP.oK_some, TP.varK_val, TP.varK_own, TP.BR_t, TP.BR_f, TP.BR_d, ↓TP.wE_con, ↓TP.wE_dead, ↓TP.wEs_nil, ↓TP.wEs_cons, ↓TP.wE_prim1, ↓TP.wE_prim2, TP.strK_s, ↓TP.wE_sm, TP.dixK_s, ↓TP.wE_didx, ↓TP.wE_dnew, TP.dctK_d, TP.DG_s, ↓TP.wE_dget, TP.TS_bl, ↓TP.wE_not, ↓TP.wE_and1, ↓TP.wE_and, ↓TP.wE_or1, ↓TP.wE_or, ↓TP.wE_ite, ↓TP.wE_chain, ↓TP.KPs_nil, ↓TP.wE_disp, TP.keep_sh, TP.keep_fr, TP.keep_hd, TP.keepH_val, TP.keepH_own, ↓TP.wE_tup, ↓TP.wE_list, ↓TP.wE_call, ↓TP.wE_callK, TP.gloK_v, ↓TP.wE_callL, ↓TP.wE_mut, ↓TP.wE_slice, ↓TP.wE_lc, ↓TP.wE_lc2, TP.itK_s, ↓TP.wI_of, TP.rgK_i, ↓TP.wI_range1, TP.rg2K_i, ↓TP.wI_range2, ↓TP.wI_enum, ↓TP.wI_rev, ↓TP.wI_zip, ↓TP.nxt_nx, ↓TP.nxt_br, ↓TP.nxt_ct, ↓TP.nxt_rt, ↓TP.lpQ_nx, ↓TP.lpQ_ct, ↓TP.lpQ_br, ↓TP.lpQ_rt, TP.BT_nm, TP.BT_tup, TP.BT_lst, TP.BTs_nil, TP.BTs_cons, TP.AG_sh, TP.AG_fr, TP.AG_frT, TP.AG_hd, TP.RT_sh, TP.RT_fr, TP.RT_hd, TP.rtH_val, TP.rtH_own, TP.rtH_par, ↓TP.wS_nil, ↓TP.wS_asg, ↓TP.wS_ret, ↓TP.wS_retN, ↓TP.wS_pass, ↓TP.wS_brk, ↓TP.wS_cont, ↓TP.wS_dead, ↓TP.wS_expr, ↓TP.wS_apc, ↓TP.wS_apn, ↓TP.wS_ite, ↓TP.wS_setix, ↓TP.wS_augU, TP.AU_v, ↓TP.wS_par, ↓TP.wS_asgR, ↓TP.wS_for, ↓TP.wS_while, ↓TP.dfQ_nx, ↓TP.dfQ_rt, ↓TP.wE_var', TP.cont_sh, TP.cont_fr, TP.cont_hd, TP.contH_val, TP.contH_own, TP.boxC_nl, TP.boxC_non, TP.boxC_bl, TP.boxC_int, TP.boxC_str, TP.boxC_tup, TP.boxC_lst, TP.boxC_rol, TP.boxC_dct, TP.boxC_ty, TP.boxC_glo, TP.putBack_hd, TP.pbH_own, TP.argsOf_nil, TP.argsOf_sh, TP.argsOf_fr, TP.argsOf_hd, TP.argH_val, TP.argH_own, TP.backE_nil, TP.backE_sh, TP.backE_fr, TP.backE_own, TP.backE_val, TP.permR_nil, TP.permR_inl, TP.permR_inr, TP.finA_nil, TP.finA_cons, TP.frzA_nil, TP.frzA_cons, TP.frz1_eq, TP.frH_own, TP.frH_val, TP.itemsOf_lst, TP.itemsOf_tup, TP.itemsOf_rol, TP.itemsOf_str, TP.itemsOf_dct, TP.enumOf_lst, TP.revOf_lst, TP.revOf_tup, TP.zipOf_lst, TP.zipOf_tup, TP.P1_s, TP.P2_s, TP.SM_s, TP.MU_s, TP.SX_s, TP.C2_s, TP.C2k_t, TP.C2k_f, TP.C2k_d, TP.BR_nd, TP.pm_add, TP.pm_sub, TP.pm_neg, TP.pm_addS, TP.pm_addT, TP.pm_addL, TP.pm_mul, TP.pm_fdiv, TP.pm_mod, TP.pm_pow, TP.pm_lt, TP.pm_le, TP.pm_gt, TP.pm_ge, TP.pm_isN, TP.pm_notN, TP.pm_isB, TP.pm_notB, TP.pm_idx_lst, TP.pm_len_lst, TP.pm_idx_tup, TP.pm_len_tup, TP.pm_idx_rol, TP.pm_len_rol, TP.pm_idx_str, TP.pm_len_str, TP.pm_abs, TP.pm_min2, TP.pm_max2, TP.pm_toIntI, TP.pm_toIntB, TP.pm_toTupL, TP.pm_toTupT, TP.pm_toList_lst, TP.pm_toList_tup, TP.pm_toList_rol, TP.pm_all, TP.pm_maxD, TP.pm_zipL, TP.pm_any, TP.pm_sum, TP.pm_revs, TP.pm_toStrI, TP.pm_joinL, TP.jnK_s, TP.pm_split, TP.pm_mulS, TP.pm_mulL, TP.pm_mulT, TP.pm_isinT, TP.pm_isinL, TP.pm_notinT, TP.pm_notinL, TP.pm_isinS, TP.pm_notinS, TP.pm_isi_non_int, TP.pm_isi_non_bool, TP.pm_isi_non_str, TP.pm_isi_non_tuple, TP.pm_isi_non_list, TP.pm_isi_bl_int, TP.pm_isi_bl_bool, TP.pm_isi_bl_str, TP.pm_isi_bl_tuple, TP.pm_isi_bl_list, TP.pm_isi_int_int, TP.pm_isi_int_bool, TP.pm_isi_int_str, TP.pm_isi_int_tuple, TP.pm_isi_int_list, TP.pm_isi_str_int, TP.pm_isi_str_bool, TP.pm_isi_str_str, TP.pm_isi_str_tuple, TP.pm_isi_str_list, TP.pm_isi_tup_int, TP.pm_isi_tup_bool, TP.pm_isi_tup_str, TP.pm_isi_tup_tuple, TP.pm_isi_tup_list, TP.pm_isi_lst_int, TP.pm_isi_lst_bool, TP.pm_isi_lst_str, TP.pm_isi_lst_tuple, TP.pm_isi_lst_list, TP.mu_app, TP.mu_clear, TP.mu_reverse, TP.mutTy_s, TP.set_lst, TP.key_int, TP.key_str, TP.pm_idx_dct, TP.pm_isin_dct, TP.pm_notin_dct, TP.pm_len_dct, TP.set_dct, TP.PD_s, TP.pairs_nil, TP.pairs_str, TP.pairs_int, TP.aug_add, TP.aug_sub, TP.sl_lst, TP.sl_tup, TP.sl_str, TP.bnd_abs, TP.bnd_int, TP.isAbs_non, TP.isAbs_int, TP.isAbs_var, TP.isAbs_prim, TP.isAbs_call, TP.bools_map, TP.ints_map, TP.strs_map, TP.ixN_0, TP.ixN_1, TP.atI_c0, TP.atI_nat, TP.atI_c1, TP.atI_c2, TP.atI_c3, TP.atI_c4, TP.atI_c5, TP.atI_c6, TP.atI_c7, TP.pm_eqI, TP.pm_neI, TP.tx_ok, TP.pm_eqS, TP.pm_neS, TP.any_str, TP.all_flat_str, TP.pm_isinT_s, TP.pm_notinT_s, TP.pm_isinL_s, TP.pm_notinL_s, TP.WC_ok, ↓TP.KPs_cons, List.getElem?_cons_succ, List.getElem?_cons_zero, List.set_cons_succ, List.set_cons_zero, List.cons_append, List.nil_append, List.length_cons, List.length_nil, Option.map_some, Option.bind_some, List.append_nil, List.getD_cons_zero, List.getD_cons_succ, List.replicate_succ, List.replicate_zero, TP.wipeS_nil, TP.wipeS_cons, TP.restS_nil, TP.restS_cons, TP.ownSlots_nil, TP.ownSlots_cons, TP.owH_val, TP.owH_un, Bool.or_false, Bool.false_or, Bool.or_true, Bool.true_or, Bool.and_true, Bool.true_and, Bool.and_false, Bool.false_and, Bool.not_true, Bool.not_false, List.not_mem_nil, if_true, if_false, ite_true, ite_false, and_true, true_and, forall_const, true_implies, false_implies, not_true, not_false, decide_true, decide_false, decide_eq_true_eq, Bool.false_eq_true, Bool.true_eq_false, and_self, not_true_eq_false, not_false_eq_true, ↓TP.CS_nil, ↓TP.CS_one, Int.reduceAdd, Int.reduceSub, Int.reduceMul, Int.reduceNeg, Int.reduceLT, Int.reduceLE, Int.reduceToNat, Int.reducePow, Nat.reduceAdd, Nat.reduceSub, Nat.reduceEqDiff, Int.reduceEq, Int.reduceFDiv, Int.reduceFMod, List.cons.injEq, reduceCtorEq, List.mem_cons, or_false, or_true, false_or, true_or, false_and, and_false, ne_eq, TP.varK_ns, TP.cont_rn, TP.contN_ns, TP.argsOf_rn, TP.argN_ns, TP.backE_rn, TP.bkN_ns, TP.keep_rn, TP.keepN_ns, TP.owH_ns, TP.pm_w2, TP.pm_w3, TP.pm_w4, TP.pm_w5, TP.set_w2, TP.pm_h0, TP.pm_h1, TP.pm_h2, TP.boxC_hdv, TP.kv_eqn, TP.kv_eql, TP.kv_eqk, TP.pm_isinL_s, TP.pm_notinL_s, $xs,*])

def gOp : Fd := ⟨5, 9, [], [.asg (.nm 5) (.call "_law_place" [(.var 1)]), .asg (.nm 6) (.con (.str [58])), .asg (.nm 7) (.list [(.con (.str [110])), (.con (.str [108]))]), .ite (.prim .eq [(.var 2), (.con (.str [110]))]) [.asg (.nm 6) (.prim .idx [(.list [(.con (.str [43])), (.con (.str [45])), (.con (.str [42])), (.con (.str [100, 105, 118])), (.con (.str [109, 111, 100])), (.con (.str [61, 61])), (.con (.str [60])), (.con (.str [43]))]), (.call "_law_draw" [(.var 0), (.con (.int (8)))])]), .asg (.nm 7) (.list [(.con (.str [110])), (.con (.str [110]))]), .ite (.and [(.prim .eq [(.var 6), (.con (.str [61, 61]))]), (.prim .eq [(.call "_law_draw" [(.var 0), (.con (.int (2)))]), (.con (.int (0)))])]) [.asg (.nm 7) (.list [(.con (.str [108])), (.con (.str [108]))])] []] [], .asg (.nm 8) (.call "_law_tree" [(.var 0), (.var 1), (.prim .idx [(.var 7), (.con (.int (0)))]), (.var 3), (.prim .sub [(.var 4), (.con (.int (1)))])]), .ret (.tup [(.con (.str [111, 112])), (.var 5), (.var 6), (.var 8), (.call "_law_tree" [(.var 0), (.var 1), (.prim .idx [(.var 7), (.con (.int (1)))]), (.var 3), (.prim .sub [(.var 4), (.con (.int (1)))])])])]⟩
def gCall : Fd := ⟨5, 11, [], [.asg (.nm 5) (.lc (.var 9) (.tp [(.nm 9), (.nm 10)]) (.of (.var 3)) [] [9, 10]), .asg (.nm 6) (.lc (.var 7) (.nm 7) (.of (.prim .idx [(.var 1), (.con (.int (4)))])) [(.and [(.prim .eq [(.prim .idx [(.var 7), (.con (.int (2)))]), (.var 2)]), (.prim .notin [(.prim .idx [(.var 7), (.con (.int (0)))]), (.var 5)])])] [7]), .ite (.prim .eq [(.var 6), (.list [])]) [.ret (.call "_law_leaf" [(.var 0), (.var 1), (.var 2), (.var 3)])] [], .asg (.nm 7) (.prim .idx [(.var 6), (.call "_law_draw" [(.var 0), (.prim .len [(.var 6)])])]), .asg (.nm 8) (.call "_law_place" [(.var 1)]), .ret (.tup [(.con (.str [117, 115, 101])), (.var 8), (.prim .idx [(.var 7), (.con (.int (0)))]), (.prim .toTup [(.lc (.call "_law_tree" [(.var 0), (.var 1), (.var 10), (.var 3), (.prim .sub [(.var 4), (.con (.int (1)))])]) (.nm 10) (.of (.prim .idx [(.var 7), (.con (.int (1)))])) [] [10])])])]⟩
def gTree : Fd := ⟨5, 17, [2], [.setix (.var 1) (.con (.int (2))) (.prim .sub [(.prim .idx [(.var 1), (.con (.int (2)))]), (.con (.int (1)))]), .ite (.and [(.prim .gt [(.prim .idx [(.var 1), (.con (.int (5)))]), (.con (.int (0)))]), (.prim .eq [(.call "_law_draw" [(.var 0), (.prim .idx [(.var 1), (.con (.int (5)))])]), (.con (.int (0)))])]) [.asg (.nm 2) (.prim .idx [(.list [(.con (.str [110])), (.con (.str [108]))]), (.prim .toInt [(.prim .eq [(.var 2), (.con (.str [110]))])])])] [], .asg (.nm 5) (.call "_law_draw" [(.var 0), (.con (.int (10)))]), .ite (.or [(.prim .lt [(.var 4), (.con (.int (2)))]), (.prim .lt [(.prim .idx [(.var 1), (.con (.int (2)))]), (.con (.int (1)))]), (.prim .eq [(.var 5), (.con (.int (0)))])]) [.ret (.call "_law_leaf" [(.var 0), (.var 1), (.var 2), (.var 3)])] [], .ite (.prim .lt [(.var 5), (.con (.int (4)))]) [.ret (.call "_law_op" [(.var 0), (.var 1), (.var 2), (.var 3), (.var 4)])] [], .ite (.prim .lt [(.var 5), (.con (.int (6)))]) [.ret (.call "_law_call" [(.var 0), (.var 1), (.var 2), (.var 3), (.var 4)])] [], .asg (.nm 6) (.call "_law_place" [(.var 1)]), .ite (.prim .eq [(.var 5), (.con (.int (6)))]) [.asg (.nm 7) (.call "_law_tree" [(.var 0), (.var 1), (.con (.str [110])), (.var 3), (.prim .sub [(.var 4), (.con (.int (1)))])]), .asg (.nm 8) (.call "_law_tree" [(.var 0), (.var 1), (.var 2), (.var 3), (.prim .sub [(.var 4), (.con (.int (1)))])]), .ret (.tup [(.con (.str [105, 102])), (.var 6), (.var 7), (.var 8), (.call "_law_tree" [(.var 0), (.var 1), (.var 2), (.var 3), (.prim .sub [(.var 4), (.con (.int (1)))])])])] [], .asg (.nm 9) (.call "_law_draw" [(.var 0), (.prim .len [(.prim .idx [(.var 1), (.con (.int (3)))])])]), .asg (.nm 10) (.prim .idx [(.prim .idx [(.var 1), (.con (.int (3)))]), (.var 9)]), .ite (.prim .eq [(.var 5), (.con (.int (7)))]) [.asg (.nm 11) (.prim .idx [(.list [(.con (.str [110])), (.con (.str [108]))]), (.call "_law_draw" [(.var 0), (.con (.int (2)))])]), .asg (.nm 12) (.call "_law_tree" [(.var 0), (.var 1), (.var 11), (.var 3), (.prim .sub [(.var 4), (.con (.int (1)))])]), .ret (.tup [(.con (.str [108, 101, 116])), (.var 6), (.var 10), (.var 12), (.call "_law_tree" [(.var 0), (.var 1), (.var 2), (.prim .add [(.var 3), (.list [(.tup [(.var 10), (.var 11)])])]), (.prim .sub [(.var 4), (.con (.int (1)))])])])] [], .asg (.nm 13) (.prim .idx [(.prim .idx [(.var 1), (.con (.int (3)))]), (.prim .mod [(.prim .add [(.prim .add [(.var 9), (.con (.int (1)))]), (.call "_law_draw" [(.var 0), (.prim .sub [(.prim .len [(.prim .idx [(.var 1), (.con (.int (3)))])]), (.con (.int (1)))])])]), (.prim .len [(.prim .idx [(.var 1), (.con (.int (3)))])])])]), .asg (.nm 14) (.call "_law_tree" [(.var 0), (.var 1), (.con (.str [108])), (.var 3), (.prim .sub [(.var 4), (.con (.int (1)))])]), .asg (.nm 15) (.call "_law_tree" [(.var 0), (.var 1), (.var 2), (.var 3), (.prim .sub [(.var 4), (.con (.int (1)))])]), .asg (.nm 16) (.call "_law_tree" [(.var 0), (.var 1), (.var 2), (.prim .add [(.var 3), (.list [(.tup [(.var 10), (.con (.str [110]))]), (.tup [(.var 13), (.con (.str [108]))])])]), (.prim .sub [(.var 4), (.con (.int (1)))])]), .ret (.tup [(.con (.str [99, 97, 115, 101])), (.var 6), (.var 14), (.var 15), (.var 10), (.var 13), (.var 16)])]⟩
/-- what is fixed in a program -/
structure GCx (tab : Tab) (nms : List (List Nat)) (hds : List Hd) : Prop where
  draw : tab.lookup ("_law_draw" : Str) = some dDraw
  place : tab.lookup ("_law_place" : Str) = some gPlace
  leaf : tab.lookup ("_law_leaf" : Str) = some gLeaf
  op : tab.lookup ("_law_op" : Str) = some gOp
  call : tab.lookup ("_law_call" : Str) = some gCall
  tree : tab.lookup ("_law_tree" : Str) = some gTree
  nm : NmOk nms
  hd : ∀ h ∈ hds, h.nm ∈ nms ∧ h.ps.length ≤ 3
structure GW (nms : List (List Nat)) (hds : List Hd) (w : Wy) : Prop where
  nm : w.nms = nms
  hd : ∀ h ∈ w.hds, h ∈ hds
  hl : w.hds.length ≤ 8
  w5 : w.w5 ≤ 1000
theorem GW.to {nms : List (List Nat)} {hds : List Hd} {w : Wy} (h : GW nms hds w) (a c : Int) : GW nms hds (w.to a c) := ⟨h.nm, h.hd, h.hl, h.w5⟩
def TSp (tab : Tab) (nms : List (List Nat)) (hds : List Hd) (k : Nat) : Prop := ∀ {n : Nat} {d : Dr} {w : Wy} {want b : Bool} {nr : Nr} {sto : List SO} {Q : RV → List Sl → List SO → Prop} {X : PV → List Sl → List SO → Prop}, 2 * k + 3 ≤ n → GW nms hds w → (∀ x ∈ nr.map (·.1), x ∈ nms) → nr.length + 2 * k ≤ 1000 →
  (∀ (d' : Dr) (b' : Bool) (a c : Int) (t : Tr), t.ok nms hds (nr.map (·.1)) → t.dep ≤ k → (t.inn : Int) + max 0 c ≤ max 0 w.w2 → Q (.sh t.pv) [.own d'.pv, .own (w.to a c).pv, .val (.str (kx want)), NS b' (nrv nr), .val (.int k)] sto) →
  WC (callF tab n "_law_tree" [.own d.pv, .own w.pv, .val (.str (kx want)), NS b (nrv nr), .val (.int k)] sto) Q X
theorem kx_n : [110] = kx false := rfl
theorem kx_l : [108] = kx true := rfl
theorem wc_op {tab : Tab} {nms : List (List Nat)} {hds : List Hd} (C : GCx tab nms hds) {k : Nat} (ih : TSp tab nms hds k) {n : Nat} {d : Dr} {w : Wy} {want b : Bool} {nr : Nr} {sto : List SO} {Q : RV → List Sl → List SO → Prop} {X : PV → List Sl → List SO → Prop} (hn : 2 * k + 4 ≤ n) (gw : GW nms hds w) (hx : ∀ x ∈ nr.map (·.1), x ∈ nms) (hl : nr.length + 2 * k ≤ 1000)
    (q : ∀ (d' : Dr) (b' : Bool) (a c : Int) (t : Tr), t.ok nms hds (nr.map (·.1)) → t.dep ≤ k + 1 → (t.inn : Int) + max 0 c ≤ 1 + max 0 w.w2 → Q (.sh t.pv) [.own d'.pv, .own (w.to a c).pv, .val (.str (kx want)), NS b' (nrv nr), .val (.int ((k + 1 : Nat) : Int))] sto) :
    WC (callF tab n "_law_op" [.own d.pv, .own w.pv, .val (.str (kx want)), NS b (nrv nr), .val (.int ((k + 1 : Nat) : Int))] sto) Q X := by
  obtain ⟨m, rfl⟩ : ∃ m, n = m + 2 := ⟨n - 2, by omega⟩
  refine wc_def C.op ⟨rfl, by decide⟩ ?_
  simp only [gOp]
  push_cast []
  refine wc_place C.place fun p a hp => ?_
  push_cast [-TP.wS_ite]
  refine wS_split (fun s => ∃ (d1 : Dr) (sg : List Nat) (k1 k2 : Bool), sg ∈ opsL ∧ s = ⟨[.own d1.pv, .own (w.to a w.w2).pv, .val (.str (kx want)), NS b (nrv nr), .val (.int ((k + 1 : Nat) : Int)), .val (plv p), .val (.str sg), .own (.lst [.str (kx k1), .str (kx k2)]), .un], sto⟩) ?_ ?_
  · push_cast [kv_eqn]
    rw [BR_b]
    refine ⟨fun hw => ?_, fun hw => ?_⟩
    · push_cast []
      refine wc_draw C.draw (by omega) (wd_lit (by omega)) fun r2 d2 g0 g1 => ?_
      obtain ⟨sg, hs, e1⟩ : ∃ sg, sg ∈ opsL ∧ L2.atI [PV.str [43], .str [45], .str [42], .str [100, 105, 118], .str [109, 111, 100], .str [61, 61], .str [60], .str [43]] r2 = some (.str sg) := by
        have hc : r2 = 0 ∨ r2 = 1 ∨ r2 = 2 ∨ r2 = 3 ∨ r2 = 4 ∨ r2 = 5 ∨ r2 = 6 ∨ r2 = 7 := by omega
        rcases hc with rfl | rfl | rfl | rfl | rfl | rfl | rfl | rfl
        all_goals exact ⟨_, by decide, rfl⟩
      have htx : txOk sg = true := by
        have : ∀ x ∈ opsL, txOk x = true := by decide
        exact this sg hs
      push_cast [e1, pm_eqS htx (rfl : txOk [61, 61] = true)]
      refine ⟨fun he => ?_, fun he => ?_⟩
      · refine wc_draw C.draw (by omega) (wd_lit (by omega)) fun r3 d3 g2 g3 => ?_
        push_cast []
        exact ⟨fun _ => ⟨d3, sg, true, true, hs, rfl⟩, fun _ => ⟨d3, sg, false, false, hs, rfl⟩⟩
      · exact ⟨d2, sg, false, false, hs, rfl⟩
    · push_cast []
      exact ⟨d, _, false, true, (by decide : [58] ∈ opsL), rfl⟩
  · rintro s ⟨d1, sg, k1, k2, hs, rfl⟩
    have hk1 : ((k + 1 : Nat) : Int) - 1 = (k : Int) := by omega
    push_cast [varK_ns, argsOf_rn, argN_ns, hk1]
    refine ih (by omega) (gw.to _ _) hx (by omega) fun d2 b2 a2 c2 t1 o1 p1 i1 => ?_
    push_cast [varK_ns, argsOf_rn, argN_ns, backE_rn, bkN_ns, hk1]
    refine ih (by omega) ((gw.to _ _).to _ _) hx (by omega) fun d3 b3 a3 c3 t2 o2 p2 i2 => ?_
    push_cast [backE_rn, bkN_ns]
    refine q d3 _ a3 c3 (.op p sg t1 t2) ?_ ?_ ?_
    · simp only [Tr.ok]
      exact ⟨hp, hs, o1, o2⟩
    · simp only [Tr.dep]; omega
    · simp only [Tr.inn, Wy.to] at i1 i2 ⊢
      omega
/-! heads -/
def hdOkB (h : Hd) : Prop := nameOk h.nm
theorem kv_deeps : ∀ {ps : List Bool}, deeps (ps.map kv) = some 0
  | [] => rfl
  | p :: ps => by
    have h1 : (kv p).deep = some 0 := by cases p <;> rfl
    rw [List.map_cons, deeps, h1, kv_deeps]; rfl
theorem hd_deep {h : Hd} (hn : nameOk h.nm) : h.pv.deep = some 2 := by
  have h1 : (PV.str h.nm).deep = some 0 := by
    have := hn.tx
    unfold txOk at this
    simp only [PV.deep, this, if_true]
  have h2 : (kv h.k).deep = some 0 := by cases h.k <;> rfl
  simp only [Hd.pv, PV.deep, deeps, kv_deeps] at h1 h2 ⊢
  rw [h1, h2]; rfl
theorem hds_deeps : ∀ {hs : List Hd}, (∀ h ∈ hs, nameOk h.nm) → ∃ n, deeps (hs.map Hd.pv) = some n ∧ n ≤ 2
  | [], _ => ⟨0, rfl, by omega⟩
  | h :: hs, hh => by
    obtain ⟨n, e, hn⟩ := hds_deeps (hs := hs) fun x hx => hh x (List.mem_cons_of_mem _ hx)
    rw [List.map_cons, deeps, hd_deep (hh h (List.mem_cons_self ..)), e]
    exact ⟨_, rfl, by omega⟩
theorem hds_data {hs : List Hd} (hh : ∀ h ∈ hs, nameOk h.nm) : dataOk (.lst (hs.map Hd.pv)) = true := by
  obtain ⟨n, e, hn⟩ := hds_deeps hh
  simp only [dataOk, PV.deep, e]
  exact decide_eq_true (by show n + 1 ≤ 60; omega)
theorem pm_eqHds {hs : List Hd} (hh : ∀ h ∈ hs, nameOk h.nm) : primSem .eq [.lst (hs.map Hd.pv), .lst []] = some (.sh (.bl (decide (hs = [])))) := by
  rw [pm_eq (hds_data hh) rfl]
  cases hs with
  | nil => rfl
  | cons x xs => rfl
theorem oksT_app {nms : List (List Nat)} {hds : List Hd} {near : List (List Nat)} {t : Tr} : ∀ {ts : List Tr}, oksT nms hds near (ts ++ [t]) ↔ oksT nms hds near ts ∧ t.ok nms hds near
  | [] => by simp [oksT]
  | x :: ts => by simp only [List.cons_append, oksT, oksT_app (ts := ts), and_assoc]
theorem depsT_app {t : Tr} : ∀ {ts : List Tr}, depsT (ts ++ [t]) = max (depsT ts) t.dep
  | [] => by simp [depsT]
  | x :: ts => by simp only [List.cons_append, depsT, depsT_app (ts := ts)]; omega
theorem innsT_app {t : Tr} : ∀ {ts : List Tr}, innsT (ts ++ [t]) = innsT ts + t.inn
  | [] => by simp [innsT]
  | x :: ts => by simp only [List.cons_append, innsT, innsT_app (ts := ts)]; omega
theorem wc_call {tab : Tab} {nms : List (List Nat)} {hds : List Hd} (C : GCx tab nms hds) {k : Nat} (ih : TSp tab nms hds k) {n : Nat} {d : Dr} {w : Wy} {want b : Bool} {nr : Nr} {sto : List SO} {Q : RV → List Sl → List SO → Prop} {X : PV → List Sl → List SO → Prop} (hk : 1 ≤ k) (hn : 2 * k + 4 ≤ n) (gw : GW nms hds w) (hx : ∀ x ∈ nr.map (·.1), x ∈ nms) (hl : nr.length + 2 * k ≤ 1000)
    (q : ∀ (d' : Dr) (b' : Bool) (a c : Int) (t : Tr), t.ok nms hds (nr.map (·.1)) → t.dep ≤ k + 1 → (t.inn : Int) + max 0 c ≤ 1 + max 0 w.w2 → Q (.sh t.pv) [.own d'.pv, .own (w.to a c).pv, .val (.str (kx want)), NS b' (nrv nr), .val (.int ((k + 1 : Nat) : Int))] sto) :
    WC (callF tab n "_law_call" [.own d.pv, .own w.pv, .val (.str (kx want)), NS b (nrv nr), .val (.int ((k + 1 : Nat) : Int))] sto) Q X := by
  obtain ⟨m, rfl⟩ : ∃ m, n = m + 3 := ⟨n - 3, by omega⟩
  have hk1 : ((k + 1 : Nat) : Int) - 1 = (k : Int) := by omega
  refine wc_def C.call ⟨rfl, by decide⟩ ?_
  simp only [gCall]
  push_cast [varK_ns, keep_rn, keepN_ns]
  refine lc_map (xs := nr) (g := fun q => .tup [.str q.1, kv q.2]) (fun q => .str q.1) (by simp only [ownSlots_cons, ownSlots_nil, List.getElem?_cons_succ, List.getElem?_cons_zero, owH_un, Bool.or_false]) (by unfold szL; omega) (fun q hq => ?_) ?_
  · push_cast []
  rw [show List.map (fun q : List Nat × Bool => PV.str q.fst) nr = (nr.map (·.1)).map PV.str from by rw [List.map_map]; rfl]
  push_cast [pm_w4]
  refine lc_fm (fun h => decide (h.k = want) && !decide (h.nm ∈ nr.map (·.1))) Hd.pv (by simp only [ownSlots_cons, ownSlots_nil, List.getElem?_cons_succ, List.getElem?_cons_zero, owH_un, Bool.or_false]) (by have := gw.hl; unfold szL; omega) (fun h hh => ?_) ?_
  · push_cast [boxC_hdv, pm_h2, pm_h0, kv_eqk, pm_notinL_s]
    exact ⟨fun e => ⟨fun e2 => by rw [decide_eq_true e, decide_eq_false e2]; rfl, fun e2 => by rw [decide_eq_true e2]; simp⟩, fun e => by rw [decide_eq_false e]; rfl⟩
  have hmem : ∀ h ∈ w.hds.filter (fun h => decide (h.k = want) && !decide (h.nm ∈ nr.map (·.1))), h ∈ hds ∧ h.nm ∉ nr.map (·.1) := fun h hh => by
    obtain ⟨h1, h2⟩ := List.mem_filter.mp hh
    simp only [Bool.and_eq_true, Bool.not_eq_true', decide_eq_false_iff_not] at h2
    exact ⟨gw.hd h h1, h2.2⟩
  have hlen : (w.hds.filter (fun h => decide (h.k = want) && !decide (h.nm ∈ nr.map (·.1)))).length ≤ 8 := Nat.le_trans (List.length_filter_le _ _) gw.hl
  generalize w.hds.filter (fun h => decide (h.k = want) && !decide (h.nm ∈ nr.map (·.1))) = fs at hmem hlen ⊢
  push_cast [pm_eqHds (fun h hh => C.nm.ok _ (C.hd h (hmem h hh).1).1)]
  refine ⟨fun hf => ?_, fun hf => ?_⟩
  · refine wc_leaf C.draw C.place C.leaf (fun x h => C.nm.ok x (hx x h)) (by omega) fun d' a t lf => ?_
    have ot : t.ok nms hds (nr.map (·.1)) := lf.ok fun _ h => h
    have dt := lf.dep
    have it := lf.inn
    push_cast [backE_rn, bkN_ns]
    exact q d' false a w.w2 t ot (by omega) (by omega)
  · have hl1 : 1 ≤ fs.length := by
      cases fs with
      | nil => exact absurd rfl hf
      | cons _ _ => simp
    push_cast [List.length_map]
    rw [List.length_map]
    refine wc_draw C.draw (by omega) (wd_lit (by omega)) fun r2 d2 g0 g1 => ?_
    obtain ⟨i, rfl⟩ := Int.eq_ofNat_of_zero_le g0
    have hi : i < fs.length := by omega
    have e2 : L2.atI (fs.map Hd.pv) (i : Int) = some fs[i].pv := by rw [atI_nat (by simpa using hi)]; simp
    push_cast [e2]
    refine wc_place C.place fun p a hp => ?_
    obtain ⟨m1, m2⟩ := hmem _ (List.getElem_mem hi)
    generalize fs[i] = h at m1 m2 ⊢
    push_cast [boxC_hdv, pm_h0, pm_h1]
    refine lc_inv (fun rest acc s => ∃ (done rest' : List Bool) (ts : List Tr) (d1 : Dr) (b1 : Bool) (a1 c1 : Int) (s10 : Sl), h.ps = done ++ rest' ∧ rest = rest'.map kv ∧ acc = ts.map Tr.pv ∧ ts.length = done.length ∧ oksT nms hds (nr.map (·.1)) ts ∧ depsT ts ≤ k ∧ (innsT ts : Int) + max 0 c1 ≤ max 0 w.w2 ∧ owH (some s10) = false ∧
      s = ⟨[.own d1.pv, .own (w.to a1 c1).pv, .val (.str (kx want)), NS b1 (nrv nr), .val (.int ((k + 1 : Nat) : Int)), .own (.lst ((nr.map (·.1)).map PV.str)), .own (.lst (fs.map Hd.pv)), .val h.pv, .val (plv p), .un, s10], sto⟩)
      (by simp only [ownSlots_cons, ownSlots_nil, List.getElem?_cons_succ, List.getElem?_cons_zero, owH_un, Bool.or_false]) ⟨[], h.ps, [], d2, false, a, w.w2, .un, rfl, rfl, rfl, rfl, trivial, Nat.zero_le _, by simp [innsT], owH_un, rfl⟩ ?_ ?_
    · rintro x rest acc s ⟨done, rest', ts, d1, b1, a1, c1, s10, e0, ex, rfl, el, o1, p1, i1, h10, rfl⟩
      cases rest' with
      | nil => cases ex
      | cons kk rest' =>
      cases ex
      have hpl := (C.hd h m1).2
      have hdl : done.length ≤ 3 := by have := congrArg List.length e0; simp at this; omega
      refine ⟨by rw [List.length_map, el]; unfold szL; omega, ?_⟩
      push_cast [kv, hk1]
      refine ih (by omega) (gw.to _ _) hx (by omega) fun d3 b3 a3 c3 t2 o2 p2 i2 => ?_
      push_cast []
      refine ⟨done ++ [kk], rest', ts ++ [t2], d3, _, a3, c3, _, by rw [e0]; simp, rfl, by simp, by simp [el], ?_, ?_, ?_, owH_val, rfl⟩
      · exact oksT_app.mpr ⟨o1, o2⟩
      · rw [depsT_app]; omega
      · rw [innsT_app]; simp only [Wy.to] at i2; omega
    · rintro acc s ⟨done, rest', ts, d1, b1, a1, c1, s10, e0, ex, rfl, el, o1, p1, i1, h10, rfl⟩
      cases rest' with
      | cons _ _ => cases ex
      | nil =>
      rw [List.append_nil] at e0
      push_cast [boxC_hdv]
      have e3 : (Tr.use p h.nm ts).pv = .tup [.str [117, 115, 101], plv p, .str h.nm, .tup (ts.map Tr.pv)] := by rw [Tr.pv, pvsT_map]
      rw [← e3]
      refine q d1 b1 a1 c1 _ ?_ ?_ ?_
      · simp only [Tr.ok]
        exact ⟨hp, .inr ⟨m2, ⟨h, m1, rfl, by rw [e0, el]⟩, o1⟩⟩
      · simp only [Tr.dep]; omega
      · have : (Tr.use p h.nm ts).inn ≤ 1 + innsT ts := by cases ts <;> simp [Tr.inn]
        omega
theorem to_nms {w : Wy} {a c : Int} : (w.to a c).nms = w.nms := rfl
theorem to_hds {w : Wy} {a c : Int} : (w.to a c).hds = w.hds := rfl
theorem to_w5 {w : Wy} {a c : Int} : (w.to a c).w5 = w.w5 := rfl
theorem to_w2 {w : Wy} {a c : Int} : (w.to a c).w2 = c := rfl
theorem to_w0 {w : Wy} {a c : Int} : (w.to a c).w0 = a := rfl
theorem to_to {w : Wy} {a c e f : Int} : (w.to a c).to e f = w.to e f := rfl
theorem nr_app {nr : Nr} {x : List Nat} {kk : Bool} : Sl.own (.lst (nrv nr ++ [.tup [.str x, .str (kx kk)]])) = NS true (nrv (nr ++ [(x, kk)])) := by simp [NS, nrv, kv]
theorem nr_app2 {nr : Nr} {x y : List Nat} : Sl.own (.lst (nrv nr ++ [.tup [.str x, .str [110]], .tup [.str y, .str [108]]])) = NS true (nrv (nr ++ [(x, false), (y, true)])) := by simp [NS, nrv, kv, kx]
theorem wc_tree {tab : Tab} {nms : List (List Nat)} {hds : List Hd} (C : GCx tab nms hds) {k : Nat} (ih : 1 ≤ k → TSp tab nms hds k) : TSp tab nms hds (k + 1) := by
  intro n d w want b nr sto Q X hn gw hx hl q
  obtain ⟨m, rfl⟩ : ∃ m, n = m + 4 := ⟨n - 4, by omega⟩
  have hk1 : ((k + 1 : Nat) : Int) - 1 = (k : Int) := by omega
  refine wc_def C.tree ⟨rfl, by decide⟩ ?_
  simp only [gTree]
  push_cast [-TP.wS_ite]
  refine wS_split (fun s => ∃ (d1 : Dr) (want1 : Bool), s = ⟨[.own d1.pv, .own (w.to w.w0 (w.w2 - 1)).pv, .val (.str (kx want1)), NS b (nrv nr), .val (.int ((k + 1 : Nat) : Int)), .un, .un, .un, .un, .un, .un, .un, .un, .un, .un, .un, .un], sto⟩) ?_ ?_
  · push_cast [to_w5]
    refine ⟨fun h5 => ?_, fun h5 => ⟨d, want, rfl⟩⟩
    refine wc_draw C.draw (by omega) (wd_lit (by have := gw.w5; omega)) fun r2 d2 g0 g1 => ?_
    push_cast []
    refine ⟨fun h0 => ?_, fun _ => ⟨d2, want, rfl⟩⟩
    have e1 : L2.atI [PV.str [110], PV.str [108]] (if (!want) = true then 1 else 0) = some (.str (kx (!want))) := by cases want <;> rfl
    push_cast [e1]
    exact ⟨d2, !want, rfl⟩
  rintro s ⟨d1, want1, rfl⟩
  push_cast []
  refine wc_draw C.draw (by omega) (wd_lit (by omega)) fun fm d2 g0 g1 => ?_
  push_cast [-TP.wS_ite]
  have leafG : ∀ (d2 : Dr), WC (callF tab (m + 3) "_law_leaf" [.own d2.pv, .own (w.to w.w0 (w.w2 - 1)).pv, .val (.str (kx want1)), NS b (nrv nr)] sto) (fun r fin st => ∃ (d' : Dr) (b' : Bool) (a : Int) (t : Tr), t.ok nms hds (nr.map (·.1)) ∧ t.dep = 1 ∧ t.inn = 0 ∧ r = .sh t.pv ∧ fin = [.own d'.pv, .own (w.to a (w.w2 - 1)).pv, .val (.str (kx want1)), NS b' (nrv nr)] ∧ st = sto) (fun _ _ _ => False) := fun d2 =>
    wc_leaf C.draw C.place C.leaf (fun x h => C.nm.ok x (hx x h)) (by omega) fun d' a t lf => ⟨d', false, a, t, lf.ok fun _ h => h, lf.dep, lf.inn, rfl, rfl, rfl⟩
  refine wS_split (fun s => s = ⟨[.own d2.pv, .own (w.to w.w0 (w.w2 - 1)).pv, .val (.str (kx want1)), NS b (nrv nr), .val (.int ((k + 1 : Nat) : Int)), .val (.int fm), .un, .un, .un, .un, .un, .un, .un, .un, .un, .un, .un], sto⟩ ∧ 1 ≤ k ∧ 1 ≤ w.w2 - 1) ?_ ?_
  · push_cast [to_w2]
    refine ⟨fun h1 => ?_, fun h1 => ⟨fun h2 => ?_, fun h2 => ⟨fun h3 => ?_, fun h3 => ⟨by omega, by omega⟩⟩⟩⟩
    all_goals
      refine WC_mono (leafG d2) (fun r fin st => ?_) fun _ _ _ h => h.elim
      rintro ⟨d', b', a, t, ot, dt, it, rfl, rfl, rfl⟩
      push_cast []
      exact q d' _ a (w.w2 - 1) t ot (by omega) (by omega)
  rintro s ⟨rfl, hk, hw2⟩
  replace ih := @ih hk
  refine wS_split (fun s => s = ⟨[.own d2.pv, .own (w.to w.w0 (w.w2 - 1)).pv, .val (.str (kx want1)), NS b (nrv nr), .val (.int ((k + 1 : Nat) : Int)), .val (.int fm), .un, .un, .un, .un, .un, .un, .un, .un, .un, .un, .un], sto⟩) ?_ ?_
  · push_cast []
    refine ⟨fun h1 => ?_, fun h1 => trivial⟩
    · refine wc_op C ih (by omega) (gw.to _ _) hx (by omega) fun d' b' a c t ot dt it => ?_
      push_cast []
      refine q d' _ a c t ot dt ?_
      simp only [to_w2] at it
      omega
  rintro s rfl
  refine wS_split (fun s => s = ⟨[.own d2.pv, .own (w.to w.w0 (w.w2 - 1)).pv, .val (.str (kx want1)), NS b (nrv nr), .val (.int ((k + 1 : Nat) : Int)), .val (.int fm), .un, .un, .un, .un, .un, .un, .un, .un, .un, .un, .un], sto⟩) ?_ ?_
  · push_cast []
    refine ⟨fun h1 => ?_, fun h1 => trivial⟩
    · refine wc_call C ih hk (by omega) (gw.to _ _) hx (by omega) fun d' b' a c t ot dt it => ?_
      push_cast []
      refine q d' _ a c t ot dt ?_
      simp only [to_w2] at it
      omega
  rintro s rfl
  push_cast []
  refine wc_place C.place fun p a hp => ?_
  have hnl : (List.map PV.str w.nms).length = 8 := by rw [List.length_map, gw.nm]; exact C.nm.len
  push_cast [to_to, to_w2, hk1]
  refine ⟨fun h6 => ?_, fun h6 => ?_⟩
  · refine ih (want := false) (by omega) (gw.to _ _) hx (by omega) fun d3 b3 a3 c3 t1 o1 p1 i1 => ?_
    push_cast [to_to, to_w2, hk1]
    refine ih (by omega) (gw.to _ _) hx (by omega) fun d4 b4 a4 c4 t2 o2 p2 i2 => ?_
    push_cast [to_to, to_w2, hk1]
    refine ih (by omega) (gw.to _ _) hx (by omega) fun d5 b5 a5 c5 t3 o3 p3 i3 => ?_
    push_cast [to_to]
    refine q d5 _ a5 c5 (.ite p t1 t2 t3) ?_ ?_ ?_
    · simp only [Tr.ok]
      exact ⟨hp, o1, o2, o3⟩
    · simp only [Tr.dep]; omega
    · simp only [Tr.inn, to_w2] at i1 i2 i3 ⊢
      omega
  · have nmi : ∀ i : Nat, i < 8 → ∃ x, x ∈ nms ∧ nms[i]? = some x ∧ L2.atI (List.map PV.str w.nms) (i : Int) = some (.str x) := fun i hi => by
      have hi' : i < nms.length := by rw [C.nm.len]; exact hi
      refine ⟨nms[i], List.getElem_mem hi', List.getElem?_eq_getElem hi', ?_⟩
      rw [atI_nat (by rw [hnl]; exact hi)]
      simp [gw.nm]
    push_cast [to_nms, hnl]
    refine wc_draw C.draw (by omega) (wd_lit (by omega)) fun f0 d3 g2 g3 => ?_
    obtain ⟨i, rfl⟩ := Int.eq_ofNat_of_zero_le g2
    obtain ⟨x, hx1, hx2, hx3⟩ := nmi i (by omega)
    push_cast [to_nms, hx3]
    refine ⟨fun h7 => ?_, fun h7 => ?_⟩
    · refine wc_draw C.draw (by omega) (wd_lit (by omega)) fun kd d4 g4 g5 => ?_
      obtain ⟨kk, ek⟩ : ∃ kk, L2.atI [PV.str [110], PV.str [108]] kd = some (.str (kx kk)) := by
        have hc : kd = 0 ∨ kd = 1 := by omega
        rcases hc with rfl | rfl
        · exact ⟨false, rfl⟩
        · exact ⟨true, rfl⟩
      push_cast [ek, hk1]
      refine ih (by omega) (gw.to _ _) hx (by omega) fun d5 b5 a5 c5 t1 o1 p1 i1 => ?_
      have hal : (nrv nr).length + [PV.tup [PV.str x, PV.str (kx kk)]].length ≤ szL := by simp [nrv]; unfold szL; omega
      push_cast [to_to, to_w2, hk1, pm_addL hal, nr_app]
      refine ih (nr := nr ++ [(x, kk)]) (by omega) (gw.to _ _) (fun y hy => ?_) (by simp; omega) fun d6 b6 a6 c6 t2 o2 p2 i2 => ?_
      · rw [List.map_append, List.mem_append] at hy
        rcases hy with hy | hy
        · exact hx y hy
        · rw [List.map_cons, List.map_nil, List.mem_singleton] at hy
          rw [hy]; exact hx1
      push_cast [to_to]
      refine q d6 _ a6 c6 (.lt p x t1 t2) ?_ ?_ ?_
      · simp only [Tr.ok]
        exact ⟨hp, hx1, o1, Tr.ok_cg (fun y => by simp [or_comm]) o2⟩
      · simp only [Tr.dep]; omega
      · simp only [Tr.inn, to_w2] at i1 i2 ⊢
        omega
    · refine wc_draw C.draw (by omega) (wd_lit (by omega)) fun r4 d4 g4 g5 => ?_
      obtain ⟨j, rfl⟩ := Int.eq_ofNat_of_zero_le g4
      have ej : ((i : Int) + 1 + (j : Int)).fmod ((8 : Nat) : Int) = (((i + 1 + j) % 8 : Nat) : Int) := by
        rw [Int.fmod_eq_emod_of_nonneg _ (by omega)]
        omega
      obtain ⟨y, hy1, hy2, hy3⟩ := nmi ((i + 1 + j) % 8) (Nat.mod_lt _ (by omega))
      have hxy : x ≠ y := fun e => by
        subst e
        have hi' : i < nms.length := by rw [C.nm.len]; omega
        have := (List.getElem?_inj hi' C.nm.nd).mp (hx2.trans hy2.symm)
        omega
      push_cast [to_nms, hnl, ej, hy3, hk1]
      refine ih (want := true) (by omega) (gw.to _ _) hx (by omega) fun d5 b5 a5 c5 t1 o1 p1 i1 => ?_
      push_cast [to_to, to_w2, hk1]
      refine ih (by omega) (gw.to _ _) hx (by omega) fun d6 b6 a6 c6 t2 o2 p2 i2 => ?_
      have hal : (nrv nr).length + [PV.tup [PV.str x, PV.str [110]], PV.tup [PV.str y, PV.str [108]]].length ≤ szL := by simp [nrv]; unfold szL; omega
      push_cast [to_to, to_w2, hk1, pm_addL hal, nr_app2]
      refine ih (nr := nr ++ [(x, false), (y, true)]) (by omega) (gw.to _ _) (fun z hz => ?_) (by simp; omega) fun d7 b7 a7 c7 t3 o3 p3 i3 => ?_
      · rw [List.map_append, List.mem_append] at hz
        rcases hz with hz | hz
        · exact hx z hz
        · simp only [List.map_cons, List.map_nil, List.mem_cons, List.not_mem_nil, or_false] at hz
          rcases hz with hz | hz <;> (rw [hz]; assumption)
      push_cast [to_to]
      refine q d7 _ a7 c7 (.cs p t1 t2 x y t3) ?_ ?_ ?_
      · simp only [Tr.ok]
        exact ⟨hp, hx1, hy1, hxy, o1, o2, Tr.ok_cg (fun z => by
          simp only [List.map_append, List.map_cons, List.map_nil, List.mem_append, List.mem_cons, List.not_mem_nil, or_false]
          exact ⟨fun h => by rcases h with h | h | h <;> simp [h], fun h => by rcases h with h | h | h <;> simp [h]⟩) o3⟩
      · simp only [Tr.dep]; omega
      · simp only [Tr.inn, to_w2] at i1 i2 i3 ⊢
        omega
theorem tsp {tab : Tab} {nms : List (List Nat)} {hds : List Hd} (C : GCx tab nms hds) : ∀ k : Nat, TSp tab nms hds (k + 1)
  | 0 => wc_tree C fun h => absurd h (by omega)
  | k + 1 => wc_tree C fun _ => tsp C k
end TP

set_option Elab.async false
set_option linter.all false
set_option maxRecDepth 100000
set_option maxHeartbeats 8000000
set_option exponentiation.threshold 20000
/-! Kg2: defs that call themselves. -/
namespace TP
open PySem
local macro_rules
  | `(tactic| push_cast [$xs,*]) => `(tactic| simp (maxSteps := 2000000) -implicitDefEqProofs -dsimp (disch := first | assumption | (with_reducible refine TP.big_lit ?_; omega) | decide | omega | (simp only [List.length_cons, List.length_nil, List.length_map, List.length_append, TP.szL]; omega)) only [TP.oK_some, TP.varK_val, TP.varK_own, TP.BR_t, TP.BR_f, TP.BR_d, ↓TP.wE_con, ↓TP.wE_dead, ↓TP.wEs_nil, ↓TP.wEs_cons, ↓TP.wE_prim1, ↓TP.wE_prim2, TP.strK_s, ↓TP.wE_sm, TP.dixK_s, ↓TP.wE_didx, ↓TP.wE_dnew, TP.dctK_d, TP.DG_s, ↓TP.wE_dget, TP.TS_bl, ↓TP.wE_not, ↓TP.wE_and1, ↓TP.wE_and, ↓TP.wE_or1, ↓TP.wE_or, ↓TP.wE_ite, ↓TP.wE_chain, ↓TP.KPs_nil, ↓TP.wE_disp, TP.keep_sh, TP.keep_fr, TP.keep_hd, TP.keepH_val, TP.keepH_own, ↓TP.wE_tup, ↓TP.wE_list, ↓TP.wE_call, ↓TP.wE_callK, TP.gloK_v, ↓TP.wE_callL, ↓TP.wE_mut, ↓TP.wE_slice, ↓TP.wE_lc, ↓TP.wE_lc2, TP.itK_s, ↓TP.wI_of, TP.rgK_i, ↓TP.wI_range1, TP.rg2K_i, ↓TP.wI_range2, ↓TP.wI_enum, ↓TP.wI_rev, ↓TP.wI_zip, ↓TP.nxt_nx, ↓TP.nxt_br, ↓TP.nxt_ct, ↓TP.nxt_rt, ↓TP.lpQ_nx, ↓TP.lpQ_ct, ↓TP.lpQ_br, ↓TP.lpQ_rt, TP.BT_nm, TP.BT_tup, TP.BT_lst, TP.BTs_nil, TP.BTs_cons, TP.AG_sh, TP.AG_fr, TP.AG_frT, TP.AG_hd, TP.RT_sh, TP.RT_fr, TP.RT_hd, TP.rtH_val, TP.rtH_own, TP.rtH_par, ↓TP.wS_nil, ↓TP.wS_asg, ↓TP.wS_ret, ↓TP.wS_retN, ↓TP.wS_pass, ↓TP.wS_brk, ↓TP.wS_cont, ↓TP.wS_dead, ↓TP.wS_expr, ↓TP.wS_apc, ↓TP.wS_apn, ↓TP.wS_ite, ↓TP.wS_setix, ↓TP.wS_augU, TP.AU_v, ↓TP.wS_par, ↓TP.wS_asgR, ↓TP.wS_for, ↓TP.wS_while, ↓TP.dfQ_nx, ↓TP.dfQ_rt, ↓TP.wE_var', TP.cont_sh, TP.cont_fr, TP.cont_hd, TP.contH_val, TP.contH_own, TP.boxC_nl, TP.boxC_non, TP.boxC_bl, TP.boxC_int, TP.boxC_str, TP.boxC_tup, TP.boxC_lst, TP.boxC_rol, TP.boxC_dct, TP.boxC_ty, TP.boxC_glo, TP.putBack_hd, TP.pbH_own, TP.argsOf_nil, TP.argsOf_sh, TP.argsOf_fr, TP.argsOf_hd, TP.argH_val, TP.argH_own, TP.backE_nil, TP.backE_sh, TP.backE_fr, TP.backE_own, TP.backE_val, TP.permR_nil, TP.permR_inl, TP.permR_inr, TP.finA_nil, TP.finA_cons, TP.frzA_nil, TP.frzA_cons, TP.frz1_eq, TP.frH_own, TP.frH_val, TP.itemsOf_lst, TP.itemsOf_tup, TP.itemsOf_rol, TP.itemsOf_str, TP.itemsOf_dct, TP.enumOf_lst, TP.revOf_lst, TP.revOf_tup, TP.zipOf_lst, TP.zipOf_tup, TP.P1_s, TP.P2_s, TP.SM_s, TP.MU_s, TP.SX_s, TP.C2_s, TP.C2k_t, TP.C2k_f, TP.C2k_d, TP.BR_nd, TP.pm_add, TP.pm_sub, TP.pm_neg, TP.pm_addS, TP.pm_addT, TP.pm_addL, TP.pm_mul, TP.pm_fdiv, TP.pm_mod, TP.pm_pow, TP.pm_lt, TP.pm_le, TP.pm_gt, TP.pm_ge, TP.pm_isN, TP.pm_notN, TP.pm_isB, TP.pm_notB, TP.pm_idx_lst, TP.pm_len_lst, TP.pm_idx_tup, TP.pm_len_tup, TP.pm_idx_rol, TP.pm_len_rol, TP.pm_idx_str, TP.pm_len_str, TP.pm_abs, TP.pm_min2, TP.pm_max2, TP.pm_toIntI, TP.pm_toIntB, TP.pm_toTupL, TP.pm_toTupT, TP.pm_toList_lst, TP.pm_toList_tup, TP.pm_toList_rol, TP.pm_all, TP.pm_maxD, TP.pm_zipL, TP.pm_any, TP.pm_sum, TP.pm_revs, TP.pm_toStrI, TP.pm_joinL, TP.jnK_s, TP.pm_split, TP.pm_mulS, TP.pm_mulL, TP.pm_mulT, TP.pm_isinT, TP.pm_isinL, TP.pm_notinT, TP.pm_notinL, TP.pm_isinS, TP.pm_notinS, TP.pm_isi_non_int, TP.pm_isi_non_bool, TP.pm_isi_non_str, TP.pm_isi_non_tuple, TP.pm_isi_non_list, TP.pm_isi_bl_int, TP.pm_isi_bl_bool, TP.pm_isi_bl_str, TP.pm_isi_bl_tuple, TP.pm_isi_bl_list, TP.pm_isi_int_int, TP.pm_isi_int_bool, TP.pm_isi_int_str, TP.pm_isi_int_tuple, TP.pm_isi_int_list, TP.pm_isi_str_int, TP.pm_isi_str_bool, TP.pm_isi_str_str, TP.pm_isi_str_tuple, TP.pm_isi_str_list, TP.pm_isi_tup_int, TP.pm_isi_tup_bool, TP.pm_isi_tup_str, TP.pm_isi_tup_tuple, TP.pm_isi_tup_list, TP.pm_isi_lst_int, TP.pm_isi_lst_bool, TP.pm_isi_lst_str, TP.pm_isi_lst_tuple, TP.pm_isi_lst_list, TP.mu_app, TP.mu_clear, TP.mu_reverse, TP.mutTy_s, TP.set_lst, TP.key_int, TP.key_str, TP.pm_idx_dct, TP.pm_isin_dct, TP.pm_notin_dct, TP.pm_len_dct, TP.set_dct, TP.PD_s, TP.pairs_nil, TP.pairs_str, TP.pairs_int, TP.aug_add, TP.aug_sub, TP.sl_lst, TP.sl_tup, TP.sl_str, TP.bnd_abs, TP.bnd_int, TP.isAbs_non, TP.isAbs_int, TP.isAbs_var, TP.isAbs_prim, TP.isAbs_call, TP.bools_map, TP.ints_map, TP.strs_map, TP.ixN_0, TP.ixN_1, TP.atI_c0, TP.atI_nat, TP.atI_c1, TP.atI_c2, TP.atI_c3, TP.atI_c4, TP.atI_c5, TP.atI_c6, TP.atI_c7, TP.pm_eqI, TP.pm_neI, TP.tx_ok, TP.pm_eqS, TP.pm_neS, TP.any_str, TP.all_flat_str, TP.pm_isinT_s, TP.pm_notinT_s, TP.pm_isinL_s, TP.pm_notinL_s, TP.WC_ok, ↓TP.KPs_cons, List.getElem?_cons_succ, List.getElem?_cons_zero, List.set_cons_succ, List.set_cons_zero, List.cons_append, List.nil_append, List.length_cons, List.length_nil, Option.map_some, Option.bind_some, List.append_nil, List.getD_cons_zero, List.getD_cons_succ, List.replicate_succ, List.replicate_zero, TP.wipeS_nil, TP.wipeS_cons, TP.restS_nil, TP.restS_cons, TP.ownSlots_nil, TP.ownSlots_cons, TP.owH_val, TP.owH_un, Bool.or_false, Bool.false_or, Bool.or_true, Bool.true_or, Bool.and_true, Bool.true_and, Bool.and_false, Bool.false_and, Bool.not_true, Bool.not_false, List.not_mem_nil, if_true, if_false, ite_true, ite_false, and_true, true_and, forall_const, true_implies, false_implies, not_true, not_false, decide_true, decide_false, decide_eq_true_eq, Bool.false_eq_true, Bool.true_eq_false, and_self, not_true_eq_false, not_false_eq_true, ↓TP.CS_nil, ↓TP.CS_one, Int.reduceAdd, Int.reduceSub, Int.reduceMul, Int.reduceNeg, Int.reduceLT, Int.reduceLE, Int.reduceToNat, Int.reducePow, Nat.reduceAdd, Nat.reduceSub, Nat.reduceEqDiff, Int.reduceEq, Int.reduceFDiv, Int.reduceFMod, List.cons.injEq, reduceCtorEq, List.mem_cons, or_false, or_true, false_or, true_or, false_and, and_false, ne_eq, TP.varK_ns, TP.cont_rn, TP.contN_ns, TP.argsOf_rn, TP.argN_ns, TP.backE_rn, TP.bkN_ns, TP.keep_rn, TP.keepN_ns, TP.owH_ns, TP.pm_w2, TP.pm_w3, TP.pm_w4, TP.pm_w5, TP.set_w2, TP.pm_h0, TP.pm_h1, TP.pm_h2, TP.boxC_hdv, TP.kv_eqn, TP.kv_eql, TP.kv_eqk, TP.pm_isinL_s, TP.pm_notinL_s, TP.to_nms, TP.to_hds, TP.to_w5, TP.to_w2, TP.to_w0, TP.to_to, $xs,*])

def gLoop : Fd := ⟨4, 14, [], [.asg (.nm 4) (.lc (.var 13) (.nm 13) (.of (.prim .idx [(.var 1), (.con (.int (3)))])) [(.and [(.prim .notin [(.var 13), (.var 3)]), (.prim .ne [(.var 13), (.prim .idx [(.var 2), (.con (.int (0)))])])])] [13]), .asg (.nm 5) (.lc (.tup [(.con (.str [117, 115, 101])), (.call "_law_place" [(.var 1)]), (.var 13), (.tup [])]) (.nm 13) (.of (.var 3)) [] [13]), .asg (.nm 6) (.call "_law_place" [(.var 1)]), .asg (.nm 7) (.tup [(.con (.str [117, 115, 101])), (.call "_law_place" [(.var 1)]), (.prim .idx [(.var 4), (.con (.int (0)))]), (.tup [])]), .asg (.nm 8) (.prim .add [(.slice (.var 5) (.con (.non)) (.prim .neg [(.con (.int (1)))])), (.list [(.tup [(.con (.str [117, 115, 101])), (.call "_law_place" [(.var 1)]), (.prim .idx [(.var 4), (.con (.int (1)))]), (.tup [])])])]), .ite (.and [(.prim .gt [(.prim .len [(.var 3)]), (.con (.int (1)))]), (.prim .eq [(.prim .idx [(.prim .idx [(.var 2), (.con (.int (1)))]), (.con (.int (0)))]), (.prim .idx [(.var 2), (.con (.int (2)))])]), (.prim .eq [(.call "_law_draw" [(.var 0), (.con (.int (2)))]), (.con (.int (0)))])]) [.asg (.nm 9) (.prim .idx [(.list [(.con (.str [58])), (.con (.str [43])), (.con (.str [45]))]), (.prim .mul [(.prim .toInt [(.prim .eq [(.prim .idx [(.var 2), (.con (.int (2)))]), (.con (.str [110]))])]), (.prim .add [(.con (.int (1))), (.call "_law_draw" [(.var 0), (.con (.int (2)))])])])]), .setix (.var 8) (.con (.int (0))) (.tup [(.con (.str [111, 112])), (.call "_law_place" [(.var 1)]), (.var 9), (.var 7), (.prim .idx [(.var 8), (.con (.int (0)))])]), .asg (.nm 10) (.tup [(.con (.str [117, 115, 101])), (.call "_law_place" [(.var 1)]), (.prim .idx [(.var 2), (.con (.int (0)))]), (.prim .toTup [(.var 8)])]), .ret (.tup [(.con (.str [99, 97, 115, 101])), (.var 6), (.prim .idx [(.var 5), (.prim .neg [(.con (.int (1)))])]), (.prim .idx [(.var 5), (.con (.int (0)))]), (.prim .idx [(.var 4), (.con (.int (0)))]), (.prim .idx [(.var 4), (.con (.int (1)))]), (.var 10)])] [], .asg (.nm 11) (.tup [(.con (.str [117, 115, 101])), (.call "_law_place" [(.var 1)]), (.prim .idx [(.var 2), (.con (.int (0)))]), (.prim .toTup [(.var 8)])]), .asg (.nm 9) (.prim .idx [(.list [(.con (.str [58])), (.con (.str [43])), (.con (.str [45])), (.con (.str [42]))]), (.prim .mul [(.prim .toInt [(.prim .eq [(.prim .idx [(.var 2), (.con (.int (2)))]), (.con (.str [110]))])]), (.prim .add [(.con (.int (1))), (.call "_law_draw" [(.var 0), (.con (.int (3)))])])])]), .asg (.nm 12) (.call "_law_leaf" [(.var 0), (.var 1), (.prim .idx [(.var 2), (.con (.int (2)))]), (.list [])]), .ret (.tup [(.con (.str [99, 97, 115, 101])), (.var 6), (.prim .idx [(.var 5), (.prim .neg [(.con (.int (1)))])]), (.var 12), (.prim .idx [(.var 4), (.con (.int (0)))]), (.prim .idx [(.var 4), (.con (.int (1)))]), (.tup [(.con (.str [111, 112])), (.call "_law_place" [(.var 1)]), (.var 9), (.var 7), (.var 11)])])]⟩
/-! lists -/
theorem cut_but1 {xs : List PV} (h : 1 ≤ xs.length) : cutL xs none (some (-1)) = xs.take (xs.length - 1) := by
  unfold cutL
  have e1 : HT.sIx xs.length 0 none = 0 := rfl
  have e2 : HT.sIx xs.length xs.length (some (-1)) = xs.length - 1 := by
    unfold HT.sIx
    simp
    omega
  rw [e1, e2]
  rfl
theorem atI_last {xs : List PV} (h : 1 ≤ xs.length) : L2.atI xs (-1) = xs[xs.length - 1]? := by
  unfold L2.atI L2.ixN
  rw [if_neg (by omega), if_pos (by omega)]
  simp only [Option.bind_some]
  congr 1
  omega
theorem filter_ne_len {α : Type} [BEq α] [LawfulBEq α] [DecidableEq α] {b : α} : ∀ {l : List α}, l.Nodup → l.length ≤ (l.filter fun x => decide (x ≠ b)).length + 1
  | [], _ => by simp
  | x :: l, h => by
    rw [List.nodup_cons] at h
    have ih := filter_ne_len (b := b) h.2
    by_cases e : x = b
    · subst e
      have : l.filter (fun y => decide (y ≠ x)) = l := List.filter_eq_self.mpr fun y hy => decide_eq_true fun z => h.1 (z ▸ hy)
      rw [List.filter_cons]
      simp only [ne_eq, not_true_eq_false, decide_false, Bool.false_eq_true, if_false]
      simp only [ne_eq] at this
      rw [this]
      simp
    · rw [List.filter_cons]
      simp only [ne_eq] at ih ⊢
      simp only [e, not_false_eq_true, decide_true, if_true, List.length_cons]
      omega
theorem filter_bad_len {α : Type} [BEq α] [LawfulBEq α] [DecidableEq α] : ∀ {bad l : List α}, l.Nodup → l.length ≤ (l.filter fun x => decide (x ∉ bad)).length + bad.length
  | [], l, h => by
    rw [List.filter_eq_self.mpr fun x _ => decide_eq_true (by simp)]
    simp
  | b :: bad, l, h => by
    have ih := filter_bad_len (bad := bad) h
    have h2 := filter_ne_len (b := b) (h.filter fun x => decide (x ∉ bad))
    have e : (l.filter fun x => decide (x ∉ b :: bad)) = (l.filter fun x => decide (x ∉ bad)).filter fun x => decide (x ≠ b) := by
      rw [List.filter_filter]
      apply List.filter_congr
      intro x _
      simp only [List.mem_cons, not_or, ne_eq, Bool.decide_and]
    rw [e, List.length_cons]
    omega
theorem wc_loop {tab : Tab} {nms : List (List Nat)} {hds : List Hd} (C : GCx tab nms hds) (hlo : tab.lookup ("_law_loop" : Str) = some gLoop) {n : Nat} {d : Dr} {w : Wy} {h : Hd} {b : Bool} {ps : List (List Nat)} {sto : List SO} {Q : RV → List Sl → List SO → Prop} {X : PV → List Sl → List SO → Prop} (gw : GW nms hds w) (hps : ∀ x ∈ ps, x ∈ nms) (h1 : 1 ≤ ps.length) (h3 : ps.length = h.ps.length) (hh : h ∈ hds) (hn : h.nm ∉ ps)
    (q : ∀ (d' : Dr) (a : Int) (t : Tr), t.ok nms hds ps → t.dep ≤ 4 → t.inn ≤ 3 → Q (.sh t.pv) [.own d'.pv, .own (w.to a w.w2).pv, .val h.pv, NS false (ps.map PV.str)] sto) :
    WC (callF tab (n + 4) "_law_loop" [.own d.pv, .own w.pv, .val h.pv, NS b (ps.map PV.str)] sto) Q X := by
  have hpl := (C.hd h hh).2
  refine wc_def hlo ⟨rfl, by decide⟩ ?_
  simp only [gLoop]
  push_cast []
  refine lc_fm (xs := w.nms) (g := PV.str) (fun x => decide (x ∉ h.nm :: ps)) PV.str (by simp only [ownSlots_cons, ownSlots_nil, List.getElem?_cons_succ, List.getElem?_cons_zero, owH_un, Bool.or_false]) (by rw [gw.nm, C.nm.len]; decide) (fun x hx => ?_) ?_
  · rw [gw.nm] at hx
    have t1 := (C.nm.ok x hx).tx
    have t2 := (C.nm.ok h.nm (C.hd h hh).1).tx
    push_cast [pm_neS t1 t2]
    exact ⟨fun a => ⟨fun b c => by rcases c with c | c; exact b c; exact a c, fun b => decide_eq_false (fun z => z (.inl b))⟩, fun a => decide_eq_false (fun z => z (.inr a))⟩
  have f1 : ∀ x ∈ w.nms.filter (fun x => decide (x ∉ h.nm :: ps)), x ∈ nms ∧ x ≠ h.nm ∧ x ∉ ps := fun x hx => by
    obtain ⟨a1, a2⟩ := List.mem_filter.mp hx
    rw [gw.nm] at a1
    have a3 := of_decide_eq_true a2
    simp only [List.mem_cons, not_or] at a3
    exact ⟨a1, a3.1, a3.2⟩
  have f2 : 4 ≤ (w.nms.filter (fun x => decide (x ∉ h.nm :: ps))).length := by
    have := filter_bad_len (bad := h.nm :: ps) (l := w.nms) (by rw [gw.nm]; exact C.nm.nd)
    have l8 : w.nms.length = 8 := by rw [gw.nm]; exact C.nm.len
    simp only [List.length_cons] at this
    omega
  have f3 : (w.nms.filter (fun x => decide (x ∉ h.nm :: ps))).Nodup := List.Pairwise.filter _ (by rw [gw.nm]; exact C.nm.nd)
  generalize w.nms.filter (fun x => decide (x ∉ h.nm :: ps)) = fs at f1 f2 f3 ⊢
  obtain ⟨x0, x1, fs, rfl⟩ : ∃ x0 x1 r, fs = x0 :: x1 :: r := by
    match fs, f2 with
    | x0 :: x1 :: r, _ => exact ⟨x0, x1, r, rfl⟩
  have hx01 : x0 ≠ x1 := fun e => by
    rw [List.nodup_cons] at f3
    exact f3.1 (by rw [e]; simp)
  have g0 := f1 x0 (by simp)
  have g1 := f1 x1 (by simp)
  push_cast []
  refine lc_inv (fun rest acc s => ∃ (done rest' : List (List Nat)) (ts : List Tr) (a1 : Int) (s13 : Sl), ps = done ++ rest' ∧ rest = rest'.map PV.str ∧ acc = ts.map Tr.pv ∧ ts.length = done.length ∧ (∀ t ∈ ts, ∃ p x, t = .use p x [] ∧ plOk p ∧ x ∈ ps) ∧ owH (some s13) = false ∧
    s = ⟨[.own d.pv, .own (w.to a1 w.w2).pv, .val h.pv, NS false (ps.map PV.str), .own (.lst ((x0 :: x1 :: fs).map PV.str)), .un, .un, .un, .un, .un, .un, .un, .un, s13], sto⟩)
    (by simp only [ownSlots_cons, ownSlots_nil, List.getElem?_cons_succ, List.getElem?_cons_zero, owH_un, Bool.or_false]) ⟨[], ps, [], w.w0, .un, rfl, rfl, rfl, rfl, fun _ h => (nomatch h), owH_un, rfl⟩ ?_ ?_
  · rintro x rest acc s ⟨done, rest', ts, a1, s13, e0, ex, rfl, el, hts, h13, rfl⟩
    cases rest' with
    | nil => cases ex
    | cons y rest' =>
    cases ex
    have hdl : done.length ≤ 3 := by have := congrArg List.length e0; simp at this; omega
    refine ⟨by rw [List.length_map, el]; unfold szL; omega, ?_⟩
    push_cast []
    refine wc_place C.place fun p a hp => ?_
    push_cast []
    refine ⟨done ++ [y], rest', ts ++ [.use p y []], a, _, by rw [e0]; simp, rfl, by simp [Tr.pv, pvsT], by simp [el], fun t ht => ?_, owH_val, rfl⟩
    rcases List.mem_append.mp ht with z | z
    · exact hts t z
    · rw [List.mem_singleton] at z
      exact ⟨p, y, z, hp, by rw [e0]; simp⟩
  rintro acc s ⟨done, rest', ts, a1, s13, e0, ex, rfl, el, hts, h13, rfl⟩
  cases rest' with
  | cons _ _ => cases ex
  | nil =>
  rw [List.append_nil] at e0
  subst e0
  have ix0 : L2.atI ((x0 :: x1 :: fs).map PV.str) 0 = some (.str x0) := atI_c0
  have ix1 : L2.atI ((x0 :: x1 :: fs).map PV.str) 1 = some (.str x1) := atI_c1
  obtain ⟨t0, tr, rfl⟩ : ∃ t0 tr, ts = t0 :: tr := by
    cases ts with
    | nil => exact absurd el (by simp; omega)
    | cons a b => exact ⟨a, b, rfl⟩
  have hl3 : (t0 :: tr).length ≤ 3 := by omega
  have cutE : cutL ((t0 :: tr).map Tr.pv) none (some (-1)) = ((t0 :: tr).take tr.length).map Tr.pv := by
    rw [cut_but1 (by simp), List.map_take, List.length_map]
    rfl
  obtain ⟨tz, hz1, hz2⟩ : ∃ tz, tz ∈ (t0 :: tr) ∧ L2.atI ((t0 :: tr).map Tr.pv) (-1) = some tz.pv := by
    have hlt : tr.length < (t0 :: tr).length := by simp
    refine ⟨(t0 :: tr)[tr.length], List.getElem_mem hlt, ?_⟩
    rw [atI_last (by simp), List.length_map, List.length_cons, Nat.add_sub_cancel, List.getElem?_map, List.getElem?_eq_getElem hlt]
    rfl
  have hz0 : L2.atI ((t0 :: tr).map Tr.pv) 0 = some t0.pv := atI_c0
  push_cast []
  refine wc_place C.place fun p6 a6 hp6 => ?_
  push_cast []
  refine wc_place C.place fun p7 a7 hp7 => ?_
  push_cast [ix0, cutE]
  refine wc_place C.place fun p8 a8 hp8 => ?_
  have hal : (((t0 :: tr).take tr.length).map Tr.pv).length + [PV.tup [PV.str [117, 115, 101], plv p8, PV.str x1, PV.tup []]].length ≤ szL := by
    rw [List.length_map, List.length_take]
    have h0 : 4 ≤ szL := by decide
    simp only [List.length_cons, List.length_nil] at hl3 ⊢
    omega
  have hrs : ((t0 :: tr).take tr.length).map Tr.pv ++ [PV.tup [PV.str [117, 115, 101], plv p8, PV.str x1, PV.tup []]] = ((t0 :: tr).take tr.length ++ [Tr.use p8 x1 []]).map Tr.pv := by simp [Tr.pv, pvsT]
  -- the rest
  obtain ⟨u0, ur, hu⟩ : ∃ u0 ur, (t0 :: tr).take tr.length ++ [Tr.use p8 x1 []] = u0 :: ur := by
    cases e : (t0 :: tr).take tr.length ++ [Tr.use p8 x1 []] with
    | nil => simp at e
    | cons a b => exact ⟨a, b, rfl⟩
  have hul : (u0 :: ur).length = (t0 :: tr).length := by
    rw [← hu, List.length_append, List.length_take]
    simp
  have huo : ∀ t ∈ (u0 :: ur), ∃ p x, t = .use p x [] ∧ plOk p ∧ (x ∈ ps ∨ x = x1) := fun t ht => by
    rw [← hu] at ht
    rcases List.mem_append.mp ht with z | z
    · obtain ⟨p, x, e, h1, h2⟩ := hts t (List.mem_of_mem_take z)
      exact ⟨p, x, e, h1, .inl h2⟩
    · rw [List.mem_singleton] at z
      exact ⟨p8, x1, z, hp8, .inr rfl⟩
  rw [hu] at hrs
  obtain ⟨k0, kr, hkr⟩ : ∃ k0 kr, h.ps = k0 :: kr := by
    cases e : h.ps with
    | nil => rw [e] at h3; simp only [List.length_nil] at h3; omega
    | cons a b => exact ⟨a, b, rfl⟩
  have ik0 : L2.atI (h.ps.map kv) 0 = some (.str (kx k0)) := by rw [hkr]; exact atI_c0
  have iu0 : L2.atI ((u0 :: ur).map Tr.pv) 0 = some u0.pv := atI_c0
  have b6 : intBig (if (!h.k) = true then (1:Int) else 0) = true := by cases h.k <;> rfl
  have e10 : ((u0 :: ur).map Tr.pv).length = (t0 :: tr).length := by rw [List.length_map, hul]
  push_cast [pm_addL hal, hrs, ix1, -TP.wS_ite]
  have iz : (0 : Nat) < ((u0 :: ur).map Tr.pv).length := by simp
  have hlp : (ps.map PV.str).length ≤ 3 := by rw [List.length_map]; omega
  have okz : ∀ t ∈ (t0 :: tr), ∀ near, (∀ x ∈ ps, x ∈ near) → t.ok nms hds near := fun t ht near hs => by
    obtain ⟨p, x, rfl, h1, h2⟩ := hts t ht
    simp only [Tr.ok]
    exact ⟨h1, .inl ⟨trivial, hs x h2⟩⟩
  have dz : ∀ t ∈ (t0 :: tr), t.dep = 1 ∧ t.inn = 0 := fun t ht => by
    obtain ⟨p, x, rfl, h1, h2⟩ := hts t ht
    exact ⟨rfl, rfl⟩
  have oku : ∀ t ∈ (u0 :: ur), t.ok nms hds (x0 :: x1 :: ps) := fun t ht => by
    obtain ⟨p, x, rfl, h1, h2⟩ := huo t ht
    simp only [Tr.ok]
    refine ⟨h1, .inl ⟨trivial, ?_⟩⟩
    rcases h2 with h2 | h2 <;> simp [h2]
  have du : ∀ t ∈ (u0 :: ur), t.dep = 1 ∧ t.inn = 0 := fun t ht => by
    obtain ⟨p, x, rfl, h1, h2⟩ := huo t ht
    exact ⟨rfl, rfl⟩
  have oks : ∀ {ts : List Tr} {near : List (List Nat)}, (∀ t ∈ ts, t.ok nms hds near) → oksT nms hds near ts := fun {ts near} => by
    induction ts with
    | nil => intro _; trivial
    | cons t ts ih => intro h; exact ⟨h t (List.mem_cons_self ..), ih fun x hx => h x (List.mem_cons_of_mem _ hx)⟩
  have des : ∀ {ts : List Tr} {k : Nat}, (∀ t ∈ ts, t.dep ≤ k) → depsT ts ≤ k := fun {ts k} => by
    induction ts with
    | nil => intro _; exact Nat.zero_le _
    | cons t ts ih => intro h; have a := h t (List.mem_cons_self ..); have b := ih fun x hx => h x (List.mem_cons_of_mem _ hx); simp only [depsT]; omega
  have ins : ∀ {ts : List Tr}, (∀ t ∈ ts, t.inn = 0) → innsT ts = 0 := fun {ts} => by
    induction ts with
    | nil => intro _; rfl
    | cons t ts ih => intro h; have a := h t (List.mem_cons_self ..); have b := ih fun x hx => h x (List.mem_cons_of_mem _ hx); simp only [innsT]; omega
  have hnear : h.nm ∉ x0 :: x1 :: ps := by
    simp only [List.mem_cons, not_or]
    exact ⟨fun e => g0.2.1 e.symm, fun e => g1.2.1 e.symm, hn⟩
  have eus : ∀ (p : Pl) (x : List Nat), PV.tup [PV.str [117, 115, 101], plv p, PV.str x, PV.tup []] = (Tr.use p x []).pv := fun p x => rfl
  refine wS_split (fun s => ∃ d1 : Dr, s = ⟨[.own d1.pv, .own (w.to a8 w.w2).pv, .val h.pv, NS false (ps.map PV.str), .own (.lst ((x0 :: x1 :: fs).map PV.str)), .own (.lst ((t0 :: tr).map Tr.pv)), .val (plv p6), .val (.tup [.str [117, 115, 101], plv p7, .str x0, .tup []]), .own (.lst ((u0 :: ur).map Tr.pv)), .un, .un, .un, .un, .un], sto⟩) ?_ ?_
  · push_cast [ik0]
    refine ⟨fun hp1 => ⟨fun hk => ?_, fun _ => ⟨d, rfl⟩⟩, fun _ => ⟨d, rfl⟩⟩
    refine wc_draw C.draw (by omega) (wd_lit (by omega)) fun r1 d1 j0 j1 => ?_
    push_cast []
    refine ⟨fun h0 => ?_, fun _ => ⟨d1, rfl⟩⟩
    refine wc_draw C.draw (by omega) (wd_lit (by omega)) fun r2 d2 j2 j3 => ?_
    obtain ⟨sg, hs, e1⟩ : ∃ sg, sg ∈ opsL ∧ L2.atI [PV.str [58], .str [43], .str [45]] ((if (!h.k) = true then (1:Int) else 0) * (1 + r2)) = some (.str sg) := by
      have hc : r2 = 0 ∨ r2 = 1 := by omega
      rcases hc with rfl | rfl <;> cases h.k
      all_goals exact ⟨_, by decide, rfl⟩
    push_cast [e1]
    refine wc_place C.place fun p9 a9 hp9 => ?_
    push_cast [iu0, set_lst, ixN_0 iz]
    have hset : ((u0 :: ur).map Tr.pv).set 0 (.tup [.str [111, 112], plv p9, .str sg, .tup [.str [117, 115, 101], plv p7, .str x0, .tup []], u0.pv]) = ((Tr.op p9 sg (.use p7 x0 []) u0) :: ur).map Tr.pv := rfl
    rw [hset]
    refine wc_place C.place fun p10 a10 hp10 => ?_
    push_cast [hz2, hz0, ix0, ix1]
    have e3 : (Tr.use p10 h.nm ((Tr.op p9 sg (.use p7 x0 []) u0) :: ur)).pv = .tup [.str [117, 115, 101], plv p10, .str h.nm, .tup (((Tr.op p9 sg (.use p7 x0 []) u0) :: ur).map Tr.pv)] := by rw [Tr.pv, pvsT_map]
    rw [← e3]
    have dz1 := dz tz hz1
    have dz0 := dz t0 (by simp)
    have du0 := du u0 (by simp)
    refine q d2 a10 (.cs p6 tz t0 x0 x1 (.use p10 h.nm ((Tr.op p9 sg (.use p7 x0 []) u0) :: ur))) ?_ ?_ ?_
    · simp only [Tr.ok]
      refine ⟨hp6, g0.1, g1.1, hx01, okz tz hz1 _ fun _ h => h, okz t0 (by simp) _ fun _ h => h, hp10, .inr ⟨hnear, ⟨h, hh, rfl, ?_⟩, ?_⟩⟩
      · rw [← h3, ← el, ← hul]; rfl
      · refine ⟨?_, oks fun t ht => oku t (List.mem_cons_of_mem _ ht)⟩
        simp only [Tr.ok]
        exact ⟨hp9, hs, ⟨hp7, .inl ⟨trivial, by simp⟩⟩, oku u0 (by simp)⟩
    · have := des (ts := ur) (k := 1) fun t ht => by rw [(du t (List.mem_cons_of_mem _ ht)).1]; exact Nat.le_refl _
      simp only [Tr.dep, depsT]
      omega
    · have := ins (ts := ur) fun t ht => (du t (List.mem_cons_of_mem _ ht)).2
      simp only [Tr.inn, innsT]
      omega
  · rintro s ⟨d1, rfl⟩
    push_cast []
    refine wc_place C.place fun p9 a9 hp9 => ?_
    push_cast []
    refine wc_draw C.draw (by omega) (wd_lit (by omega)) fun r2 d2 j2 j3 => ?_
    obtain ⟨sg, hs, e1⟩ : ∃ sg, sg ∈ opsL ∧ L2.atI [PV.str [58], .str [43], .str [45], .str [42]] ((if (!h.k) = true then (1:Int) else 0) * (1 + r2)) = some (.str sg) := by
      have hc : r2 = 0 ∨ r2 = 1 ∨ r2 = 2 := by omega
      rcases hc with rfl | rfl | rfl <;> cases h.k
      all_goals exact ⟨_, by decide, rfl⟩
    push_cast [e1]
    refine wc_leaf (nr := []) (b := true) C.draw C.place C.leaf (fun x h => (nomatch h)) (by decide) fun d3 a10 tl lf => ?_
    push_cast [hz2, ix0, ix1]
    refine wc_place C.place fun p11 a11 hp11 => ?_
    push_cast []
    have e3 : (Tr.use p9 h.nm (u0 :: ur)).pv = .tup [.str [117, 115, 101], plv p9, .str h.nm, .tup ((u0 :: ur).map Tr.pv)] := by rw [Tr.pv, pvsT_map]
    rw [← e3]
    have dz1 := dz tz hz1
    have dtl := lf.dep
    have itl := lf.inn
    refine q d3 a11 (.cs p6 tz tl x0 x1 (.op p11 sg (.use p7 x0 []) (.use p9 h.nm (u0 :: ur)))) ?_ ?_ ?_
    · simp only [Tr.ok]
      refine ⟨hp6, g0.1, g1.1, hx01, okz tz hz1 _ fun _ h => h, lf.ok fun _ h => (nomatch h), hp11, hs, ⟨hp7, .inl ⟨trivial, by simp⟩⟩, hp9, .inr ⟨hnear, ⟨h, hh, rfl, ?_⟩, oks oku⟩⟩
      rw [← h3, ← el, ← hul]
    · have := des (ts := u0 :: ur) (k := 1) fun t ht => by rw [(du t ht).1]; exact Nat.le_refl _
      simp only [Tr.dep]
      simp only [depsT] at this ⊢
      omega
    · have := ins (ts := u0 :: ur) fun t ht => (du t ht).2
      simp only [Tr.inn]
      simp only [innsT] at this ⊢
      omega
end TP

set_option Elab.async false
set_option linter.all false
set_option maxRecDepth 100000
set_option maxHeartbeats 8000000
set_option exponentiation.threshold 20000
/-! Kg3: names that are drawn. -/
namespace TP
open PySem
local macro_rules
  | `(tactic| push_cast [$xs,*]) => `(tactic| simp (maxSteps := 2000000) -implicitDefEqProofs -dsimp (disch := first | assumption | (with_reducible refine TP.big_lit ?_; omega) | decide | omega | (simp only [List.length_cons, List.length_nil, List.length_map, List.length_append, TP.szL]; omega)) only [TP.oK_some, TP.varK_val, TP.varK_own, TP.BR_t, TP.BR_f, TP.BR_d, ↓TP.wE_con, ↓TP.wE_dead, ↓TP.wEs_nil, ↓TP.wEs_cons, ↓TP.wE_prim1, ↓TP.wE_prim2, TP.strK_s, ↓TP.wE_sm, TP.dixK_s, ↓TP.wE_didx, ↓TP.wE_dnew, TP.dctK_d, TP.DG_s, ↓TP.wE_dget, TP.TS_bl, ↓TP.wE_not, ↓TP.wE_and1, ↓TP.wE_and, ↓TP.wE_or1, ↓TP.wE_or, ↓TP.wE_ite, ↓TP.wE_chain, ↓TP.KPs_nil, ↓TP.wE_disp, TP.keep_sh, TP.keep_fr, TP.keep_hd, TP.keepH_val, TP.keepH_own, ↓TP.wE_tup, ↓TP.wE_list, ↓TP.wE_call, ↓TP.wE_callK, TP.gloK_v, ↓TP.wE_callL, ↓TP.wE_mut, ↓TP.wE_slice, ↓TP.wE_lc, ↓TP.wE_lc2, TP.itK_s, ↓TP.wI_of, TP.rgK_i, ↓TP.wI_range1, TP.rg2K_i, ↓TP.wI_range2, ↓TP.wI_enum, ↓TP.wI_rev, ↓TP.wI_zip, ↓TP.nxt_nx, ↓TP.nxt_br, ↓TP.nxt_ct, ↓TP.nxt_rt, ↓TP.lpQ_nx, ↓TP.lpQ_ct, ↓TP.lpQ_br, ↓TP.lpQ_rt, TP.BT_nm, TP.BT_tup, TP.BT_lst, TP.BTs_nil, TP.BTs_cons, TP.AG_sh, TP.AG_fr, TP.AG_frT, TP.AG_hd, TP.RT_sh, TP.RT_fr, TP.RT_hd, TP.rtH_val, TP.rtH_own, TP.rtH_par, ↓TP.wS_nil, ↓TP.wS_asg, ↓TP.wS_ret, ↓TP.wS_retN, ↓TP.wS_pass, ↓TP.wS_brk, ↓TP.wS_cont, ↓TP.wS_dead, ↓TP.wS_expr, ↓TP.wS_apc, ↓TP.wS_apn, ↓TP.wS_ite, ↓TP.wS_setix, ↓TP.wS_augU, TP.AU_v, ↓TP.wS_par, ↓TP.wS_asgR, ↓TP.wS_for, ↓TP.wS_while, ↓TP.dfQ_nx, ↓TP.dfQ_rt, ↓TP.wE_var', TP.cont_sh, TP.cont_fr, TP.cont_hd, TP.contH_val, TP.contH_own, TP.boxC_nl, TP.boxC_non, TP.boxC_bl, TP.boxC_int, TP.boxC_str, TP.boxC_tup, TP.boxC_lst, TP.boxC_rol, TP.boxC_dct, TP.boxC_ty, TP.boxC_glo, TP.putBack_hd, TP.pbH_own, TP.argsOf_nil, TP.argsOf_sh, TP.argsOf_fr, TP.argsOf_hd, TP.argH_val, TP.argH_own, TP.backE_nil, TP.backE_sh, TP.backE_fr, TP.backE_own, TP.backE_val, TP.permR_nil, TP.permR_inl, TP.permR_inr, TP.finA_nil, TP.finA_cons, TP.frzA_nil, TP.frzA_cons, TP.frz1_eq, TP.frH_own, TP.frH_val, TP.itemsOf_lst, TP.itemsOf_tup, TP.itemsOf_rol, TP.itemsOf_str, TP.itemsOf_dct, TP.enumOf_lst, TP.revOf_lst, TP.revOf_tup, TP.zipOf_lst, TP.zipOf_tup, TP.P1_s, TP.P2_s, TP.SM_s, TP.MU_s, TP.SX_s, TP.C2_s, TP.C2k_t, TP.C2k_f, TP.C2k_d, TP.BR_nd, TP.pm_add, TP.pm_sub, TP.pm_neg, TP.pm_addS, TP.pm_addT, TP.pm_addL, TP.pm_mul, TP.pm_fdiv, TP.pm_mod, TP.pm_pow, TP.pm_lt, TP.pm_le, TP.pm_gt, TP.pm_ge, TP.pm_isN, TP.pm_notN, TP.pm_isB, TP.pm_notB, TP.pm_idx_lst, TP.pm_len_lst, TP.pm_idx_tup, TP.pm_len_tup, TP.pm_idx_rol, TP.pm_len_rol, TP.pm_idx_str, TP.pm_len_str, TP.pm_abs, TP.pm_min2, TP.pm_max2, TP.pm_toIntI, TP.pm_toIntB, TP.pm_toTupL, TP.pm_toTupT, TP.pm_toList_lst, TP.pm_toList_tup, TP.pm_toList_rol, TP.pm_all, TP.pm_maxD, TP.pm_zipL, TP.pm_any, TP.pm_sum, TP.pm_revs, TP.pm_toStrI, TP.pm_joinL, TP.jnK_s, TP.pm_split, TP.pm_mulS, TP.pm_mulL, TP.pm_mulT, TP.pm_isinT, TP.pm_isinL, TP.pm_notinT, TP.pm_notinL, TP.pm_isinS, TP.pm_notinS, TP.pm_isi_non_int, TP.pm_isi_non_bool, TP.pm_isi_non_str, TP.pm_isi_non_tuple, TP.pm_isi_non_list, TP.pm_isi_bl_int, TP.pm_isi_bl_bool, TP.pm_isi_bl_str, TP.pm_isi_bl_tuple, TP.pm_isi_bl_list, TP.pm_isi_int_int, TP.pm_isi_int_bool, TP.pm_isi_int_str, TP.pm_isi_int_tuple, TP.pm_isi_int_list, TP.pm_isi_str_int, TP.pm_isi_str_bool, TP.pm_isi_str_str, TP.pm_isi_str_tuple, TP.pm_isi_str_list, TP.pm_isi_tup_int, TP.pm_isi_tup_bool, TP.pm_isi_tup_str, TP.pm_isi_tup_tuple, TP.pm_isi_tup_list, TP.pm_isi_lst_int, TP.pm_isi_lst_bool, TP.pm_isi_lst_str, TP.pm_isi_lst_tuple, TP.pm_isi_lst_list, TP.mu_app, TP.mu_clear, TP.mu_reverse, TP.mutTy_s, TP.set_lst, TP.key_int, TP.key_str, TP.pm_idx_dct, TP.pm_isin_dct, TP.pm_notin_dct, TP.pm_len_dct, TP.set_dct, TP.PD_s, TP.pairs_nil, TP.pairs_str, TP.pairs_int, TP.aug_add, TP.aug_sub, TP.sl_lst, TP.sl_tup, TP.sl_str, TP.bnd_abs, TP.bnd_int, TP.isAbs_non, TP.isAbs_int, TP.isAbs_var, TP.isAbs_prim, TP.isAbs_call, TP.bools_map, TP.ints_map, TP.strs_map, TP.ixN_0, TP.ixN_1, TP.atI_c0, TP.atI_nat, TP.atI_c1, TP.atI_c2, TP.atI_c3, TP.atI_c4, TP.atI_c5, TP.atI_c6, TP.atI_c7, TP.pm_eqI, TP.pm_neI, TP.tx_ok, TP.pm_eqS, TP.pm_neS, TP.any_str, TP.all_flat_str, TP.pm_isinT_s, TP.pm_notinT_s, TP.pm_isinL_s, TP.pm_notinL_s, TP.WC_ok, ↓TP.KPs_cons, List.getElem?_cons_succ, List.getElem?_cons_zero, List.set_cons_succ, List.set_cons_zero, List.cons_append, List.nil_append, List.length_cons, List.length_nil, Option.map_some, Option.bind_some, List.append_nil, List.getD_cons_zero, List.getD_cons_succ, List.replicate_succ, List.replicate_zero, TP.wipeS_nil, TP.wipeS_cons, TP.restS_nil, TP.restS_cons, TP.ownSlots_nil, TP.ownSlots_cons, TP.owH_val, TP.owH_un, Bool.or_false, Bool.false_or, Bool.or_true, Bool.true_or, Bool.and_true, Bool.true_and, Bool.and_false, Bool.false_and, Bool.not_true, Bool.not_false, List.not_mem_nil, if_true, if_false, ite_true, ite_false, and_true, true_and, forall_const, true_implies, false_implies, not_true, not_false, decide_true, decide_false, decide_eq_true_eq, Bool.false_eq_true, Bool.true_eq_false, and_self, not_true_eq_false, not_false_eq_true, ↓TP.CS_nil, ↓TP.CS_one, Int.reduceAdd, Int.reduceSub, Int.reduceMul, Int.reduceNeg, Int.reduceLT, Int.reduceLE, Int.reduceToNat, Int.reducePow, Nat.reduceAdd, Nat.reduceSub, Nat.reduceEqDiff, Int.reduceEq, Int.reduceFDiv, Int.reduceFMod, List.cons.injEq, reduceCtorEq, List.mem_cons, or_false, or_true, false_or, true_or, false_and, and_false, ne_eq, TP.varK_ns, TP.cont_rn, TP.contN_ns, TP.argsOf_rn, TP.argN_ns, TP.backE_rn, TP.bkN_ns, TP.keep_rn, TP.keepN_ns, TP.owH_ns, TP.pm_w2, TP.pm_w3, TP.pm_w4, TP.pm_w5, TP.set_w2, TP.pm_h0, TP.pm_h1, TP.pm_h2, TP.boxC_hdv, TP.kv_eqn, TP.kv_eql, TP.kv_eqk, TP.pm_isinL_s, TP.pm_notinL_s, TP.to_nms, TP.to_hds, TP.to_w5, TP.to_w2, TP.to_w0, TP.to_to, $xs,*])

def gKeys : Fd := ⟨0, 0, [], [.ret (.list [(.con (.str [108, 101, 116])), (.con (.str [105, 102])), (.con (.str [116, 104, 101, 110])), (.con (.str [101, 108, 115, 101])), (.con (.str [99, 97, 115, 101])), (.con (.str [111, 102])), (.con (.str [100, 105, 118])), (.con (.str [109, 111, 100])), (.con (.str [97, 110, 100])), (.con (.str [111, 114]))])]⟩
def gNames : Fd := ⟨2, 10, [], [.asg (.nm 2) (.con (.str [97, 98, 99, 100, 101, 102, 103, 104, 105, 106, 107, 108, 109, 110, 111, 112, 113, 114, 115, 116, 117, 118, 119, 120, 121, 122])), .asg (.nm 3) (.sm .join (.con (.str [])) (.lc (.prim .idx [(.var 2), (.call "_law_draw" [(.var 0), (.con (.int (26)))])]) (.nm 8) (.range [(.prim .idx [(.list [(.con (.int (0))), (.con (.int (1))), (.con (.int (2))), (.con (.int (6)))]), (.call "_law_draw" [(.var 0), (.con (.int (4)))])])]) [] [8])), .asg (.nm 4) (.call "_law_draw" [(.var 0), (.con (.int (26)))]), .asg (.nm 5) (.prim .idx [(.list [(.con (.int (1))), (.con (.int (3))), (.con (.int (5))), (.con (.int (7))), (.con (.int (25))), (.con (.int (23)))]), (.call "_law_draw" [(.var 0), (.con (.int (6)))])]), .asg (.nm 6) (.prim .idx [(.list [(.con (.str [])), (.con (.str [122])), (.prim .idx [(.var 2), (.var 4)])]), (.call "_law_draw" [(.var 0), (.con (.int (3)))])]), .asg (.nm 7) (.list []), .for (.nm 8) (.range [(.var 1)]) [.asg (.nm 9) (.prim .add [(.prim .add [(.var 3), (.prim .idx [(.var 2), (.prim .mod [(.prim .add [(.var 4), (.prim .mul [(.var 5), (.var 8)])]), (.con (.int (26)))])])]), (.prim .mul [(.var 6), (.prim .mod [(.var 8), (.con (.int (2)))])])]), .expr (.mut .append (.var 7) [(.prim .add [(.var 9), (.prim .mul [(.con (.str [113])), (.prim .toInt [(.prim .isin [(.var 9), (.call "_law_keys" [])])])])])])], .ret (.var 7)]⟩
def letL : List Nat := [97, 98, 99, 100, 101, 102, 103, 104, 105, 106, 107, 108, 109, 110, 111, 112, 113, 114, 115, 116, 117, 118, 119, 120, 121, 122]
theorem atU_memM {α β : Type} {g : β → α} {ys : List β} {r : Int} (h0 : 0 ≤ r) (h1 : r < (ys.length : Int)) : ∃ y, L2.atI (ys.map g) r = some (g y) ∧ y ∈ ys := by
  obtain ⟨k, rfl⟩ : ∃ k : Nat, r = (k : Int) := ⟨r.toNat, by omega⟩
  have hk : k < ys.length := by omega
  refine ⟨ys[k], ?_, List.getElem_mem hk⟩
  rw [atI_nat (by simpa using hk), List.getElem_map]
theorem atU_mem {α : Type} {ys : List α} {r : Int} (h0 : 0 ≤ r) (h1 : r < (ys.length : Int)) : ∃ y, L2.atI ys r = some y ∧ y ∈ ys := by
  obtain ⟨y, h, m⟩ := atU_memM (g := id) h0 h1
  rw [List.map_id] at h
  exact ⟨y, h, m⟩
theorem joinU_ones {w : List Nat} : TL.joinL [] (w.map fun c => [c]) = w := by
  induction w with
  | nil => rfl
  | cons c w ih =>
    cases w with
    | nil => rfl
    | cons d w =>
      rw [List.map_cons, List.map_cons]
      rw [List.map_cons] at ih
      show [c] ++ [] ++ TL.joinL [] ([d] :: w.map fun c => [c]) = _
      rw [ih]
      rfl
theorem joinU_okS {w : List Nat} (h : w.length ≤ 1000) : joinOk [] (w.map fun c => [c]) = true := by
  unfold joinOk
  refine decide_eq_true ?_
  have : ((w.map fun c => [c]).map List.length).sum = w.length := by
    clear h
    induction w with
    | nil => rfl
    | cons c w ih => simp only [List.map_cons, List.sum_cons, List.length_cons, List.length_nil, ih]; omega
  rw [this]
  simp only [List.length_nil, Nat.mul_zero]
  unfold szL
  omega
theorem cf_gkeys {tab : Tab} {n : Nat} {sto : List SO} (hl : tab.lookup ("_law_keys" : Str) = some gKeys) (hn : 1 ≤ n) : callF tab n "_law_keys" [] sto = .ok (.fr (.lst (keysL.map PV.str))) [] sto := by
  obtain ⟨n, rfl⟩ : ∃ m, n = m + 1 := ⟨n - 1, by omega⟩
  refine eq_of_WC (wc_def hl ⟨rfl, by decide⟩ ?_)
  simp only [gKeys]
  push_cast []
  rfl
/-! the names -/
def nmB (w : List Nat) (f s : Nat) (m : List Nat) (k : Nat) : List Nat := w ++ [97 + (f + s * k) % 26] ++ (if k % 2 = 1 then m else [])
def nmK (w : List Nat) (f s : Nat) (m : List Nat) (k : Nat) : List Nat := nmB w f s m k ++ (if nmB w f s m k ∈ keysL then [113] else [])
theorem nmK_ok {w m : List Nat} {f s k : Nat} (hw : w.length ≤ 6 ∧ ∀ c ∈ w, c ∈ letL) (hm : m.length ≤ 1 ∧ ∀ c ∈ m, c ∈ letL) : nameOk (nmK w f s m k) := by
  have lt : ∀ c ∈ letL, 97 ≤ c ∧ c ≤ 122 := by decide
  have kl : ∀ b ∈ keysL, b.length ≤ 4 ∧ b ++ [113] ∉ keysL := by decide
  have hb : ∀ c ∈ nmB w f s m k, 97 ≤ c ∧ c ≤ 122 := fun c hc => by
    unfold nmB at hc
    simp only [List.mem_append, List.mem_singleton] at hc
    rcases hc with (hc | hc) | hc
    · exact lt c (hw.2 c hc)
    · omega
    · split at hc
      · exact lt c (hm.2 c hc)
      · cases hc
  have hbl : 1 ≤ (nmB w f s m k).length ∧ (nmB w f s m k).length ≤ 8 := by
    unfold nmB
    simp only [List.length_append, List.length_singleton]
    split
    · omega
    · simp only [List.length_nil]; omega
  unfold nmK
  by_cases e : nmB w f s m k ∈ keysL
  · rw [if_pos e]
    obtain ⟨k1, k2⟩ := kl _ e
    refine ⟨by simp, by simp; omega, k2, fun c hc => ?_⟩
    rcases List.mem_append.mp hc with z | z
    · exact hb c z
    · rw [List.mem_singleton] at z; omega
  · rw [if_neg e, List.append_nil]
    exact ⟨hbl.1, hbl.2, e, hb⟩
theorem nmK_at {w m : List Nat} {f s k : Nat} : (nmK w f s m k)[w.length]? = some (97 + (f + s * k) % 26) := by
  unfold nmK nmB
  simp [List.append_assoc]
theorem nmK_nms {w m : List Nat} {f s : Nat} (hw : w.length ≤ 6 ∧ ∀ c ∈ w, c ∈ letL) (hm : m.length ≤ 1 ∧ ∀ c ∈ m, c ∈ letL) (hs : s ∈ [1, 3, 5, 7, 25, 23]) : NmOk ((List.range 8).map (nmK w f s m)) := by
  refine ⟨by simp, ?_, fun x hx => ?_⟩
  · rw [List.Nodup, List.pairwise_map]
    refine List.Pairwise.imp_of_mem (fun {i j} hi hj hne e => hne ?_) (List.nodup_range (n := 8))
    rw [List.mem_range] at hi hj
    have h1 := @nmK_at w m f s i
    rw [e, nmK_at] at h1
    injection h1 with h1
    simp only [List.mem_cons, List.not_mem_nil, or_false] at hs
    rcases hs with rfl | rfl | rfl | rfl | rfl | rfl <;> omega
  · obtain ⟨k, _, rfl⟩ := List.mem_map.mp hx
    exact nmK_ok hw hm
def rsR (k : Nat) : List PV := (List.range' k (8 - k)).map fun j : Nat => PV.int j
theorem wc_names {tab : Tab} {n : Nat} {d : Dr} {sto : List SO} {Q : RV → List Sl → List SO → Prop} {X : PV → List Sl → List SO → Prop} (tD : tab.lookup ("_law_draw" : Str) = some dDraw) (tK : tab.lookup ("_law_keys" : Str) = some gKeys) (hl : tab.lookup ("_law_names" : Str) = some gNames)
    (q : ∀ (d' : Dr) (nms : List (List Nat)), NmOk nms → Q (.fr (.lst (nms.map PV.str))) [.own d'.pv, .val (.int 8)] sto) : WC (callF tab (n + 2) "_law_names" [.own d.pv, .val (.int 8)] sto) Q X := by
  refine wc_def hl ⟨rfl, by decide⟩ ?_
  simp only [gNames]
  have ky := @cf_gkeys tab (n + 1) sto tK (by omega)
  have lz : letL.length ≤ szL := by decide
  have hLL : [97, 98, 99, 100, 101, 102, 103, 104, 105, 106, 107, 108, 109, 110, 111, 112, 113, 114, 115, 116, 117, 118, 119, 120, 121, 122] = letL := rfl
  rw [hLL]
  push_cast []
  refine wc_draw tD (by omega) (wd_lit (by omega)) fun r d1 h0 h1 => ?_
  obtain ⟨m0, hm0, hmm⟩ := atU_memM (g := fun m : Nat => PV.int (m : Int)) (ys := [0, 1, 2, 6]) h0 (by simpa using h1)
  have hm6 : m0 ≤ 6 := by simp only [List.mem_cons, List.not_mem_nil, or_false] at hmm; omega
  push_cast [show L2.atI [PV.int 0, PV.int 1, PV.int 2, PV.int 6] r = some (.int (m0 : Int)) from hm0]
  refine ⟨by omega, ?_⟩
  refine lc_inv (fun rest acc s => ∃ (w : List Nat) (d' : Dr) (sl : Sl), rest.length + w.length = m0 ∧ acc = w.map (fun c => PV.str [c]) ∧ (∀ c ∈ w, c ∈ letL) ∧ s = ⟨[.own d'.pv, .val (.int 8), .val (.str letL), .un, .un, .un, .un, .un, sl, .un], sto⟩)
    (by simp only [ownSlots_cons, ownSlots_nil, List.getElem?_cons_succ, List.getElem?_cons_zero, owH_un, Bool.or_false]) ⟨[], d1, .un, by simp [rangeL], rfl, fun _ h => (nomatch h), rfl⟩ ?_ ?_
  · rintro x rest acc s ⟨w, d', sl, e1, rfl, hw, rfl⟩
    simp only [List.length_cons] at e1
    refine ⟨by rw [List.length_map]; unfold szL; omega, ?_⟩
    push_cast []
    refine wc_draw tD (by omega) (wd_lit (by omega)) fun r3 d3 h4 h5 => ?_
    obtain ⟨c, hc, hcm⟩ := atU_mem (ys := letL) h4 (by simpa [letL] using h5)
    push_cast [hc, pm_idx_str lz]
    exact ⟨w ++ [c], d3, .val x, by rw [List.length_append, List.length_singleton]; omega, by simp, fun z hz => by
      rcases List.mem_append.mp hz with hz | hz
      · exact hw z hz
      · cases List.mem_singleton.mp hz; exact hcm, rfl⟩
  rintro acc s ⟨w, d', sl, e1, rfl, hw, rfl⟩
  simp only [List.length_nil, Nat.zero_add] at e1
  have jo := @joinU_okS w (by omega)
  push_cast [strs_map (f := fun c : Nat => [c]), jnK_s jo, joinU_ones]
  refine wc_draw tD (by omega) (wd_lit (by omega)) fun r2 d2 h2 h3 => ?_
  obtain ⟨f, rfl⟩ := Int.eq_ofNat_of_zero_le h2
  push_cast []
  refine wc_draw tD (by omega) (wd_lit (by omega)) fun r4 d4 h4 h5 => ?_
  obtain ⟨st, hst, hsm⟩ := atU_memM (g := fun m : Nat => PV.int (m : Int)) (ys := [1, 3, 5, 7, 25, 23]) h4 (by simpa using h5)
  have hfl : L2.atI letL (f : Int) = some (97 + f) := by
    have : ∀ i, i < 26 → letL[i]? = some (97 + i) := by decide
    rw [atI_n rfl (by show f < 26; omega)]
    exact this f (by omega)
  push_cast [show L2.atI [PV.int 1, PV.int 3, PV.int 5, PV.int 7, PV.int 25, PV.int 23] r4 = some (.int (st : Int)) from hst, pm_idx_str lz, hfl]
  refine wc_draw tD (by omega) (wd_lit (by omega)) fun r5 d5 h6 h7 => ?_
  obtain ⟨m, hm, hmm⟩ := atU_memM (g := PV.str) (ys := [[], [122], [97 + f]]) h6 (by simpa using h7)
  have hmo : m.length ≤ 1 ∧ ∀ c ∈ m, c ∈ letL := by
    have hf : ∀ i, i < 26 → 97 + i ∈ letL := by decide
    simp only [List.mem_cons, List.not_mem_nil, or_false] at hmm
    rcases hmm with rfl | rfl | rfl
    · exact ⟨by decide, fun _ h => nomatch h⟩
    · exact ⟨by decide, by decide⟩
    · exact ⟨by simp, fun c hc => by rw [List.mem_singleton] at hc; rw [hc]; exact hf f (by omega)⟩
  push_cast [show L2.atI [PV.str [], PV.str [122], PV.str [97 + f]] r5 = some (.str m) from hm]
  have hst25 : st ≤ 25 := by simp only [List.mem_cons, List.not_mem_nil, or_false] at hsm; omega
  refine fr_rule (fun rest s => ∃ (k : Nat) (s8 s9 : Sl), k ≤ 8 ∧ rest = rsR k ∧ s = ⟨[.own d5.pv, .val (.int 8), .val (.str letL), .val (.str w), .val (.int (f : Int)), .val (.int (st : Int)), .val (.str m), .own (.lst (((List.range k).map (nmK w f st m)).map PV.str)), s8, s9], sto⟩) ⟨0, _, _, by omega, rfl, rfl⟩ ?_ ?_
  · rintro s ⟨k, s8, s9, hk, er, rfl⟩
    have hk8 : k = 8 := by
      have := congrArg List.length er
      simp [rsR] at this
      omega
    subst hk8
    push_cast []
    exact q d5 _ (nmK_nms ⟨by omega, hw⟩ hmo hsm)
  · rintro x rest s ⟨k, s8, s9, hk, er, rfl⟩
    have hk8 : k < 8 := by
      have := congrArg List.length er
      simp [rsR] at this
      omega
    obtain ⟨hx, hr⟩ : x = .int (k : Int) ∧ rest = rsR (k + 1) := by
      have e8 : 8 - k = (7 - k) + 1 := by omega
      unfold rsR at er
      rw [e8, List.range'_succ, List.map_cons] at er
      injection er with a b
      refine ⟨a, b.trans ?_⟩
      unfold rsR
      congr 2
      omega
    subst hx hr
    have bst : intBig (st : Int) = true := big_lit (by omega)
    have bk : intBig (k : Int) = true := big_lit (by omega)
    have eX : ((f : Int) + (st : Int) * (k : Int)).fmod 26 = (((f + st * k) % 26 : Nat) : Int) := by
      have : ((f : Int) + (st : Int) * (k : Int)) = ((f + st * k : Nat) : Int) := by simp [Int.natCast_add, Int.natCast_mul]
      rw [this, Int.fmod_eq_emod_of_nonneg _ (by omega)]
      omega
    have hlx : L2.atI letL (((f + st * k) % 26 : Nat) : Int) = some (97 + (f + st * k) % 26) := by
      have : ∀ i, i < 26 → letL[i]? = some (97 + i) := by decide
      rw [atI_n rfl (by show _ < 26; exact Nat.mod_lt _ (by omega))]
      exact this _ (Nat.mod_lt _ (by omega))
    have e2 : ((k : Int)).fmod 2 = ((k % 2 : Nat) : Int) := by
      rw [Int.fmod_eq_emod_of_nonneg _ (by omega)]
      omega
    have sz3 : 100 ≤ szL := by decide
    have a1 : w.length + [97 + (f + st * k) % 26].length ≤ szL := by simp only [List.length_cons, List.length_nil]; omega
    have p1 : small63 ((k % 2 : Nat) : Int) = true := by
      have : k % 2 < 2 := Nat.mod_lt _ (by omega)
      unfold small63
      simp only [Bool.and_eq_true, decide_eq_true_eq]
      omega
    have p2 : m.length * (((k % 2 : Nat) : Int)).toNat ≤ szL := by
      have : k % 2 < 2 := Nat.mod_lt _ (by omega)
      have h5 := hmo.1
      rw [Int.toNat_natCast]
      have : m.length * (k % 2) ≤ 1 * 1 := Nat.mul_le_mul h5 (by omega)
      omega
    have e3 : (List.replicate (((k % 2 : Nat) : Int)).toNat m).flatten = if k % 2 = 1 then m else [] := by
      rw [Int.toNat_natCast]
      have : k % 2 = 0 ∨ k % 2 = 1 := by omega
      rcases this with h | h <;> simp [h]
    have hbl : (w ++ [97 + (f + st * k) % 26]).length + (if k % 2 = 1 then m else []).length ≤ szL := by
      have h5 := hmo.1
      simp only [List.length_append, List.length_cons, List.length_nil]
      split
      · omega
      · simp only [List.length_nil]; omega
    push_cast [eX, hlx, pm_idx_str lz, e2, pm_addS a1, pm_mulS p1 p2, e3, pm_addS hbl]
    rw [show (w ++ [97 + (f + st * k) % 26] ++ if k % 2 = 1 then m else []) = nmB w f st m k from rfl]
    have hBl : (nmB w f st m k).length + 1 ≤ szL := by
      unfold nmB
      rw [List.length_append]
      have h5 := hmo.1
      have h6 : (if k % 2 = 1 then m else []).length ≤ 1 := by
        split
        · exact h5
        · exact Nat.zero_le _
      simp only [List.length_append, List.length_cons, List.length_nil]
      omega
    have hlen : (((List.range k).map (nmK w f st m)).map PV.str).length < szL := by simp; omega
    have enx : ((List.range k).map (nmK w f st m)).map PV.str ++ [.str (nmK w f st m k)] = ((List.range (k + 1)).map (nmK w f st m)).map PV.str := by
      rw [List.range_succ, List.map_append, List.map_append]; rfl
    by_cases hB : nmB w f st m k ∈ keysL
    · have i1 : primSem .isin [.str (nmB w f st m k), .lst (keysL.map PV.str)] = some (.sh (.bl true)) := by rw [pm_isinL_s, decide_eq_true hB]
      have q1 : primSem .mul [.str [113], .int 1] = some (.sh (.str [113])) := rfl
      have eK : nmB w f st m k ++ [113] = nmK w f st m k := by unfold nmK; rw [if_pos hB]
      have a2 : (nmB w f st m k).length + [113].length ≤ szL := hBl
      push_cast [ky, -TP.pm_isinL_s, i1, q1, pm_addS a2, eK, mu_app hlen, enx]
      exact ⟨k + 1, _, _, by omega, rfl, rfl⟩
    · have i1 : primSem .isin [.str (nmB w f st m k), .lst (keysL.map PV.str)] = some (.sh (.bl false)) := by rw [pm_isinL_s, decide_eq_false hB]
      have q1 : primSem .mul [.str [113], .int 0] = some (.sh (.str [])) := rfl
      have eK : nmB w f st m k ++ [] = nmK w f st m k := by unfold nmK; rw [if_neg hB]
      have a2 : (nmB w f st m k).length + ([] : List Nat).length ≤ szL := by simp only [List.length_nil]; omega
      push_cast [ky, -TP.pm_isinL_s, i1, q1, pm_addS a2, -List.append_nil, eK, mu_app hlen, enx]
      exact ⟨k + 1, _, _, by omega, rfl, rfl⟩
end TP

set_option Elab.async false
set_option linter.all false
set_option maxRecDepth 100000
set_option maxHeartbeats 8000000
set_option exponentiation.threshold 20000
/-! Kg4: programs that are drawn. -/
namespace TP
open PySem
/-- a def -/
structure Pd where
  p : Pl
  nm : List Nat
  ps : List (List Nat)
  b : Tr
def Pd.pv (d : Pd) : PV := .tup [.str [100, 101, 102], plv d.p, .str d.nm, .tup (d.ps.map PV.str), d.b.pv]
structure PdOk (nms : List (List Nat)) (hds : List Hd) (D N : Nat) (h : Hd) (d : Pd) : Prop where
  p : plOk d.p
  nm : d.nm = h.nm
  len : d.ps.length = h.ps.length
  nd : d.ps.Nodup
  ps : ∀ x ∈ d.ps, x ∈ nms
  ok : d.b.ok nms hds d.ps
  dep : d.b.dep ≤ D
  inn : d.b.inn ≤ N
def PdsOk (nms : List (List Nat)) (hds : List Hd) (D N : Nat) : List Hd → List Pd → Prop
  | [], [] => True
  | h :: hs, d :: ds => PdOk nms hds D N h d ∧ PdsOk nms hds D N hs ds
  | _, _ => False
theorem PdsOk.app {nms : List (List Nat)} {hds : List Hd} {D N : Nat} {h : Hd} {d : Pd} (k : PdOk nms hds D N h d) : ∀ {hs : List Hd} {ds : List Pd}, PdsOk nms hds D N hs ds → PdsOk nms hds D N (hs ++ [h]) (ds ++ [d])
  | [], [], _ => ⟨k, trivial⟩
  | _ :: _, _ :: _, ⟨a, b⟩ => ⟨a, PdsOk.app k b⟩
  | [], _ :: _, h => h.elim
  | _ :: _, [], h => h.elim
theorem PdsOk.len {nms : List (List Nat)} {hds : List Hd} {D N : Nat} : ∀ {hs : List Hd} {ds : List Pd}, PdsOk nms hds D N hs ds → ds.length = hs.length
  | [], [], _ => rfl
  | _ :: _, _ :: _, ⟨_, b⟩ => congrArg Nat.succ b.len
  | [], _ :: _, h => h.elim
  | _ :: _, [], h => h.elim
/-- a program that is drawn -/
structure PgOk (nms : List (List Nat)) (hds : List Hd) (D N : Nat) (ds : List Pd) : Prop where
  nm : NmOk nms
  l1 : 1 ≤ hds.length
  l4 : hds.length ≤ 4
  hn : hds.map (·.nm) = nms.take hds.length
  hp : ∀ h ∈ hds, h.ps.length ≤ 3
  ds : PdsOk nms hds D N hds ds
structure GT (tab : Tab) : Prop where
  draw : tab.lookup ("_law_draw" : Str) = some dDraw
  place : tab.lookup ("_law_place" : Str) = some gPlace
  leaf : tab.lookup ("_law_leaf" : Str) = some gLeaf
  op : tab.lookup ("_law_op" : Str) = some gOp
  call : tab.lookup ("_law_call" : Str) = some gCall
  tree : tab.lookup ("_law_tree" : Str) = some gTree
  loop : tab.lookup ("_law_loop" : Str) = some gLoop
  keys : tab.lookup ("_law_keys" : Str) = some gKeys
  names : tab.lookup ("_law_names" : Str) = some gNames
theorem GT.cx {tab : Tab} (gt : GT tab) {nms : List (List Nat)} {hds : List Hd} (h1 : NmOk nms) (h2 : ∀ h ∈ hds, h.nm ∈ nms ∧ h.ps.length ≤ 3) : GCx tab nms hds := ⟨gt.draw, gt.place, gt.leaf, gt.op, gt.call, gt.tree, h1, h2⟩
theorem set_w4 {w : Wy} {hs : List Hd} : setSem w.pv (.int 4) (.lst (hs.map Hd.pv)) = some ({ w with hds := hs } : Wy).pv := rfl
theorem zip_nr {ps : List (List Nat)} {ks : List Bool} : zipPs (ps.map PV.str) (ks.map kv) = nrv (ps.zip ks) := by
  unfold zipPs nrv
  rw [List.zip_map, List.map_map]
  rfl
theorem own_nr {nr : Nr} : Sl.own (.lst (nrv nr)) = NS true (nrv nr) := rfl
theorem cut_lastK {ps : List Bool} : cutL (ps.map kv) (some (-1)) none = (ps.drop (ps.length - 1)).map kv := by
  unfold cutL
  have e1 : HT.sIx (ps.map kv).length 0 (some (-1)) = ps.length - 1 := by
    unfold HT.sIx
    simp
    omega
  have e2 : HT.sIx (ps.map kv).length (ps.map kv).length none = (ps.map kv).length := rfl
  rw [e1, e2, List.map_drop]
  rw [List.take_of_length_le (by simp)]
theorem last_l {ps : List Bool} : ∃ B : Bool, primSem .eq [.lst (cutL (ps.map kv) (some (-1)) none), .lst [.str [108]]] = some (.sh (.bl B)) ∧ (B = true → 1 ≤ ps.length) := by
  rw [cut_lastK]
  have dk : ∀ qs : List Bool, dataOk (.lst (qs.map kv)) = true := fun qs => by
    simp only [dataOk, PV.deep, kv_deeps]
    rfl
  rw [pm_eq (dk _) rfl]
  refine ⟨_, rfl, fun h => ?_⟩
  cases ps with
  | nil => exact absurd h (by decide)
  | cons _ _ => simp
theorem cut_hd {hs : List Hd} {k : Nat} : cutL (hs.map Hd.pv) none (some (k : Int)) = (hs.take k).map Hd.pv := by
  unfold cutL
  have e1 : HT.sIx (hs.map Hd.pv).length 0 none = 0 := rfl
  rw [e1, HT.sIx_nat, List.map_take]
  rw [List.drop_zero, Nat.sub_zero]
  rcases Nat.le_total k (hs.map Hd.pv).length with h | h
  · rw [Nat.min_eq_left h]
  · rw [Nat.min_eq_right h, List.take_length, List.take_of_length_le h]
def rsG (c k : Nat) : List PV := (List.range' k (c - k)).map fun j : Nat => PV.int j
theorem rsG_0 {c : Nat} : rangeL 0 c = rsG c 0 := by
  unfold rangeL rsG
  rw [Nat.sub_zero, ← List.range_eq_range']
  exact List.map_congr_left fun k _ => by simp
theorem rsG_nil {c k : Nat} (h : k ≤ c) (e : [] = rsG c k) : k = c := by
  have := congrArg List.length e
  simp [rsG] at this
  omega
theorem rsG_cons {c k : Nat} {x : PV} {rest : List PV} (e : x :: rest = rsG c k) : k < c ∧ x = .int (k : Int) ∧ rest = rsG c (k + 1) := by
  have hk : k < c := by
    have := congrArg List.length e
    simp [rsG] at this
    omega
  refine ⟨hk, ?_⟩
  have e8 : c - k = (c - k - 1) + 1 := by omega
  unfold rsG at e
  rw [e8, List.range'_succ, List.map_cons] at e
  injection e with a b
  refine ⟨a, b.trans ?_⟩
  unfold rsG
  congr 2
theorem kinds2 {r : Int} (h0 : 0 ≤ r) (h1 : r < 2) : ∃ k : Bool, L2.atI [PV.str [110], PV.str [108]] r = some (.str (kx k)) := by
  have hc : r = 0 ∨ r = 1 := by omega
  rcases hc with rfl | rfl
  · exact ⟨false, rfl⟩
  · exact ⟨true, rfl⟩
local macro_rules
  | `(tactic| push_cast [$xs,*]) => `(tactic| simp (maxSteps := 2000000) -implicitDefEqProofs -dsimp (disch := first | assumption | (with_reducible refine TP.big_lit ?_; omega) | decide | omega | (simp only [List.length_cons, List.length_nil, List.length_map, List.length_append, TP.szL]; omega)) only [TP.oK_some, TP.varK_val, TP.varK_own, TP.BR_t, TP.BR_f, TP.BR_d, ↓TP.wE_con, ↓TP.wE_dead, ↓TP.wEs_nil, ↓TP.wEs_cons, ↓TP.wE_prim1, ↓TP.wE_prim2, TP.strK_s, ↓TP.wE_sm, TP.dixK_s, ↓TP.wE_didx, ↓TP.wE_dnew, TP.dctK_d, TP.DG_s, ↓TP.wE_dget, TP.TS_bl, ↓TP.wE_not, ↓TP.wE_and1, ↓TP.wE_and, ↓TP.wE_or1, ↓TP.wE_or, ↓TP.wE_ite, ↓TP.wE_chain, ↓TP.KPs_nil, ↓TP.wE_disp, TP.keep_sh, TP.keep_fr, TP.keep_hd, TP.keepH_val, TP.keepH_own, ↓TP.wE_tup, ↓TP.wE_list, ↓TP.wE_call, ↓TP.wE_callK, TP.gloK_v, ↓TP.wE_callL, ↓TP.wE_mut, ↓TP.wE_slice, ↓TP.wE_lc, ↓TP.wE_lc2, TP.itK_s, ↓TP.wI_of, TP.rgK_i, ↓TP.wI_range1, TP.rg2K_i, ↓TP.wI_range2, ↓TP.wI_enum, ↓TP.wI_rev, ↓TP.wI_zip, ↓TP.nxt_nx, ↓TP.nxt_br, ↓TP.nxt_ct, ↓TP.nxt_rt, ↓TP.lpQ_nx, ↓TP.lpQ_ct, ↓TP.lpQ_br, ↓TP.lpQ_rt, TP.BT_nm, TP.BT_tup, TP.BT_lst, TP.BTs_nil, TP.BTs_cons, TP.AG_sh, TP.AG_fr, TP.AG_frT, TP.AG_hd, TP.RT_sh, TP.RT_fr, TP.RT_hd, TP.rtH_val, TP.rtH_own, TP.rtH_par, ↓TP.wS_nil, ↓TP.wS_asg, ↓TP.wS_ret, ↓TP.wS_retN, ↓TP.wS_pass, ↓TP.wS_brk, ↓TP.wS_cont, ↓TP.wS_dead, ↓TP.wS_expr, ↓TP.wS_apc, ↓TP.wS_apn, ↓TP.wS_ite, ↓TP.wS_setix, ↓TP.wS_augU, TP.AU_v, ↓TP.wS_par, ↓TP.wS_asgR, ↓TP.wS_for, ↓TP.wS_while, ↓TP.dfQ_nx, ↓TP.dfQ_rt, ↓TP.wE_var', TP.cont_sh, TP.cont_fr, TP.cont_hd, TP.contH_val, TP.contH_own, TP.boxC_nl, TP.boxC_non, TP.boxC_bl, TP.boxC_int, TP.boxC_str, TP.boxC_tup, TP.boxC_lst, TP.boxC_rol, TP.boxC_dct, TP.boxC_ty, TP.boxC_glo, TP.putBack_hd, TP.pbH_own, TP.argsOf_nil, TP.argsOf_sh, TP.argsOf_fr, TP.argsOf_hd, TP.argH_val, TP.argH_own, TP.backE_nil, TP.backE_sh, TP.backE_fr, TP.backE_own, TP.backE_val, TP.permR_nil, TP.permR_inl, TP.permR_inr, TP.finA_nil, TP.finA_cons, TP.frzA_nil, TP.frzA_cons, TP.frz1_eq, TP.frH_own, TP.frH_val, TP.itemsOf_lst, TP.itemsOf_tup, TP.itemsOf_rol, TP.itemsOf_str, TP.itemsOf_dct, TP.enumOf_lst, TP.revOf_lst, TP.revOf_tup, TP.zipOf_lst, TP.zipOf_tup, TP.P1_s, TP.P2_s, TP.SM_s, TP.MU_s, TP.SX_s, TP.C2_s, TP.C2k_t, TP.C2k_f, TP.C2k_d, TP.BR_nd, TP.pm_add, TP.pm_sub, TP.pm_neg, TP.pm_addS, TP.pm_addT, TP.pm_addL, TP.pm_mul, TP.pm_fdiv, TP.pm_mod, TP.pm_pow, TP.pm_lt, TP.pm_le, TP.pm_gt, TP.pm_ge, TP.pm_isN, TP.pm_notN, TP.pm_isB, TP.pm_notB, TP.pm_idx_lst, TP.pm_len_lst, TP.pm_idx_tup, TP.pm_len_tup, TP.pm_idx_rol, TP.pm_len_rol, TP.pm_idx_str, TP.pm_len_str, TP.pm_abs, TP.pm_min2, TP.pm_max2, TP.pm_toIntI, TP.pm_toIntB, TP.pm_toTupL, TP.pm_toTupT, TP.pm_toList_lst, TP.pm_toList_tup, TP.pm_toList_rol, TP.pm_all, TP.pm_maxD, TP.pm_zipL, TP.pm_any, TP.pm_sum, TP.pm_revs, TP.pm_toStrI, TP.pm_joinL, TP.jnK_s, TP.pm_split, TP.pm_mulS, TP.pm_mulL, TP.pm_mulT, TP.pm_isinT, TP.pm_isinL, TP.pm_notinT, TP.pm_notinL, TP.pm_isinS, TP.pm_notinS, TP.pm_isi_non_int, TP.pm_isi_non_bool, TP.pm_isi_non_str, TP.pm_isi_non_tuple, TP.pm_isi_non_list, TP.pm_isi_bl_int, TP.pm_isi_bl_bool, TP.pm_isi_bl_str, TP.pm_isi_bl_tuple, TP.pm_isi_bl_list, TP.pm_isi_int_int, TP.pm_isi_int_bool, TP.pm_isi_int_str, TP.pm_isi_int_tuple, TP.pm_isi_int_list, TP.pm_isi_str_int, TP.pm_isi_str_bool, TP.pm_isi_str_str, TP.pm_isi_str_tuple, TP.pm_isi_str_list, TP.pm_isi_tup_int, TP.pm_isi_tup_bool, TP.pm_isi_tup_str, TP.pm_isi_tup_tuple, TP.pm_isi_tup_list, TP.pm_isi_lst_int, TP.pm_isi_lst_bool, TP.pm_isi_lst_str, TP.pm_isi_lst_tuple, TP.pm_isi_lst_list, TP.mu_app, TP.mu_clear, TP.mu_reverse, TP.mutTy_s, TP.set_lst, TP.key_int, TP.key_str, TP.pm_idx_dct, TP.pm_isin_dct, TP.pm_notin_dct, TP.pm_len_dct, TP.set_dct, TP.PD_s, TP.pairs_nil, TP.pairs_str, TP.pairs_int, TP.aug_add, TP.aug_sub, TP.sl_lst, TP.sl_tup, TP.sl_str, TP.bnd_abs, TP.bnd_int, TP.isAbs_non, TP.isAbs_int, TP.isAbs_var, TP.isAbs_prim, TP.isAbs_call, TP.bools_map, TP.ints_map, TP.strs_map, TP.ixN_0, TP.ixN_1, TP.atI_c0, TP.atI_nat, TP.atI_c1, TP.atI_c2, TP.atI_c3, TP.atI_c4, TP.atI_c5, TP.atI_c6, TP.atI_c7, TP.pm_eqI, TP.pm_neI, TP.tx_ok, TP.pm_eqS, TP.pm_neS, TP.any_str, TP.all_flat_str, TP.pm_isinT_s, TP.pm_notinT_s, TP.pm_isinL_s, TP.pm_notinL_s, TP.WC_ok, ↓TP.KPs_cons, List.getElem?_cons_succ, List.getElem?_cons_zero, List.set_cons_succ, List.set_cons_zero, List.cons_append, List.nil_append, List.length_cons, List.length_nil, Option.map_some, Option.bind_some, List.append_nil, List.getD_cons_zero, List.getD_cons_succ, List.replicate_succ, List.replicate_zero, TP.wipeS_nil, TP.wipeS_cons, TP.restS_nil, TP.restS_cons, TP.ownSlots_nil, TP.ownSlots_cons, TP.owH_val, TP.owH_un, Bool.or_false, Bool.false_or, Bool.or_true, Bool.true_or, Bool.and_true, Bool.true_and, Bool.and_false, Bool.false_and, Bool.not_true, Bool.not_false, List.not_mem_nil, if_true, if_false, ite_true, ite_false, and_true, true_and, forall_const, true_implies, false_implies, not_true, not_false, decide_true, decide_false, decide_eq_true_eq, Bool.false_eq_true, Bool.true_eq_false, and_self, not_true_eq_false, not_false_eq_true, ↓TP.CS_nil, ↓TP.CS_one, Int.reduceAdd, Int.reduceSub, Int.reduceMul, Int.reduceNeg, Int.reduceLT, Int.reduceLE, Int.reduceToNat, Int.reducePow, Nat.reduceAdd, Nat.reduceSub, Nat.reduceEqDiff, Int.reduceEq, Int.reduceFDiv, Int.reduceFMod, List.cons.injEq, reduceCtorEq, List.mem_cons, or_false, or_true, false_or, true_or, false_and, and_false, ne_eq, TP.varK_ns, TP.cont_rn, TP.contN_ns, TP.argsOf_rn, TP.argN_ns, TP.backE_rn, TP.bkN_ns, TP.keep_rn, TP.keepN_ns, TP.owH_ns, TP.pm_w2, TP.pm_w3, TP.pm_w4, TP.pm_w5, TP.set_w2, TP.pm_h0, TP.pm_h1, TP.pm_h2, TP.boxC_hdv, TP.kv_eqn, TP.kv_eql, TP.kv_eqk, TP.pm_isinL_s, TP.pm_notinL_s, TP.to_nms, TP.to_hds, TP.to_w5, TP.to_w2, TP.to_w0, TP.to_to, $xs,*])

def gProgram : Fd := ⟨3, 16, [], [.asg (.nm 3) (.call "_law_names" [(.var 0), (.con (.int (8)))]), .asg (.nm 4) (.prim .idx [(.list [(.con (.int (1))), (.con (.int (7))), (.con (.int (61))), (.con (.int (13))), (.con (.int (1))), (.con (.int (0)))]), (.call "_law_draw" [(.var 0), (.con (.int (6)))])]), .asg (.nm 5) (.list [(.call "_law_draw" [(.var 0), (.con (.int (300)))]), (.var 4), (.con (.int (0))), (.var 3), (.list []), (.prim .idx [(.list [(.con (.int (9))), (.con (.int (40))), (.con (.int (0)))]), (.call "_law_draw" [(.var 0), (.con (.int (3)))])])]), .asg (.nm 6) (.list []), .for (.nm 7) (.range [(.prim .add [(.con (.int (1))), (.call "_law_draw" [(.var 0), (.con (.int (4)))])])]) [.asg (.nm 8) (.lc (.prim .idx [(.list [(.con (.str [110])), (.con (.str [108]))]), (.call "_law_draw" [(.var 0), (.con (.int (2)))])]) (.nm 15) (.range [(.call "_law_draw" [(.var 0), (.con (.int (4)))])]) [] [15]), .expr (.mut .append (.var 6) [(.tup [(.prim .idx [(.var 3), (.var 7)]), (.var 8), (.prim .idx [(.list [(.con (.str [110])), (.con (.str [108]))]), (.call "_law_draw" [(.var 0), (.con (.int (2)))])])])])], .asg (.nm 9) (.call "_law_draw" [(.var 0), (.con (.int (3)))]), .asg (.nm 10) (.list []), .for (.tp [(.nm 7), (.nm 11)]) (.enum (.var 6)) [.asg (.nm 12) (.call "_law_draw" [(.var 0), (.con (.int (8)))]), .asg (.nm 8) (.lc (.prim .idx [(.var 3), (.prim .mod [(.prim .add [(.var 12), (.var 15)]), (.con (.int (8)))])]) (.nm 15) (.range [(.prim .len [(.prim .idx [(.var 11), (.con (.int (1)))])])]) [] [15]), .setix (.var 5) (.con (.int (4))) (.ite (.prim .gt [(.var 9), (.con (.int (0)))]) (.slice (.var 6) (.con (.non)) (.var 7)) (.var 6)), .setix (.var 5) (.con (.int (2))) (.prim .fdiv [(.var 1), (.prim .len [(.var 6)])]), .asg (.nm 13) (.call "_law_place" [(.var 5)]), .ite (.and [(.prim .eq [(.slice (.prim .idx [(.var 11), (.con (.int (1)))]) (.prim .neg [(.con (.int (1)))]) (.con (.non))), (.list [(.con (.str [108]))])]), (.prim .notin [(.prim .idx [(.var 11), (.con (.int (0)))]), (.var 8)]), (.prim .eq [(.call "_law_draw" [(.var 0), (.con (.int (2)))]), (.con (.int (0)))])]) [.asg (.nm 14) (.call "_law_loop" [(.var 0), (.var 5), (.var 11), (.var 8)])] [.asg (.nm 14) (.call "_law_tree" [(.var 0), (.var 5), (.prim .idx [(.var 11), (.con (.int (2)))]), (.prim .zipL [(.var 8), (.prim .idx [(.var 11), (.con (.int (1)))])]), (.var 2)])], .expr (.mut .append (.var 10) [(.tup [(.con (.str [100, 101, 102])), (.var 13), (.prim .idx [(.var 11), (.con (.int (0)))]), (.prim .toTup [(.var 8)]), (.var 14)])])], .ret (.tup [(.prim .toTup [(.var 10)]), (.var 6)])]⟩
theorem wc_program {tab : Tab} (gt : GT tab) (hl : tab.lookup ("_law_program" : Str) = some gProgram) {n : Nat} {d : Dr} {size : Int} {kd : Nat} {sto : List SO} {Q : RV → List Sl → List SO → Prop} {X : PV → List Sl → List SO → Prop} (hs : 0 ≤ size ∧ size ≤ 10000) (hd : kd ≤ 9) (hn : 2 * kd + 8 ≤ n)
    (q : ∀ (d' : Dr) (nms : List (List Nat)) (hds : List Hd) (ds : List Pd), PgOk nms hds (max 4 (kd + 1)) (max 3 size.toNat) ds → Q (.sh (.tup [.tup (ds.map Pd.pv), .lst (hds.map Hd.pv)])) [.own d'.pv, .val (.int size), .val (.int ((kd + 1 : Nat) : Int))] sto) :
    WC (callF tab n "_law_program" [.own d.pv, .val (.int size), .val (.int ((kd + 1 : Nat) : Int))] sto) Q X := by
  obtain ⟨m, rfl⟩ : ∃ m, n = m + 6 := ⟨n - 6, by omega⟩
  refine wc_def hl ⟨rfl, by decide⟩ ?_
  simp only [gProgram]
  push_cast []
  refine wc_names gt.draw gt.keys gt.names fun d1 nms hnm => ?_
  push_cast []
  refine wc_draw gt.draw (by omega) (wd_lit (by omega)) fun r1 d2 h0 h1 => ?_
  obtain ⟨st, hst, hsm⟩ := atU_memM (g := fun m : Nat => PV.int (m : Int)) (ys := [1, 7, 61, 13, 1, 0]) h0 (by simpa using h1)
  push_cast [show L2.atI [PV.int 1, PV.int 7, PV.int 61, PV.int 13, PV.int 1, PV.int 0] r1 = some (.int (st : Int)) from hst]
  refine wc_draw gt.draw (by omega) (wd_lit (by omega)) fun w0 d3 h2 h3 => ?_
  push_cast []
  refine wc_draw gt.draw (by omega) (wd_lit (by omega)) fun r2 d4 h4 h5 => ?_
  obtain ⟨w5, hw5, hwm⟩ := atU_memM (g := fun m : Nat => PV.int (m : Int)) (ys := [9, 40, 0]) h4 (by simpa using h5)
  have hw40 : w5 ≤ 40 := by simp only [List.mem_cons, List.not_mem_nil, or_false] at hwm; omega
  push_cast [show L2.atI [PV.int 9, PV.int 40, PV.int 0] r2 = some (.int (w5 : Int)) from hw5]
  refine wc_draw gt.draw (by omega) (wd_lit (by omega)) fun r3 d5 h6 h7 => ?_
  push_cast []
  obtain ⟨c, hc⟩ : ∃ c : Nat, 1 + r3 = (c : Int) := ⟨(1 + r3).toNat, by omega⟩
  rw [hc, Int.toNat_natCast]
  refine ⟨by omega, ?_⟩
  rw [rsG_0]
  refine fr_rule (fun rest s => ∃ (hs : List Hd) (d' : Dr) (s7 s8 : Sl), hs.length ≤ c ∧ rest = rsG c hs.length ∧ hs.map (·.nm) = nms.take hs.length ∧ (∀ h ∈ hs, h.ps.length ≤ 3) ∧ s = ⟨[.own d'.pv, .val (.int size), .val (.int ((kd + 1 : Nat) : Int)), .val (.lst (nms.map PV.str)), .val (.int (st : Int)), .own (Wy.pv ⟨w0, st, 0, nms, [], w5⟩), .own (.lst (hs.map Hd.pv)), s7, s8, .un, .un, .un, .un, .un, .un, .un], sto⟩) ⟨[], d5, _, _, Nat.zero_le _, rfl, rfl, fun _ h => (nomatch h), rfl⟩ ?_ ?_
  rotate_left
  · rintro x rest s ⟨hs, d', s7, s8, hle, er, hnms, hp3, rfl⟩
    obtain ⟨hlt, rfl, rfl⟩ := rsG_cons er
    have hn8 := hnm.len
    have hlt8 : hs.length < nms.length := by omega
    have enm : L2.atI (nms.map PV.str) (hs.length : Int) = some (.str nms[hs.length]) := by rw [atI_nat (by simpa using hlt8)]; simp
    push_cast []
    refine wc_draw gt.draw (by omega) (wd_lit (by omega)) fun r4 d6 j0 j1 => ?_
    push_cast []
    obtain ⟨e, he⟩ := Int.eq_ofNat_of_zero_le j0
    rw [he, Int.toNat_natCast]
    refine ⟨by omega, ?_⟩
    rw [rsG_0]
    refine lc_inv (fun rest acc s => ∃ (ks : List Bool) (d' : Dr) (sl : Sl), rest.length + ks.length = e ∧ acc = ks.map kv ∧ s = ⟨[.own d'.pv, .val (.int size), .val (.int ((kd + 1 : Nat) : Int)), .val (.lst (nms.map PV.str)), .val (.int (st : Int)), .own (Wy.pv ⟨w0, st, 0, nms, [], w5⟩), .own (.lst (hs.map Hd.pv)), .val (.int (hs.length : Int)), s8, .un, .un, .un, .un, .un, .un, sl], sto⟩)
      (by simp only [ownSlots_cons, ownSlots_nil, List.getElem?_cons_succ, List.getElem?_cons_zero, owH_un, Bool.or_false]) ⟨[], d6, .un, by simp [rsG], rfl, rfl⟩ ?_ ?_
    · rintro x rest acc s ⟨ks, d', sl, e1, rfl, rfl⟩
      simp only [List.length_cons] at e1
      refine ⟨by rw [List.length_map]; unfold szL; omega, ?_⟩
      push_cast []
      refine wc_draw gt.draw (by omega) (wd_lit (by omega)) fun r5 d7 j2 j3 => ?_
      obtain ⟨k, ek⟩ := kinds2 j2 j3
      push_cast [ek]
      exact ⟨ks ++ [k], d7, .val x, by rw [List.length_append, List.length_singleton]; omega, by simp [kv], rfl⟩
    rintro acc s ⟨ks, d7, sl, e1, rfl, rfl⟩
    simp only [List.length_nil, Nat.zero_add] at e1
    push_cast [enm]
    refine wc_draw gt.draw (by omega) (wd_lit (by omega)) fun r5 d8 j2 j3 => ?_
    obtain ⟨k, ek⟩ := kinds2 j2 j3
    have hlen : (hs.map Hd.pv).length < szL := by have : 100 < szL := by decide
                                                  rw [List.length_map]; omega
    have ehd : hs.map Hd.pv ++ [PV.tup [PV.str nms[hs.length], PV.lst (ks.map kv), PV.str (kx k)]] = (hs ++ [Hd.mk nms[hs.length] ks k]).map Hd.pv := by simp [Hd.pv, kv]
    push_cast [ek, mu_app hlen, ehd]
    refine ⟨hs ++ [Hd.mk nms[hs.length] ks k], d8, _, _, by simp; omega, by simp, ?_, fun h hh => ?_, rfl⟩
    · rw [List.map_append, hnms, List.length_append, List.length_singleton, List.take_add_one, List.getElem?_eq_getElem hlt8]
      rfl
    · rcases List.mem_append.mp hh with z | z
      · exact hp3 h z
      · rw [List.mem_singleton] at z
        rw [z]
        show ks.length ≤ 3
        omega
  rintro s ⟨hds, d6, s7, s8, hle, er, hnms, hp3, rfl⟩
  have hcl := rsG_nil hle er
  push_cast []
  refine wc_draw gt.draw (by omega) (wd_lit (by omega)) fun al d7 j0 j1 => ?_
  push_cast []
  have hn8 := hnm.len
  have C : GCx tab nms hds := gt.cx hnm fun h hh => ⟨by
    have : h.nm ∈ hds.map (·.nm) := List.mem_map_of_mem hh
    rw [hnms] at this
    exact List.mem_of_mem_take this, hp3 h hh⟩
  have gA : ∀ j : Nat, L2.atI (nms.map PV.str) ((j % 8 : Nat) : Int) = some (.str (nms.getD (j % 8) [])) := fun j => by
    have hlt : j % 8 < nms.length := by rw [hn8]; exact Nat.mod_lt _ (by omega)
    rw [atI_nat (by simpa using hlt)]
    simp [List.getD_eq_getElem?_getD, hlt]
  have hc1 : 1 ≤ c := by omega
  have sz3 : 1000 ≤ szL := by decide
  refine fr_rule (fun rest s => ∃ (done todo : List Hd) (ds : List Pd) (d' : Dr) (w : Wy) (s7 s8 s11 s12 s13 s14 : Sl), hds = done ++ todo ∧ rest = enumL done.length (todo.map Hd.pv) ∧ PdsOk nms hds (max 4 (kd + 1)) (max 3 size.toNat) done ds ∧ w.nms = nms ∧ w.w5 ≤ 1000 ∧
    s = ⟨[.own d'.pv, .val (.int size), .val (.int ((kd + 1 : Nat) : Int)), .val (.lst (nms.map PV.str)), .val (.int (st : Int)), .own w.pv, .val (.lst (hds.map Hd.pv)), s7, s8, .val (.int al), .own (.lst (ds.map Pd.pv)), s11, s12, s13, s14, .un], sto⟩)
    ⟨[], hds, [], d7, _, _, _, _, _, _, _, rfl, rfl, trivial, rfl, (by show (w5 : Int) ≤ 1000; omega), rfl⟩ ?_ ?_
  · rintro s ⟨done, todo, ds, d', w, s7, s8, s11, s12, s13, s14, e0, er, hpd, hw1, hw2, rfl⟩
    cases todo with
    | cons _ _ => cases er
    | nil =>
    rw [List.append_nil] at e0
    subst e0
    push_cast []
    exact q d' nms hds ds ⟨hnm, by omega, by omega, hnms, hp3, hpd⟩
  · rintro x rest s ⟨done, todo, ds, d', w, s7, s8, s11, s12, s13, s14, e0, er, hpd, hw1, hw2, rfl⟩
    cases todo with
    | nil => cases er
    | cons h todo =>
    rw [List.map_cons, enumL] at er
    injection er with er1 er2
    subst er1 er2
    have hh : h ∈ hds := by rw [e0]; simp
    have hps3 := hp3 h hh
    push_cast []
    refine wc_draw gt.draw (by omega) (wd_lit (by omega)) fun f0 d8 i2 i3 => ?_
    push_cast [List.length_map]
    obtain ⟨f, rfl⟩ := Int.eq_ofNat_of_zero_le i2
    rw [Int.toNat_natCast, rsG_0]
    refine ⟨by omega, ?_⟩
    refine lc_inv (fun rest acc s => ∃ (k : Nat) (sl : Sl), k ≤ h.ps.length ∧ rest = rsG h.ps.length k ∧ acc = ((List.range k).map fun j => nms.getD ((f + j) % 8) []).map PV.str ∧ s = ⟨[.own d8.pv, .val (.int size), .val (.int ((kd + 1 : Nat) : Int)), .val (.lst (nms.map PV.str)), .val (.int (st : Int)), .own w.pv, .val (.lst (hds.map Hd.pv)), .val (.int (done.length : Int)), s8, .val (.int al), .own (.lst (ds.map Pd.pv)), .val h.pv, .val (.int (f : Int)), s13, s14, sl], sto⟩)
      (by simp only [ownSlots_cons, ownSlots_nil, List.getElem?_cons_succ, List.getElem?_cons_zero, owH_un, Bool.or_false]) ⟨0, .un, Nat.zero_le _, rfl, rfl, rfl⟩ ?_ ?_
    · rintro x rest acc s ⟨k, sl, hk, er, rfl, rfl⟩
      obtain ⟨hlt, rfl, rfl⟩ := rsG_cons er
      refine ⟨by simp; omega, ?_⟩
      have ej : ((f : Int) + (k : Int)).fmod 8 = (((f + k) % 8 : Nat) : Int) := by
        rw [Int.fmod_eq_emod_of_nonneg _ (by omega)]
        omega
      push_cast [ej, gA]
      exact ⟨k + 1, _, by omega, rfl, by rw [List.range_succ, List.map_append, List.map_append]; rfl, rfl⟩
    rintro acc s ⟨k, sl, hk, er, rfl, rfl⟩
    have hk := rsG_nil hk er
    subst hk
    have psl : ((List.range h.ps.length).map fun j => nms.getD ((f + j) % 8) []).length = h.ps.length := by simp
    have psm : ∀ x ∈ (List.range h.ps.length).map fun j => nms.getD ((f + j) % 8) [], x ∈ nms := fun x hx => by
      obtain ⟨j, _, rfl⟩ := List.mem_map.mp hx
      have hlt : (f + j) % 8 < nms.length := by rw [hn8]; exact Nat.mod_lt _ (by omega)
      rw [List.getD_eq_getElem?_getD, List.getElem?_eq_getElem hlt]
      exact List.getElem_mem hlt
    have psn : ((List.range h.ps.length).map fun j => nms.getD ((f + j) % 8) []).Nodup := by
      rw [List.Nodup, List.pairwise_map]
      refine List.Pairwise.imp_of_mem (fun {i j} hi hj hne e => hne ?_) (List.nodup_range (n := h.ps.length))
      rw [List.mem_range] at hi hj
      have hl1 : (f + i) % 8 < nms.length := by rw [hn8]; exact Nat.mod_lt _ (by omega)
      have hl2 : (f + j) % 8 < nms.length := by rw [hn8]; exact Nat.mod_lt _ (by omega)
      rw [List.getD_eq_getElem?_getD, List.getD_eq_getElem?_getD, List.getElem?_eq_getElem hl1, List.getElem?_eq_getElem hl2] at e
      have e2 : nms[(f + i) % 8]? = nms[(f + j) % 8]? := by
        rw [List.getElem?_eq_getElem hl1, List.getElem?_eq_getElem hl2]
        exact congrArg some e
      have := (List.getElem?_inj hl1 hnm.nd).mp e2
      omega
    generalize ((List.range h.ps.length).map fun j => nms.getD ((f + j) % 8) []) = ps at psl psm psn
    push_cast [-TP.wS_setix]
    refine wS_split (fun s => ∃ (hs' : List Hd), (∀ h ∈ hs', h ∈ hds) ∧ hs'.length ≤ 8 ∧ s = ⟨[.own d8.pv, .val (.int size), .val (.int ((kd + 1 : Nat) : Int)), .val (.lst (nms.map PV.str)), .val (.int (st : Int)), .own ({ w with hds := hs' } : Wy).pv, .val (.lst (hds.map Hd.pv)), .val (.int (done.length : Int)), .own (.lst (ps.map PV.str)), .val (.int al), .own (.lst (ds.map Pd.pv)), .val h.pv, .val (.int (f : Int)), s13, s14, .un], sto⟩) ?_ ?_
    · push_cast [cut_hd, set_w4]
      refine ⟨fun _ => ⟨hds.take done.length, fun h hh => List.mem_of_mem_take hh, by rw [List.length_take]; omega, rfl⟩, fun _ => ⟨hds, fun _ h => h, by omega, rfl⟩⟩
    rintro s ⟨hs', hs1, hs2, rfl⟩
    have hL : (hds.map Hd.pv).length = c := by rw [List.length_map, hcl]
    have bc : intBig (c : Int) = true := big_lit (by omega)
    push_cast [hL]
    refine wc_place gt.place fun p a hp => ?_
    push_cast [-TP.wS_ite]
    have hsz : size.fdiv (c : Int) ≤ size := by
      rw [Int.fdiv_eq_ediv_of_nonneg _ (by omega)]
      exact Int.ediv_le_self _ hs.1
    have gw : GW nms hds (Wy.to { w with hds := hs' } a (size.fdiv (c : Int))) := ⟨hw1, hs1, hs2, hw2⟩
    obtain ⟨B, eB, hB⟩ := @last_l h.ps
    refine wS_split (fun s => ∃ (d9 : Dr) (w9 : Wy) (t : Tr) (b9 : Bool), w9.nms = nms ∧ w9.w5 ≤ 1000 ∧ t.ok nms hds ps ∧ t.dep ≤ max 4 (kd + 1) ∧ t.inn ≤ max 3 size.toNat ∧ s = ⟨[.own d9.pv, .val (.int size), .val (.int ((kd + 1 : Nat) : Int)), .val (.lst (nms.map PV.str)), .val (.int (st : Int)), .own w9.pv, .val (.lst (hds.map Hd.pv)), .val (.int (done.length : Int)), NS b9 (ps.map PV.str), .val (.int al), .own (.lst (ds.map Pd.pv)), .val h.pv, .val (.int (f : Int)), .val (plv p), .val t.pv, .un], sto⟩) ?_ ?_
    rotate_left
    · rintro s ⟨d9, w9, t, b9, hw91, hw95, ot, dt, it, rfl⟩
      have hlen : (ds.map Pd.pv).length < szL := by
        have := hpd.len
        have h2 : done.length ≤ 4 := by have := congrArg List.length e0; simp at this; omega
        rw [List.length_map]; omega
      have epd : ds.map Pd.pv ++ [PV.tup [PV.str [100, 101, 102], plv p, PV.str h.nm, PV.tup (ps.map PV.str), t.pv]] = (ds ++ [Pd.mk p h.nm ps t]).map Pd.pv := by simp [Pd.pv]
      push_cast [mu_app hlen, epd]
      exact ⟨done ++ [h], todo, _, d9, w9, _, _, _, _, _, _, by rw [e0]; simp, by simp, hpd.app ⟨hp, rfl, psl, psn, psm, ot, dt, it⟩, hw91, hw95, rfl⟩
    have treeG : ∀ (dd : Dr), WC (callF tab (m + 5) "_law_tree" [.own dd.pv, .own (Wy.to { w with hds := hs' } a (size.fdiv (c : Int))).pv, .val (.str (kx h.k)), NS true (nrv (ps.zip h.ps)), .val (.int ((kd + 1 : Nat) : Int))] sto) (fun r fin st => ∃ (d' : Dr) (b' : Bool) (a2 c2 : Int) (t : Tr), t.ok nms hds ps ∧ t.dep ≤ max 4 (kd + 1) ∧ t.inn ≤ max 3 size.toNat ∧ r = .sh t.pv ∧ fin = [.own d'.pv, .own (Wy.to { w with hds := hs' } a2 c2).pv, .val (.str (kx h.k)), NS b' (nrv (ps.zip h.ps)), .val (.int ((kd + 1 : Nat) : Int))] ∧ st = sto) (fun _ _ _ => False) := fun dd => by
      have hzm : ∀ x, x ∈ (ps.zip h.ps).map (·.1) ↔ x ∈ ps := fun x => by
        rw [show (ps.zip h.ps).map (·.1) = ps from List.map_fst_zip (by omega)]
      refine tsp C kd (by omega) gw (fun x hx => psm x ((hzm x).mp hx)) (by rw [List.length_zip]; omega) fun d' b' a2 c2 t ot dt it => ?_
      refine ⟨d', b', a2, c2, t, Tr.ok_cg hzm ot, by omega, ?_, rfl, rfl, rfl⟩
      simp only [to_w2] at it
      omega
    have hzl : min (ps.map PV.str).length (h.ps.map kv).length ≤ szL := by rw [List.length_map, List.length_map]; omega
    cases B with
    | false =>
      push_cast [eB, pm_zipL hzl, zip_nr, own_nr]
      refine WC_mono (treeG d8) (fun r fin st => ?_) fun _ _ _ h => h.elim
      rintro ⟨d', b', a2, c2, t, ot, dt, it, rfl, rfl, rfl⟩
      push_cast []
      exact ⟨d', Wy.to { w with hds := hs' } a2 c2, t, true, hw1, hw2, ot, dt, it, rfl⟩
    | true =>
      push_cast [eB, pm_zipL hzl, zip_nr, own_nr]
      refine ⟨fun hnin => ?_, fun hnin => ?_⟩
      · refine wc_draw gt.draw (by omega) (wd_lit (by omega)) fun r6 d9 i4 i5 => ?_
        push_cast [pm_zipL hzl, zip_nr, own_nr]
        refine ⟨fun h0 => ?_, fun h0 => ?_⟩
        · refine wc_loop C gt.loop (b := true) gw psm (by have := hB rfl; omega) psl hh hnin fun d' a2 t ot dt it => ?_
          push_cast []
          exact ⟨d', Wy.to { w with hds := hs' } a2 (size.fdiv (c : Int)), t, false, hw1, hw2, ot, by omega, by omega, rfl⟩
        · refine WC_mono (treeG d9) (fun r fin st => ?_) fun _ _ _ h => h.elim
          rintro ⟨d', b', a2, c2, t, ot, dt, it, rfl, rfl, rfl⟩
          push_cast []
          exact ⟨d', Wy.to { w with hds := hs' } a2 c2, t, true, hw1, hw2, ot, dt, it, rfl⟩
      · refine WC_mono (treeG d8) (fun r fin st => ?_) fun _ _ _ h => h.elim
        rintro ⟨d', b', a2, c2, t, ot, dt, it, rfl, rfl, rfl⟩
        push_cast []
        exact ⟨d', Wy.to { w with hds := hs' } a2 c2, t, true, hw1, hw2, ot, dt, it, rfl⟩
end TP

set_option Elab.async false
set_option linter.all false
set_option maxRecDepth 100000
set_option maxHeartbeats 8000000
set_option exponentiation.threshold 20000
/-! Kg5: what is a program: programs that are. -/
namespace TP
open PySem
local macro_rules
  | `(tactic| push_cast [$xs,*]) => `(tactic| simp (maxSteps := 2000000) -implicitDefEqProofs -dsimp (disch := first | assumption | (with_reducible refine TP.big_lit ?_; omega) | decide | omega | (simp only [List.length_cons, List.length_nil, List.length_map, List.length_append, TP.szL]; omega)) only [TP.oK_some, TP.varK_val, TP.varK_own, TP.BR_t, TP.BR_f, TP.BR_d, ↓TP.wE_con, ↓TP.wE_dead, ↓TP.wEs_nil, ↓TP.wEs_cons, ↓TP.wE_prim1, ↓TP.wE_prim2, TP.strK_s, ↓TP.wE_sm, TP.dixK_s, ↓TP.wE_didx, ↓TP.wE_dnew, TP.dctK_d, TP.DG_s, ↓TP.wE_dget, TP.TS_bl, ↓TP.wE_not, ↓TP.wE_and1, ↓TP.wE_and, ↓TP.wE_or1, ↓TP.wE_or, ↓TP.wE_ite, ↓TP.wE_chain, ↓TP.KPs_nil, ↓TP.wE_disp, TP.keep_sh, TP.keep_fr, TP.keep_hd, TP.keepH_val, TP.keepH_own, ↓TP.wE_tup, ↓TP.wE_list, ↓TP.wE_call, ↓TP.wE_callK, TP.gloK_v, ↓TP.wE_callL, ↓TP.wE_mut, ↓TP.wE_slice, ↓TP.wE_lc, ↓TP.wE_lc2, TP.itK_s, ↓TP.wI_of, TP.rgK_i, ↓TP.wI_range1, TP.rg2K_i, ↓TP.wI_range2, ↓TP.wI_enum, ↓TP.wI_rev, ↓TP.wI_zip, ↓TP.nxt_nx, ↓TP.nxt_br, ↓TP.nxt_ct, ↓TP.nxt_rt, ↓TP.lpQ_nx, ↓TP.lpQ_ct, ↓TP.lpQ_br, ↓TP.lpQ_rt, TP.BT_nm, TP.BT_tup, TP.BT_lst, TP.BTs_nil, TP.BTs_cons, TP.AG_sh, TP.AG_fr, TP.AG_frT, TP.AG_hd, TP.RT_sh, TP.RT_fr, TP.RT_hd, TP.rtH_val, TP.rtH_own, TP.rtH_par, ↓TP.wS_nil, ↓TP.wS_asg, ↓TP.wS_ret, ↓TP.wS_retN, ↓TP.wS_pass, ↓TP.wS_brk, ↓TP.wS_cont, ↓TP.wS_dead, ↓TP.wS_expr, ↓TP.wS_apc, ↓TP.wS_apn, ↓TP.wS_ite, ↓TP.wS_setix, ↓TP.wS_augU, TP.AU_v, ↓TP.wS_par, ↓TP.wS_asgR, ↓TP.wS_for, ↓TP.wS_while, ↓TP.dfQ_nx, ↓TP.dfQ_rt, ↓TP.wE_var', TP.cont_sh, TP.cont_fr, TP.cont_hd, TP.contH_val, TP.contH_own, TP.boxC_nl, TP.boxC_non, TP.boxC_bl, TP.boxC_int, TP.boxC_str, TP.boxC_tup, TP.boxC_lst, TP.boxC_rol, TP.boxC_dct, TP.boxC_ty, TP.boxC_glo, TP.putBack_hd, TP.pbH_own, TP.argsOf_nil, TP.argsOf_sh, TP.argsOf_fr, TP.argsOf_hd, TP.argH_val, TP.argH_own, TP.backE_nil, TP.backE_sh, TP.backE_fr, TP.backE_own, TP.backE_val, TP.permR_nil, TP.permR_inl, TP.permR_inr, TP.finA_nil, TP.finA_cons, TP.frzA_nil, TP.frzA_cons, TP.frz1_eq, TP.frH_own, TP.frH_val, TP.itemsOf_lst, TP.itemsOf_tup, TP.itemsOf_rol, TP.itemsOf_str, TP.itemsOf_dct, TP.enumOf_lst, TP.revOf_lst, TP.revOf_tup, TP.zipOf_lst, TP.zipOf_tup, TP.P1_s, TP.P2_s, TP.SM_s, TP.MU_s, TP.SX_s, TP.C2_s, TP.C2k_t, TP.C2k_f, TP.C2k_d, TP.BR_nd, TP.pm_add, TP.pm_sub, TP.pm_neg, TP.pm_addS, TP.pm_addT, TP.pm_addL, TP.pm_mul, TP.pm_fdiv, TP.pm_mod, TP.pm_pow, TP.pm_lt, TP.pm_le, TP.pm_gt, TP.pm_ge, TP.pm_isN, TP.pm_notN, TP.pm_isB, TP.pm_notB, TP.pm_idx_lst, TP.pm_len_lst, TP.pm_idx_tup, TP.pm_len_tup, TP.pm_idx_rol, TP.pm_len_rol, TP.pm_idx_str, TP.pm_len_str, TP.pm_abs, TP.pm_min2, TP.pm_max2, TP.pm_toIntI, TP.pm_toIntB, TP.pm_toTupL, TP.pm_toTupT, TP.pm_toList_lst, TP.pm_toList_tup, TP.pm_toList_rol, TP.pm_all, TP.pm_maxD, TP.pm_zipL, TP.pm_any, TP.pm_sum, TP.pm_revs, TP.pm_toStrI, TP.pm_joinL, TP.jnK_s, TP.pm_split, TP.pm_mulS, TP.pm_mulL, TP.pm_mulT, TP.pm_isinT, TP.pm_isinL, TP.pm_notinT, TP.pm_notinL, TP.pm_isinS, TP.pm_notinS, TP.pm_isi_non_int, TP.pm_isi_non_bool, TP.pm_isi_non_str, TP.pm_isi_non_tuple, TP.pm_isi_non_list, TP.pm_isi_bl_int, TP.pm_isi_bl_bool, TP.pm_isi_bl_str, TP.pm_isi_bl_tuple, TP.pm_isi_bl_list, TP.pm_isi_int_int, TP.pm_isi_int_bool, TP.pm_isi_int_str, TP.pm_isi_int_tuple, TP.pm_isi_int_list, TP.pm_isi_str_int, TP.pm_isi_str_bool, TP.pm_isi_str_str, TP.pm_isi_str_tuple, TP.pm_isi_str_list, TP.pm_isi_tup_int, TP.pm_isi_tup_bool, TP.pm_isi_tup_str, TP.pm_isi_tup_tuple, TP.pm_isi_tup_list, TP.pm_isi_lst_int, TP.pm_isi_lst_bool, TP.pm_isi_lst_str, TP.pm_isi_lst_tuple, TP.pm_isi_lst_list, TP.mu_app, TP.mu_clear, TP.mu_reverse, TP.mutTy_s, TP.set_lst, TP.key_int, TP.key_str, TP.pm_idx_dct, TP.pm_isin_dct, TP.pm_notin_dct, TP.pm_len_dct, TP.set_dct, TP.PD_s, TP.pairs_nil, TP.pairs_str, TP.pairs_int, TP.aug_add, TP.aug_sub, TP.sl_lst, TP.sl_tup, TP.sl_str, TP.bnd_abs, TP.bnd_int, TP.isAbs_non, TP.isAbs_int, TP.isAbs_var, TP.isAbs_prim, TP.isAbs_call, TP.bools_map, TP.ints_map, TP.strs_map, TP.ixN_0, TP.ixN_1, TP.atI_c0, TP.atI_nat, TP.atI_c1, TP.atI_c2, TP.atI_c3, TP.atI_c4, TP.atI_c5, TP.atI_c6, TP.atI_c7, TP.pm_eqI, TP.pm_neI, TP.tx_ok, TP.pm_eqS, TP.pm_neS, TP.any_str, TP.all_flat_str, TP.pm_isinT_s, TP.pm_notinT_s, TP.pm_isinL_s, TP.pm_notinL_s, TP.WC_ok, ↓TP.KPs_cons, List.getElem?_cons_succ, List.getElem?_cons_zero, List.set_cons_succ, List.set_cons_zero, List.cons_append, List.nil_append, List.length_cons, List.length_nil, Option.map_some, Option.bind_some, List.append_nil, List.getD_cons_zero, List.getD_cons_succ, List.replicate_succ, List.replicate_zero, TP.wipeS_nil, TP.wipeS_cons, TP.restS_nil, TP.restS_cons, TP.ownSlots_nil, TP.ownSlots_cons, TP.owH_val, TP.owH_un, Bool.or_false, Bool.false_or, Bool.or_true, Bool.true_or, Bool.and_true, Bool.true_and, Bool.and_false, Bool.false_and, Bool.not_true, Bool.not_false, List.not_mem_nil, if_true, if_false, ite_true, ite_false, and_true, true_and, forall_const, true_implies, false_implies, not_true, not_false, decide_true, decide_false, decide_eq_true_eq, Bool.false_eq_true, Bool.true_eq_false, and_self, not_true_eq_false, not_false_eq_true, ↓TP.CS_nil, ↓TP.CS_one, Int.reduceAdd, Int.reduceSub, Int.reduceMul, Int.reduceNeg, Int.reduceLT, Int.reduceLE, Int.reduceToNat, Int.reducePow, Nat.reduceAdd, Nat.reduceSub, Nat.reduceEqDiff, Int.reduceEq, Int.reduceFDiv, Int.reduceFMod, List.cons.injEq, reduceCtorEq, List.mem_cons, or_false, or_true, false_or, true_or, false_and, and_false, ne_eq, TP.varK_ns, TP.cont_rn, TP.contN_ns, TP.argsOf_rn, TP.argN_ns, TP.backE_rn, TP.bkN_ns, TP.keep_rn, TP.keepN_ns, TP.owH_ns, TP.pm_w2, TP.pm_w3, TP.pm_w4, TP.pm_w5, TP.set_w2, TP.pm_h0, TP.pm_h1, TP.pm_h2, TP.boxC_hdv, TP.kv_eqn, TP.kv_eql, TP.kv_eqk, TP.pm_isinL_s, TP.pm_notinL_s, TP.to_nms, TP.to_hds, TP.to_w5, TP.to_w2, TP.to_w0, TP.to_to, $xs,*])

def gWithin : Fd := ⟨3, 3, [], [.ret (.and [(.prim .isi [(.var 0), (.con (.ty "int"))]), (.not (.prim .isi [(.var 0), (.con (.ty "bool"))])), (.chain .le .le (.var 1) (.var 0) (.var 2))])]⟩
def gName : Fd := ⟨1, 2, [], [.ite (.or [(.not (.prim .isi [(.var 0), (.con (.ty "str"))])), (.not (.chain .le .le (.con (.int (1))) (.prim .len [(.var 0)]) (.con (.int (8))))), (.prim .isin [(.var 0), (.con (.tup [.str [108, 101, 116], .str [105, 102], .str [116, 104, 101, 110], .str [101, 108, 115, 101], .str [99, 97, 115, 101], .str [111, 102], .str [100, 105, 118], .str [109, 111, 100], .str [97, 110, 100], .str [111, 114]]))])]) [.ret (.con (.bl false))] [], .ret (.prim .all [(.lc (.prim .isin [(.var 1), (.con (.str [97, 98, 99, 100, 101, 102, 103, 104, 105, 106, 107, 108, 109, 110, 111, 112, 113, 114, 115, 116, 117, 118, 119, 120, 121, 122]))]) (.nm 1) (.of (.var 0)) [] [1])])]⟩
def gIsPlace : Fd := ⟨1, 2, [], [.ret (.and [(.prim .isi [(.var 0), (.con (.ty "tuple"))]), (.prim .eq [(.prim .len [(.var 0)]), (.con (.int (2)))]), (.prim .all [(.lc (.call "is_within" [(.var 1), (.con (.int (0))), (.con (.int (9999)))]) (.nm 1) (.of (.var 0)) [] [1])])])]⟩
def gNode : Fd := ⟨1, 4, [], [.ite (.or [(.not (.prim .isi [(.var 0), (.con (.ty "tuple"))])), (.prim .lt [(.prim .len [(.var 0)]), (.con (.int (2)))]), (.not (.prim .isi [(.prim .idx [(.var 0), (.con (.int (0)))]), (.con (.ty "str"))])), (.not (.call "is_place" [(.prim .idx [(.var 0), (.con (.int (1)))])]))]) [.ret (.con (.bl false))] [], .asgR [1, 2] 3 (.var 0), .ite (.prim .eq [(.var 1), (.con (.str [110, 117, 109]))]) [.ret (.and [(.prim .eq [(.prim .len [(.var 3)]), (.con (.int (1)))]), (.call "is_within" [(.prim .idx [(.var 3), (.con (.int (0)))]), (.con (.int (0))), (.con (.int (999999999)))])])] [], .ite (.prim .eq [(.var 1), (.con (.str [117, 115, 101]))]) [.ret (.and [(.prim .eq [(.prim .len [(.var 3)]), (.con (.int (2)))]), (.call "is_name" [(.prim .idx [(.var 3), (.con (.int (0)))])]), (.prim .isi [(.prim .idx [(.var 3), (.con (.int (1)))]), (.con (.ty "tuple"))]), (.prim .le [(.prim .len [(.prim .idx [(.var 3), (.con (.int (1)))])]), (.con (.int (4)))])])] [], .ite (.prim .eq [(.var 1), (.con (.str [111, 112]))]) [.ret (.and [(.prim .eq [(.prim .len [(.var 3)]), (.con (.int (3)))]), (.prim .isi [(.prim .idx [(.var 3), (.con (.int (0)))]), (.con (.ty "str"))]), (.prim .isin [(.prim .idx [(.var 3), (.con (.int (0)))]), (.con (.tup [.str [43], .str [45], .str [42], .str [100, 105, 118], .str [109, 111, 100], .str [61, 61], .str [60], .str [58]]))])])] [], .ite (.prim .eq [(.var 1), (.con (.str [108, 101, 116]))]) [.ret (.and [(.prim .eq [(.prim .len [(.var 3)]), (.con (.int (3)))]), (.call "is_name" [(.prim .idx [(.var 3), (.con (.int (0)))])])])] [], .ite (.prim .eq [(.var 1), (.con (.str [99, 97, 115, 101]))]) [.ret (.and [(.prim .eq [(.prim .len [(.var 3)]), (.con (.int (5)))]), (.call "is_name" [(.prim .idx [(.var 3), (.con (.int (2)))])]), (.call "is_name" [(.prim .idx [(.var 3), (.con (.int (3)))])])])] [], .ret (.or [(.and [(.prim .eq [(.var 1), (.con (.str [110, 105, 108]))]), (.prim .eq [(.var 3), (.list [])])]), (.and [(.prim .eq [(.var 1), (.con (.str [105, 102]))]), (.prim .eq [(.prim .len [(.var 3)]), (.con (.int (3)))])])])]⟩
def gSubtrees : Fd := ⟨1, 2, [], [.asg (.nm 1) (.prim .idx [(.var 0), (.con (.int (0)))]), .ite (.prim .eq [(.var 1), (.con (.str [117, 115, 101]))]) [.ret (.prim .toList [(.prim .idx [(.var 0), (.con (.int (3)))])])] [], .ite (.prim .isin [(.var 1), (.tup [(.con (.str [111, 112])), (.con (.str [108, 101, 116]))])]) [.ret (.prim .toList [(.slice (.var 0) (.con (.int (3))) (.con (.int (5))))])] [], .ite (.prim .eq [(.var 1), (.con (.str [105, 102]))]) [.ret (.prim .toList [(.slice (.var 0) (.con (.int (2))) (.con (.int (5))))])] [], .ite (.prim .eq [(.var 1), (.con (.str [99, 97, 115, 101]))]) [.ret (.list [(.prim .idx [(.var 0), (.con (.int (2)))]), (.prim .idx [(.var 0), (.con (.int (3)))]), (.prim .idx [(.var 0), (.con (.int (6)))])])] [], .ret (.list [])]⟩
def gIsTree : Fd := ⟨2, 3, [], [.ret (.and [(.prim .gt [(.var 1), (.con (.int (0)))]), (.call "is_node" [(.var 0)]), (.prim .all [(.lc (.call "is_tree" [(.var 2), (.prim .sub [(.var 1), (.con (.int (1)))])]) (.nm 2) (.of (.call "subtrees" [(.var 0)])) [] [2])])])]⟩
def gIsDef : Fd := ⟨1, 7, [], [.ite (.or [(.not (.prim .isi [(.var 0), (.con (.ty "tuple"))])), (.prim .ne [(.prim .len [(.var 0)]), (.con (.int (5)))]), (.prim .ne [(.prim .idx [(.var 0), (.con (.int (0)))]), (.con (.str [100, 101, 102]))])]) [.ret (.con (.bl false))] [], .asg (.tp [(.nm 1), (.nm 2), (.nm 3), (.nm 4), (.nm 5)]) (.var 0), .ite (.or [(.not (.call "is_place" [(.var 2)])), (.not (.call "is_name" [(.var 3)])), (.not (.prim .isi [(.var 4), (.con (.ty "tuple"))])), (.prim .gt [(.prim .len [(.var 4)]), (.con (.int (4)))])]) [.ret (.con (.bl false))] [], .ret (.and [(.prim .all [(.lc (.call "is_name" [(.var 6)]) (.nm 6) (.of (.var 4)) [] [6])]), (.call "is_tree" [(.var 5), (.con (.int (10)))])])]⟩
def gIsProg : Fd := ⟨1, 2, [], [.ret (.and [(.prim .isi [(.var 0), (.con (.ty "tuple"))]), (.prim .le [(.prim .len [(.var 0)]), (.con (.int (8)))]), (.prim .all [(.lc (.call "is_def" [(.var 1)]) (.nm 1) (.of (.var 0)) [] [1])])])]⟩
structure GI (tab : Tab) : Prop where
  within : tab.lookup ("is_within" : Str) = some gWithin
  name : tab.lookup ("is_name" : Str) = some gName
  place : tab.lookup ("is_place" : Str) = some gIsPlace
  node : tab.lookup ("is_node" : Str) = some gNode
  subtrees : tab.lookup ("subtrees" : Str) = some gSubtrees
  tree : tab.lookup ("is_tree" : Str) = some gIsTree
  isdef : tab.lookup ("is_def" : Str) = some gIsDef
  prog : tab.lookup ("is_program" : Str) = some gIsProg
/-! well formed trees -/
mutual
def Tr.wf : Tr → Prop
  | .num p n => plOk p ∧ 0 ≤ n ∧ n ≤ 999999999
  | .nil p => plOk p
  | .use p x as => plOk p ∧ nameOk x ∧ as.length ≤ 4 ∧ wfsT as
  | .op p s a b => plOk p ∧ s ∈ opsL ∧ a.wf ∧ b.wf
  | .ite p a b c => plOk p ∧ a.wf ∧ b.wf ∧ c.wf
  | .lt p x a b => plOk p ∧ nameOk x ∧ a.wf ∧ b.wf
  | .cs p a b h t c => plOk p ∧ nameOk h ∧ nameOk t ∧ a.wf ∧ b.wf ∧ c.wf
def wfsT : List Tr → Prop
  | [] => True
  | t :: ts => t.wf ∧ wfsT ts
end
theorem wfsT_mem : ∀ {ts : List Tr}, wfsT ts ↔ ∀ t ∈ ts, t.wf
  | [] => by simp [wfsT]
  | t :: ts => by simp [wfsT, wfsT_mem (ts := ts)]
mutual
theorem Tr.ok_wf {nms : List (List Nat)} {hds : List Hd} (hn : ∀ x ∈ nms, nameOk x) (hh : ∀ h ∈ hds, h.nm ∈ nms ∧ h.ps.length ≤ 3) : ∀ {t : Tr} {near : List (List Nat)}, (∀ x ∈ near, nameOk x) → t.ok nms hds near → t.wf
  | .num p n, _, _, h => h
  | .nil p, _, _, h => h
  | .use p x as, near, e, h => by
    simp only [Tr.ok] at h
    simp only [Tr.wf]
    refine ⟨h.1, ?_⟩
    rcases h.2 with ⟨rfl, q⟩ | ⟨_, ⟨hd, h1, rfl, h3⟩, q⟩
    · exact ⟨e x q, by simp, trivial⟩
    · have := hh hd h1
      exact ⟨hn _ this.1, by omega, oksT_wf hn hh e q⟩
  | .op p s a b, _, e, h => by
    simp only [Tr.ok] at h
    exact ⟨h.1, h.2.1, Tr.ok_wf hn hh e h.2.2.1, Tr.ok_wf hn hh e h.2.2.2⟩
  | .ite p a b c, _, e, h => by
    simp only [Tr.ok] at h
    exact ⟨h.1, Tr.ok_wf hn hh e h.2.1, Tr.ok_wf hn hh e h.2.2.1, Tr.ok_wf hn hh e h.2.2.2⟩
  | .lt p x a b, _, e, h => by
    simp only [Tr.ok] at h
    exact ⟨h.1, hn _ h.2.1, Tr.ok_wf hn hh e h.2.2.1, Tr.ok_wf hn hh (fun y hy => by
      rcases List.mem_cons.mp hy with z | z
      · rw [z]; exact hn _ h.2.1
      · exact e y z) h.2.2.2⟩
  | .cs p a b x y c, _, e, h => by
    simp only [Tr.ok] at h
    exact ⟨h.1, hn _ h.2.1, hn _ h.2.2.1, Tr.ok_wf hn hh e h.2.2.2.2.1, Tr.ok_wf hn hh e h.2.2.2.2.2.1, Tr.ok_wf hn hh (fun z hz => by
      rcases List.mem_cons.mp hz with q | hz
      · rw [q]; exact hn _ h.2.1
      · rcases List.mem_cons.mp hz with q | q
        · rw [q]; exact hn _ h.2.2.1
        · exact e z q) h.2.2.2.2.2.2⟩
theorem oksT_wf {nms : List (List Nat)} {hds : List Hd} (hn : ∀ x ∈ nms, nameOk x) (hh : ∀ h ∈ hds, h.nm ∈ nms ∧ h.ps.length ≤ 3) : ∀ {ts : List Tr} {near : List (List Nat)}, (∀ x ∈ near, nameOk x) → oksT nms hds near ts → wfsT ts
  | [], _, _, _ => trivial
  | t :: ts, _, e, h => ⟨Tr.ok_wf hn hh e h.1, oksT_wf hn hh e h.2⟩
end
def Tr.subs : Tr → List Tr
  | .num _ _ => []
  | .nil _ => []
  | .use _ _ as => as
  | .op _ _ a b => [a, b]
  | .ite _ a b c => [a, b, c]
  | .lt _ _ a b => [a, b]
  | .cs _ a b _ _ c => [a, b, c]
theorem depsT_mem : ∀ {ts : List Tr} {t : Tr}, t ∈ ts → t.dep ≤ depsT ts
  | x :: ts, t, h => by
    simp only [depsT]
    rcases List.mem_cons.mp h with z | z
    · rw [z]; omega
    · have := depsT_mem z; omega
theorem Tr.dep_subs {t : Tr} : t.dep = 1 + depsT t.subs := by
  cases t <;> simp [Tr.dep, Tr.subs, depsT]
theorem Tr.dep_lt {t s : Tr} (h : s ∈ t.subs) : s.dep + 1 ≤ t.dep := by
  have := depsT_mem h
  rw [t.dep_subs]; omega
theorem Tr.wf_subs {t : Tr} (h : t.wf) : (∀ s ∈ t.subs, s.wf) ∧ t.subs.length ≤ 4 := by
  cases t with
  | num p n => exact ⟨fun _ h => (nomatch h), Nat.zero_le _⟩
  | nil p => exact ⟨fun _ h => (nomatch h), Nat.zero_le _⟩
  | use p x as =>
    simp only [Tr.wf] at h
    exact ⟨wfsT_mem.mp h.2.2.2, h.2.2.1⟩
  | op p s a b =>
    simp only [Tr.wf] at h
    exact ⟨wfsT_mem.mp ⟨h.2.2.1, h.2.2.2, trivial⟩, by show 2 ≤ 4; omega⟩
  | ite p a b c =>
    simp only [Tr.wf] at h
    exact ⟨wfsT_mem.mp ⟨h.2.1, h.2.2.1, h.2.2.2, trivial⟩, by show 3 ≤ 4; omega⟩
  | lt p x a b =>
    simp only [Tr.wf] at h
    exact ⟨wfsT_mem.mp ⟨h.2.2.1, h.2.2.2, trivial⟩, by show 2 ≤ 4; omega⟩
  | cs p a b x y c =>
    simp only [Tr.wf] at h
    exact ⟨wfsT_mem.mp ⟨h.2.2.2.1, h.2.2.2.2.1, h.2.2.2.2.2, trivial⟩, by show 3 ≤ 4; omega⟩
/-! the looks -/
section
variable {tab : Tab} {n : Nat} {sto : List SO}
theorem cf_within (g : GI tab) {i a b : Int} (h1 : a ≤ i) (h2 : i ≤ b) (hn : 1 ≤ n) : callF tab n "is_within" [.val (.int i), .val (.int a), .val (.int b)] sto = .ok (.sh (.bl true)) [.val (.int i), .val (.int a), .val (.int b)] sto := by
  obtain ⟨n, rfl⟩ : ∃ m, n = m + 1 := ⟨n - 1, by omega⟩
  refine eq_of_WC (wc_def g.within ⟨rfl, by decide⟩ ?_)
  simp only [gWithin]
  push_cast []
  exact ⟨fun _ => by rw [decide_eq_true h2], fun h => absurd h1 h⟩
theorem all_true {α : Type} {xs : List α} : ((xs.map fun _ => true).all id) = true := by simp
theorem cf_name (g : GI tab) {x : List Nat} (h : nameOk x) (hn : 1 ≤ n) : callF tab n "is_name" [.val (.str x)] sto = .ok (.sh (.bl true)) [.val (.str x)] sto := by
  obtain ⟨n, rfl⟩ : ∃ m, n = m + 1 := ⟨n - 1, by omega⟩
  refine eq_of_WC (wc_def g.name ⟨rfl, by decide⟩ ?_)
  simp only [gName]
  have k1 : primSem .isin [.str x, .tup [.str [108, 101, 116], .str [105, 102], .str [116, 104, 101, 110], .str [101, 108, 115, 101], .str [99, 97, 115, 101], .str [111, 102], .str [100, 105, 118], .str [109, 111, 100], .str [97, 110, 100], .str [111, 114]]] = some (.sh (.bl (decide (x ∈ keysL)))) := pm_isinT_s (ys := keysL)
  have sz : 100 ≤ szL := by decide
  have hl : x.length ≤ szL := by have := h.2.1; omega
  push_cast [k1, pm_len_str hl]
  have lm : ∀ i, i < 26 → 97 + i ∈ letL := by decide
  refine ⟨fun _ => ⟨fun hh => absurd (by have := h.2.1; omega) hh, fun _ => ⟨fun hk => absurd hk h.2.2.1, fun _ => ?_⟩⟩, fun hh => absurd (by have := h.1; omega) hh⟩
  refine lc_map (xs := x) (g := fun c => .str [c]) (fun _ => .bl true) rfl hl (fun c hc => ?_) ?_
  · push_cast []
    have := h.2.2.2 c hc
    exact congrArg PV.bl (decide_eq_true (by omega))
  · push_cast [bools_map (f := fun _ : Nat => true), all_true]
theorem cf_place (g : GI tab) {p : Pl} (h : plOk p) (hn : 2 ≤ n) : callF tab n "is_place" [.val (plv p)] sto = .ok (.sh (.bl true)) [.val (plv p)] sto := by
  obtain ⟨n, rfl⟩ : ∃ m, n = m + 1 := ⟨n - 1, by omega⟩
  refine eq_of_WC (wc_def g.place ⟨rfl, by decide⟩ ?_)
  simp only [gIsPlace, plv]
  push_cast []
  refine ⟨fun _ => ?_, fun h => absurd rfl h⟩
  refine lc_map (xs := [p.1, p.2]) (g := PV.int) (fun _ => .bl true) rfl (by show 2 ≤ szL; decide) (fun i hi => ?_) ?_
  · have hi' : 0 ≤ i ∧ i ≤ 9999 := by
      simp only [List.mem_cons, List.not_mem_nil, or_false] at hi
      unfold plOk at h
      omega
    push_cast [cf_within g hi'.1 hi'.2 (by omega : 1 ≤ n)]
  · push_cast [bools_map (f := fun _ : Int => true), all_true]
theorem c0 : ((0 : Nat) : Int) = 0 := rfl
theorem c1 : ((1 : Nat) : Int) = 1 := rfl
theorem c2 : ((2 : Nat) : Int) = 2 := rfl
theorem c3 : ((3 : Nat) : Int) = 3 := rfl
theorem c4 : ((4 : Nat) : Int) = 4 := rfl
theorem c5 : ((5 : Nat) : Int) = 5 := rfl
theorem c6 : ((6 : Nat) : Int) = 6 := rfl
theorem c7 : ((7 : Nat) : Int) = 7 := rfl
theorem c8 : ((8 : Nat) : Int) = 8 := rfl
theorem asg_node {a b : PV} {r : List PV} {s0 s1 s2 s3 : Sl} (h : r.length + 2 ≤ 16384) : asgRS [1, 2] 3 (.tup (a :: b :: r)) ⟨[s0, s1, s2, s3], sto⟩ = some ⟨[s0, .val a, .val b, .val (.lst r)], sto⟩ := by
  have h2 : r.length + 1 + 1 ≤ 16384 := by omega
  simp [asgRS, seqOf, putSls, h2]
theorem boxC_trv {sto : List SO} {t : Tr} : boxC sto t.pv = t.pv := by cases t <;> rfl
theorem cf_node (g : GI tab) {t : Tr} (h : t.wf) (hn : 3 ≤ n) : callF tab n "is_node" [.val t.pv] sto = .ok (.sh (.bl true)) [.val t.pv] sto := by
  obtain ⟨n, rfl⟩ : ∃ m, n = m + 1 := ⟨n - 1, by omega⟩
  have pl : ∀ {p : Pl}, plOk p → callF tab n "is_place" [.val (plv p)] sto = .ok (.sh (.bl true)) [.val (plv p)] sto := fun hp => cf_place g hp (by omega)
  have nm : ∀ {x : List Nat}, nameOk x → callF tab n "is_name" [.val (.str x)] sto = .ok (.sh (.bl true)) [.val (.str x)] sto := fun hx => cf_name g hx (by omega)
  refine eq_of_WC (wc_def g.node ⟨rfl, by decide⟩ ?_)
  simp only [gNode]
  have eqs : ∀ (x y : List Nat), txOk x = true → txOk y = true → primSem .eq [.str x, .str y] = some (.sh (.bl (decide (x = y)))) := fun x y h k => pm_eqS h k
  cases t with
  | num p v =>
    simp only [Tr.wf] at h
    simp only [Tr.pv]
    have e1 := asg_node (sto := sto) (a := .str [110, 117, 109]) (b := plv p) (r := [.int v]) (s0 := .val (.tup [.str [110, 117, 109], plv p, .int v])) (s1 := .un) (s2 := .un) (s3 := .un) (by simp)
    push_cast [pl h.1, c1, c2, c3, c4, c5, c7, e1, cf_within g h.2.1 h.2.2 (by omega : 1 ≤ n)]
  | nil p =>
    simp only [Tr.wf] at h
    simp only [Tr.pv]
    have e1 := asg_node (sto := sto) (a := .str [110, 105, 108]) (b := plv p) (r := []) (s0 := .val (.tup [.str [110, 105, 108], plv p])) (s1 := .un) (s2 := .un) (s3 := .un) (by simp)
    have e2 : primSem .eq [.lst [], .lst []] = some (.sh (.bl true)) := rfl
    push_cast [pl h, c1, c2, c3, c4, c5, c7, e1, e2]
  | use p x as =>
    simp only [Tr.wf] at h
    simp only [Tr.pv]
    have e1 := asg_node (sto := sto) (a := .str [117, 115, 101]) (b := plv p) (r := [.str x, .tup (pvsT as)]) (s0 := .val (.tup [.str [117, 115, 101], plv p, .str x, .tup (pvsT as)])) (s1 := .un) (s2 := .un) (s3 := .un) (by simp)
    have hl : (pvsT as).length ≤ 4 := by rw [pvsT_map, List.length_map]; exact h.2.2.1
    push_cast [pl h.1, nm h.2.1, c1, c2, c3, c4, c5, c7, e1]
    exact congrArg (fun b => RV.sh (.bl b)) (decide_eq_true (by omega))
  | op p s a b =>
    simp only [Tr.wf] at h
    simp only [Tr.pv]
    have e1 := asg_node (sto := sto) (a := .str [111, 112]) (b := plv p) (r := [.str s, a.pv, b.pv]) (s0 := .val (.tup [.str [111, 112], plv p, .str s, a.pv, b.pv])) (s1 := .un) (s2 := .un) (s3 := .un) (by simp)
    have k1 : primSem .isin [.str s, .tup [.str [43], .str [45], .str [42], .str [100, 105, 118], .str [109, 111, 100], .str [61, 61], .str [60], .str [58]]] = some (.sh (.bl (decide (s ∈ opsL)))) := pm_isinT_s (ys := opsL)
    rw [decide_eq_true h.2.1] at k1
    push_cast [pl h.1, c1, c2, c3, c4, c5, c7, e1, k1]
  | ite p a b c =>
    simp only [Tr.wf] at h
    simp only [Tr.pv]
    have e1 := asg_node (sto := sto) (a := .str [105, 102]) (b := plv p) (r := [a.pv, b.pv, c.pv]) (s0 := .val (.tup [.str [105, 102], plv p, a.pv, b.pv, c.pv])) (s1 := .un) (s2 := .un) (s3 := .un) (by simp)
    push_cast [pl h.1, c1, c2, c3, c4, c5, c7, e1]
  | lt p x a b =>
    simp only [Tr.wf] at h
    simp only [Tr.pv]
    have e1 := asg_node (sto := sto) (a := .str [108, 101, 116]) (b := plv p) (r := [.str x, a.pv, b.pv]) (s0 := .val (.tup [.str [108, 101, 116], plv p, .str x, a.pv, b.pv])) (s1 := .un) (s2 := .un) (s3 := .un) (by simp)
    push_cast [pl h.1, nm h.2.1, c1, c2, c3, c4, c5, c7, e1]
  | cs p a b x y c =>
    simp only [Tr.wf] at h
    simp only [Tr.pv]
    have e1 := asg_node (sto := sto) (a := .str [99, 97, 115, 101]) (b := plv p) (r := [a.pv, b.pv, .str x, .str y, c.pv]) (s0 := .val (.tup [.str [99, 97, 115, 101], plv p, a.pv, b.pv, .str x, .str y, c.pv])) (s1 := .un) (s2 := .un) (s3 := .un) (by simp)
    push_cast [pl h.1, nm h.2.1, nm h.2.2.1, c1, c2, c3, c4, c5, c7, e1]
theorem isw {x : List Nat} : primSem .isin [.str x, .tup [.str [111, 112], .str [108, 101, 116]]] = some (.sh (.bl (decide (x ∈ [[111, 112], [108, 101, 116]])))) := pm_isinT_s (ys := [[111, 112], [108, 101, 116]])
theorem cf_subtrees (g : GI tab) {t : Tr} (hn : 1 ≤ n) : callF tab n "subtrees" [.val t.pv] sto = .ok (.fr (.lst (t.subs.map Tr.pv))) [.val t.pv] sto := by
  obtain ⟨n, rfl⟩ : ∃ m, n = m + 1 := ⟨n - 1, by omega⟩
  refine eq_of_WC (wc_def g.subtrees ⟨rfl, by decide⟩ ?_)
  simp only [gSubtrees]
  cases t with
  | num p v =>
    simp only [Tr.pv]
    push_cast [-TP.pm_isinT, isw]
    rfl
  | nil p =>
    simp only [Tr.pv]
    push_cast [-TP.pm_isinT, isw]
    rfl
  | use p x as =>
    simp only [Tr.pv]
    push_cast [-TP.pm_isinT, isw]
    rw [pvsT_map]
    rfl
  | op p s a b =>
    simp only [Tr.pv]
    have k : cutL [.str [111, 112], plv p, .str s, a.pv, b.pv] (some 3) (some 5) = [a.pv, b.pv] := rfl
    push_cast [-TP.pm_isinT, isw, k]
    rfl
  | ite p a b c =>
    simp only [Tr.pv]
    have k : cutL [.str [105, 102], plv p, a.pv, b.pv, c.pv] (some 2) (some 5) = [a.pv, b.pv, c.pv] := rfl
    push_cast [-TP.pm_isinT, isw, k]
    rfl
  | lt p x a b =>
    simp only [Tr.pv]
    have k : cutL [.str [108, 101, 116], plv p, .str x, a.pv, b.pv] (some 3) (some 5) = [a.pv, b.pv] := rfl
    push_cast [-TP.pm_isinT, isw, k]
    rfl
  | cs p a b x y c =>
    simp only [Tr.pv]
    push_cast [-TP.pm_isinT, isw]
    rfl
theorem cf_istree (g : GI tab) : ∀ {k : Nat} {t : Tr} {n : Nat} {sto : List SO}, t.wf → t.dep ≤ k → k + 3 ≤ n → callF tab n "is_tree" [.val t.pv, .val (.int (k : Int))] sto = .ok (.sh (.bl true)) [.val t.pv, .val (.int (k : Int))] sto := by
  intro k
  induction k with
  | zero =>
    intro t n sto _ hd _
    have := t.dep_subs
    omega
  | succ k ih =>
    intro t n sto hw hd hn
    obtain ⟨n, rfl⟩ : ∃ m, n = m + 1 := ⟨n - 1, by omega⟩
    refine eq_of_WC (wc_def g.tree ⟨rfl, by decide⟩ ?_)
    simp only [gIsTree]
    have hk1 : ((k + 1 : Nat) : Int) - 1 = (k : Int) := by omega
    obtain ⟨ws, wl⟩ := Tr.wf_subs hw
    push_cast [cf_node g hw (by omega : 3 ≤ n), cf_subtrees (n := n) (t := t) g (by omega)]
    refine ⟨fun _ => ?_, fun h => absurd (by omega) h⟩
    refine lc_map (fun _ => .bl true) rfl (by have : 4 ≤ szL := by decide
                                              omega) (fun s hs => ?_) ?_
    · push_cast [hk1, ih (ws s hs) (by have := Tr.dep_lt hs; omega) (by omega : k + 3 ≤ n)]
    · push_cast [bools_map (f := fun _ : Tr => true), all_true]
/-- a def that is well formed -/
def Pd.wf (d : Pd) (D : Nat) : Prop := plOk d.p ∧ nameOk d.nm ∧ d.ps.length ≤ 4 ∧ (∀ x ∈ d.ps, nameOk x) ∧ d.b.wf ∧ d.b.dep ≤ D
theorem cf_isdef (g : GI tab) {d : Pd} (h : d.wf 10) (hn : 20 ≤ n) : callF tab n "is_def" [.val d.pv] sto = .ok (.sh (.bl true)) [.val d.pv] sto := by
  obtain ⟨n, rfl⟩ : ∃ m, n = m + 1 := ⟨n - 1, by omega⟩
  obtain ⟨h1, h2, h3, h4, h5, h6⟩ := h
  refine eq_of_WC (wc_def g.isdef ⟨rfl, by decide⟩ ?_)
  simp only [gIsDef, Pd.pv]
  have e1 : primSem .ne [.str [100, 101, 102], .str [100, 101, 102]] = some (.sh (.bl false)) := rfl
  have e10 : callF tab n "is_tree" [.val d.b.pv, .val (.int 10)] sto = .ok (.sh (.bl true)) [.val d.b.pv, .val (.int 10)] sto := cf_istree g (k := 10) h5 h6 (by omega)
  have sz : 4 ≤ szL := by decide
  push_cast [c5, e1, cf_place g h1 (by omega : 2 ≤ n), cf_name g h2 (by omega : 1 ≤ n), List.length_map]
  refine ⟨fun h => absurd h (by omega), fun _ => ?_⟩
  refine lc_map (xs := d.ps) (g := PV.str) (fun _ => .bl true) rfl (by omega) (fun x hx => ?_) ?_
  · push_cast [cf_name g (h4 x hx) (by omega : 1 ≤ n)]
  · push_cast [bools_map (f := fun _ : List Nat => true), all_true, e10]
theorem cf_isprog (g : GI tab) {ds : List Pd} (h : ∀ d ∈ ds, d.wf 10) (hl : ds.length ≤ 8) (hn : 30 ≤ n) : callF tab n "is_program" [.val (.tup (ds.map Pd.pv))] sto = .ok (.sh (.bl true)) [.val (.tup (ds.map Pd.pv))] sto := by
  obtain ⟨n, rfl⟩ : ∃ m, n = m + 1 := ⟨n - 1, by omega⟩
  refine eq_of_WC (wc_def g.prog ⟨rfl, by decide⟩ ?_)
  simp only [gIsProg]
  have sz : 8 ≤ szL := by decide
  push_cast [List.length_map]
  refine ⟨fun _ => ?_, fun h => absurd (by omega) h⟩
  refine lc_map (xs := ds) (g := Pd.pv) (fun _ => .bl true) rfl (by omega) (fun d hd => ?_) ?_
  · push_cast [cf_isdef g (h d hd) (by omega : 20 ≤ n)]
  · push_cast [bools_map (f := fun _ : Pd => true), all_true]
end
end TP

set_option Elab.async false
set_option linter.all false
set_option maxRecDepth 100000
set_option maxHeartbeats 8000000
set_option exponentiation.threshold 20000
/-! Kg6: bare, depth. -/
namespace TP
open PySem
local macro_rules
  | `(tactic| push_cast [$xs,*]) => `(tactic| simp (maxSteps := 2000000) -implicitDefEqProofs -dsimp (disch := first | assumption | (with_reducible refine TP.big_lit ?_; omega) | decide | omega | (simp only [List.length_cons, List.length_nil, List.length_map, List.length_append, TP.szL]; omega)) only [TP.oK_some, TP.varK_val, TP.varK_own, TP.BR_t, TP.BR_f, TP.BR_d, ↓TP.wE_con, ↓TP.wE_dead, ↓TP.wEs_nil, ↓TP.wEs_cons, ↓TP.wE_prim1, ↓TP.wE_prim2, TP.strK_s, ↓TP.wE_sm, TP.dixK_s, ↓TP.wE_didx, ↓TP.wE_dnew, TP.dctK_d, TP.DG_s, ↓TP.wE_dget, TP.TS_bl, ↓TP.wE_not, ↓TP.wE_and1, ↓TP.wE_and, ↓TP.wE_or1, ↓TP.wE_or, ↓TP.wE_ite, ↓TP.wE_chain, ↓TP.KPs_nil, ↓TP.wE_disp, TP.keep_sh, TP.keep_fr, TP.keep_hd, TP.keepH_val, TP.keepH_own, ↓TP.wE_tup, ↓TP.wE_list, ↓TP.wE_call, ↓TP.wE_callK, TP.gloK_v, ↓TP.wE_callL, ↓TP.wE_mut, ↓TP.wE_slice, ↓TP.wE_lc, ↓TP.wE_lc2, TP.itK_s, ↓TP.wI_of, TP.rgK_i, ↓TP.wI_range1, TP.rg2K_i, ↓TP.wI_range2, ↓TP.wI_enum, ↓TP.wI_rev, ↓TP.wI_zip, ↓TP.nxt_nx, ↓TP.nxt_br, ↓TP.nxt_ct, ↓TP.nxt_rt, ↓TP.lpQ_nx, ↓TP.lpQ_ct, ↓TP.lpQ_br, ↓TP.lpQ_rt, TP.BT_nm, TP.BT_tup, TP.BT_lst, TP.BTs_nil, TP.BTs_cons, TP.AG_sh, TP.AG_fr, TP.AG_frT, TP.AG_hd, TP.RT_sh, TP.RT_fr, TP.RT_hd, TP.rtH_val, TP.rtH_own, TP.rtH_par, ↓TP.wS_nil, ↓TP.wS_asg, ↓TP.wS_ret, ↓TP.wS_retN, ↓TP.wS_pass, ↓TP.wS_brk, ↓TP.wS_cont, ↓TP.wS_dead, ↓TP.wS_expr, ↓TP.wS_apc, ↓TP.wS_apn, ↓TP.wS_ite, ↓TP.wS_setix, ↓TP.wS_augU, TP.AU_v, ↓TP.wS_par, ↓TP.wS_asgR, ↓TP.wS_for, ↓TP.wS_while, ↓TP.dfQ_nx, ↓TP.dfQ_rt, ↓TP.wE_var', TP.cont_sh, TP.cont_fr, TP.cont_hd, TP.contH_val, TP.contH_own, TP.boxC_nl, TP.boxC_non, TP.boxC_bl, TP.boxC_int, TP.boxC_str, TP.boxC_tup, TP.boxC_lst, TP.boxC_rol, TP.boxC_dct, TP.boxC_ty, TP.boxC_glo, TP.putBack_hd, TP.pbH_own, TP.argsOf_nil, TP.argsOf_sh, TP.argsOf_fr, TP.argsOf_hd, TP.argH_val, TP.argH_own, TP.backE_nil, TP.backE_sh, TP.backE_fr, TP.backE_own, TP.backE_val, TP.permR_nil, TP.permR_inl, TP.permR_inr, TP.finA_nil, TP.finA_cons, TP.frzA_nil, TP.frzA_cons, TP.frz1_eq, TP.frH_own, TP.frH_val, TP.itemsOf_lst, TP.itemsOf_tup, TP.itemsOf_rol, TP.itemsOf_str, TP.itemsOf_dct, TP.enumOf_lst, TP.revOf_lst, TP.revOf_tup, TP.zipOf_lst, TP.zipOf_tup, TP.P1_s, TP.P2_s, TP.SM_s, TP.MU_s, TP.SX_s, TP.C2_s, TP.C2k_t, TP.C2k_f, TP.C2k_d, TP.BR_nd, TP.pm_add, TP.pm_sub, TP.pm_neg, TP.pm_addS, TP.pm_addT, TP.pm_addL, TP.pm_mul, TP.pm_fdiv, TP.pm_mod, TP.pm_pow, TP.pm_lt, TP.pm_le, TP.pm_gt, TP.pm_ge, TP.pm_isN, TP.pm_notN, TP.pm_isB, TP.pm_notB, TP.pm_idx_lst, TP.pm_len_lst, TP.pm_idx_tup, TP.pm_len_tup, TP.pm_idx_rol, TP.pm_len_rol, TP.pm_idx_str, TP.pm_len_str, TP.pm_abs, TP.pm_min2, TP.pm_max2, TP.pm_toIntI, TP.pm_toIntB, TP.pm_toTupL, TP.pm_toTupT, TP.pm_toList_lst, TP.pm_toList_tup, TP.pm_toList_rol, TP.pm_all, TP.pm_maxD, TP.pm_zipL, TP.pm_any, TP.pm_sum, TP.pm_revs, TP.pm_toStrI, TP.pm_joinL, TP.jnK_s, TP.pm_split, TP.pm_mulS, TP.pm_mulL, TP.pm_mulT, TP.pm_isinT, TP.pm_isinL, TP.pm_notinT, TP.pm_notinL, TP.pm_isinS, TP.pm_notinS, TP.pm_isi_non_int, TP.pm_isi_non_bool, TP.pm_isi_non_str, TP.pm_isi_non_tuple, TP.pm_isi_non_list, TP.pm_isi_bl_int, TP.pm_isi_bl_bool, TP.pm_isi_bl_str, TP.pm_isi_bl_tuple, TP.pm_isi_bl_list, TP.pm_isi_int_int, TP.pm_isi_int_bool, TP.pm_isi_int_str, TP.pm_isi_int_tuple, TP.pm_isi_int_list, TP.pm_isi_str_int, TP.pm_isi_str_bool, TP.pm_isi_str_str, TP.pm_isi_str_tuple, TP.pm_isi_str_list, TP.pm_isi_tup_int, TP.pm_isi_tup_bool, TP.pm_isi_tup_str, TP.pm_isi_tup_tuple, TP.pm_isi_tup_list, TP.pm_isi_lst_int, TP.pm_isi_lst_bool, TP.pm_isi_lst_str, TP.pm_isi_lst_tuple, TP.pm_isi_lst_list, TP.mu_app, TP.mu_clear, TP.mu_reverse, TP.mutTy_s, TP.set_lst, TP.key_int, TP.key_str, TP.pm_idx_dct, TP.pm_isin_dct, TP.pm_notin_dct, TP.pm_len_dct, TP.set_dct, TP.PD_s, TP.pairs_nil, TP.pairs_str, TP.pairs_int, TP.aug_add, TP.aug_sub, TP.sl_lst, TP.sl_tup, TP.sl_str, TP.bnd_abs, TP.bnd_int, TP.isAbs_non, TP.isAbs_int, TP.isAbs_var, TP.isAbs_prim, TP.isAbs_call, TP.bools_map, TP.ints_map, TP.strs_map, TP.ixN_0, TP.ixN_1, TP.atI_c0, TP.atI_nat, TP.atI_c1, TP.atI_c2, TP.atI_c3, TP.atI_c4, TP.atI_c5, TP.atI_c6, TP.atI_c7, TP.pm_eqI, TP.pm_neI, TP.tx_ok, TP.pm_eqS, TP.pm_neS, TP.any_str, TP.all_flat_str, TP.pm_isinT_s, TP.pm_notinT_s, TP.pm_isinL_s, TP.pm_notinL_s, TP.WC_ok, ↓TP.KPs_cons, List.getElem?_cons_succ, List.getElem?_cons_zero, List.set_cons_succ, List.set_cons_zero, List.cons_append, List.nil_append, List.length_cons, List.length_nil, Option.map_some, Option.bind_some, List.append_nil, List.getD_cons_zero, List.getD_cons_succ, List.replicate_succ, List.replicate_zero, TP.wipeS_nil, TP.wipeS_cons, TP.restS_nil, TP.restS_cons, TP.ownSlots_nil, TP.ownSlots_cons, TP.owH_val, TP.owH_un, Bool.or_false, Bool.false_or, Bool.or_true, Bool.true_or, Bool.and_true, Bool.true_and, Bool.and_false, Bool.false_and, Bool.not_true, Bool.not_false, List.not_mem_nil, if_true, if_false, ite_true, ite_false, and_true, true_and, forall_const, true_implies, false_implies, not_true, not_false, decide_true, decide_false, decide_eq_true_eq, Bool.false_eq_true, Bool.true_eq_false, and_self, not_true_eq_false, not_false_eq_true, ↓TP.CS_nil, ↓TP.CS_one, Int.reduceAdd, Int.reduceSub, Int.reduceMul, Int.reduceNeg, Int.reduceLT, Int.reduceLE, Int.reduceToNat, Int.reducePow, Nat.reduceAdd, Nat.reduceSub, Nat.reduceEqDiff, Int.reduceEq, Int.reduceFDiv, Int.reduceFMod, List.cons.injEq, reduceCtorEq, List.mem_cons, or_false, or_true, false_or, true_or, false_and, and_false, ne_eq, TP.varK_ns, TP.cont_rn, TP.contN_ns, TP.argsOf_rn, TP.argN_ns, TP.backE_rn, TP.bkN_ns, TP.keep_rn, TP.keepN_ns, TP.owH_ns, TP.pm_w2, TP.pm_w3, TP.pm_w4, TP.pm_w5, TP.set_w2, TP.pm_h0, TP.pm_h1, TP.pm_h2, TP.boxC_hdv, TP.kv_eqn, TP.kv_eql, TP.kv_eqk, TP.pm_isinL_s, TP.pm_notinL_s, TP.to_nms, TP.to_hds, TP.to_w5, TP.to_w2, TP.to_w0, TP.to_to, TP.c0, TP.c1, TP.c2, TP.c3, TP.c4, TP.c5, TP.c6, TP.c7, TP.c8, TP.boxC_trv, $xs,*])

def gWith : Fd := ⟨3, 4, [], [.asg (.nm 3) (.prim .idx [(.var 0), (.con (.int (0)))]), .ite (.prim .eq [(.var 3), (.con (.str [117, 115, 101]))]) [.ret (.tup [(.var 3), (.var 1), (.prim .idx [(.var 0), (.con (.int (2)))]), (.prim .toTup [(.var 2)])])] [], .ite (.prim .isin [(.var 3), (.tup [(.con (.str [111, 112])), (.con (.str [108, 101, 116]))])]) [.ret (.tup [(.var 3), (.var 1), (.prim .idx [(.var 0), (.con (.int (2)))]), (.prim .idx [(.var 2), (.con (.int (0)))]), (.prim .idx [(.var 2), (.con (.int (1)))])])] [], .ite (.prim .eq [(.var 3), (.con (.str [105, 102]))]) [.ret (.tup [(.var 3), (.var 1), (.prim .idx [(.var 2), (.con (.int (0)))]), (.prim .idx [(.var 2), (.con (.int (1)))]), (.prim .idx [(.var 2), (.con (.int (2)))])])] [], .ite (.prim .eq [(.var 3), (.con (.str [99, 97, 115, 101]))]) [.ret (.tup [(.var 3), (.var 1), (.prim .idx [(.var 2), (.con (.int (0)))]), (.prim .idx [(.var 2), (.con (.int (1)))]), (.prim .idx [(.var 0), (.con (.int (4)))]), (.prim .idx [(.var 0), (.con (.int (5)))]), (.prim .idx [(.var 2), (.con (.int (2)))])])] [], .ret (.prim .add [(.tup [(.var 3), (.var 1)]), (.slice (.var 0) (.con (.int (2))) (.con (.non)))])]⟩
def gBareT : Fd := ⟨1, 2, [], [.ret (.call "with_trees" [(.var 0), (.tup [(.con (.int (0))), (.con (.int (0)))]), (.lc (.call "bare_tree" [(.var 1)]) (.nm 1) (.of (.call "subtrees" [(.var 0)])) [] [1])])]⟩
def gBare : Fd := ⟨1, 2, [], [.expr (.call "need_program" [(.var 0)]), .ret (.prim .toTup [(.lc (.tup [(.con (.str [100, 101, 102])), (.tup [(.con (.int (0))), (.con (.int (0)))]), (.prim .idx [(.var 1), (.con (.int (2)))]), (.prim .idx [(.var 1), (.con (.int (3)))]), (.call "bare_tree" [(.prim .idx [(.var 1), (.con (.int (4)))])])]) (.nm 1) (.of (.var 0)) [] [1])])]⟩
def gNeed : Fd := ⟨1, 1, [], [.ite (.not (.call "is_program" [(.var 0)])) [.dead] []]⟩
def gDepth : Fd := ⟨1, 5, [], [.asg (.nm 1) (.con (.int (0))), .asg (.nm 2) (.list [(.var 0)]), .while (.prim .ne [(.var 2), (.list [])]) [.aug 1 .add (.con (.int (1))), .asg (.nm 2) (.lc2 (.var 4) (.nm 3) (.of (.var 2)) [] (.nm 4) (.of (.call "subtrees" [(.var 3)])) [] [3, 4] [4])], .ret (.var 1)]⟩
def lWith : Fd := ⟨2, 2, [], [.ite (.prim .eq [(.prim .idx [(.var 0), (.con (.int (0)))]), (.con (.str [117, 115, 101]))]) [.ret (.prim .add [(.slice (.var 0) (.con (.non)) (.con (.int (3)))), (.tup [(.prim .toTup [(.var 1)])])])] [], .ite (.prim .eq [(.prim .idx [(.var 0), (.con (.int (0)))]), (.con (.str [99, 97, 115, 101]))]) [.ret (.prim .add [(.prim .add [(.prim .add [(.slice (.var 0) (.con (.non)) (.con (.int (2)))), (.tup [(.prim .idx [(.var 1), (.con (.int (0)))]), (.prim .idx [(.var 1), (.con (.int (1)))])])]), (.slice (.var 0) (.con (.int (4))) (.con (.int (6))))]), (.tup [(.prim .idx [(.var 1), (.con (.int (2)))])])])] [], .ret (.prim .add [(.slice (.var 0) (.con (.non)) (.prim .sub [(.prim .len [(.var 0)]), (.prim .len [(.var 1)])])), (.prim .toTup [(.var 1)])])]⟩
def lSubs : Fd := ⟨1, 2, [], [.ite (.prim .eq [(.prim .idx [(.var 0), (.con (.int (0)))]), (.con (.str [117, 115, 101]))]) [.ret (.prim .toList [(.prim .idx [(.var 0), (.con (.int (3)))])])] [], .ite (.prim .eq [(.prim .idx [(.var 0), (.con (.int (0)))]), (.con (.str [99, 97, 115, 101]))]) [.ret (.list [(.prim .idx [(.var 0), (.con (.int (2)))]), (.prim .idx [(.var 0), (.con (.int (3)))]), (.prim .idx [(.var 0), (.con (.int (6)))])])] [], .ret (.lc (.var 1) (.nm 1) (.of (.slice (.var 0) (.con (.int (2))) (.con (.non)))) [(.prim .isi [(.var 1), (.con (.ty "tuple"))])] [1])]⟩
def lBareT : Fd := ⟨1, 3, [], [.asg (.nm 1) (.call "_law_with" [(.var 0), (.lc (.call "_law_bare_tree" [(.var 2)]) (.nm 2) (.of (.call "_law_subs" [(.var 0)])) [] [2])]), .ret (.prim .add [(.tup [(.prim .idx [(.var 1), (.con (.int (0)))]), (.tup [(.con (.int (0))), (.con (.int (0)))])]), (.slice (.var 1) (.con (.int (2))) (.con (.non)))])]⟩
def lBare : Fd := ⟨1, 2, [], [.ret (.prim .toTup [(.lc (.prim .add [(.prim .add [(.tup [(.con (.str [100, 101, 102])), (.tup [(.con (.int (0))), (.con (.int (0)))])]), (.slice (.var 1) (.con (.int (2))) (.con (.int (4))))]), (.tup [(.call "_law_bare_tree" [(.prim .idx [(.var 1), (.con (.int (4)))])])])]) (.nm 1) (.of (.var 0)) [] [1])])]⟩
def lDepth : Fd := ⟨1, 2, [], [.ret (.prim .add [(.con (.int (1))), (.prim .maxD [(.lc (.call "_law_depth" [(.var 1)]) (.nm 1) (.of (.call "_law_subs" [(.var 0)])) [] [1]), (.con (.int (0)))])])]⟩
structure GB (tab : Tab) : Prop where
  gi : GI tab
  wth : tab.lookup ("with_trees" : Str) = some gWith
  bareT : tab.lookup ("bare_tree" : Str) = some gBareT
  bare : tab.lookup ("bare" : Str) = some gBare
  need : tab.lookup ("need_program" : Str) = some gNeed
  depth : tab.lookup ("depth" : Str) = some gDepth
  lwth : tab.lookup ("_law_with" : Str) = some lWith
  lsubs : tab.lookup ("_law_subs" : Str) = some lSubs
  lbareT : tab.lookup ("_law_bare_tree" : Str) = some lBareT
  lbare : tab.lookup ("_law_bare" : Str) = some lBare
  ldepth : tab.lookup ("_law_depth" : Str) = some lDepth
def Tr.pl : Tr → Pl
  | .num p _ => p
  | .nil p => p
  | .use p _ _ => p
  | .op p _ _ _ => p
  | .ite p _ _ _ => p
  | .lt p _ _ _ => p
  | .cs p _ _ _ _ _ => p
/-- the same tree of other subtrees -/
def Tr.re (p : Pl) : Tr → List Tr → Tr
  | .num _ n, _ => .num p n
  | .nil _, _ => .nil p
  | .use _ x _, ts => .use p x ts
  | .op _ s _ _, [a, b] => .op p s a b
  | .ite _ _ _ _, [a, b, c] => .ite p a b c
  | .lt _ x _ _, [a, b] => .lt p x a b
  | .cs _ _ _ x y _, [a, b, c] => .cs p a b x y c
  | t, _ => t
mutual
def Tr.bare : Tr → Tr
  | .num _ n => .num (0, 0) n
  | .nil _ => .nil (0, 0)
  | .use _ x as => .use (0, 0) x (baresT as)
  | .op _ s a b => .op (0, 0) s a.bare b.bare
  | .ite _ a b c => .ite (0, 0) a.bare b.bare c.bare
  | .lt _ x a b => .lt (0, 0) x a.bare b.bare
  | .cs _ a b x y c => .cs (0, 0) a.bare b.bare x y c.bare
def baresT : List Tr → List Tr
  | [] => []
  | t :: ts => t.bare :: baresT ts
end
theorem baresT_map : ∀ {ts : List Tr}, baresT ts = ts.map Tr.bare
  | [] => rfl
  | t :: ts => by rw [baresT, baresT_map]; rfl
theorem Tr.bare_re {t : Tr} : t.bare = t.re (0, 0) (t.subs.map Tr.bare) := by
  cases t <;> simp only [Tr.bare, Tr.re, Tr.subs, List.map_cons, List.map_nil, baresT_map]
mutual
theorem Tr.bare_bare : ∀ {t : Tr}, t.bare.bare = t.bare
  | .num _ _ => rfl
  | .nil _ => rfl
  | .use _ _ as => by simp only [Tr.bare, baresT_bare (ts := as)]
  | .op _ _ a b => by simp only [Tr.bare, Tr.bare_bare (t := a), Tr.bare_bare (t := b)]
  | .ite _ a b c => by simp only [Tr.bare, Tr.bare_bare (t := a), Tr.bare_bare (t := b), Tr.bare_bare (t := c)]
  | .lt _ _ a b => by simp only [Tr.bare, Tr.bare_bare (t := a), Tr.bare_bare (t := b)]
  | .cs _ a b _ _ c => by simp only [Tr.bare, Tr.bare_bare (t := a), Tr.bare_bare (t := b), Tr.bare_bare (t := c)]
theorem baresT_bare : ∀ {ts : List Tr}, baresT (baresT ts) = baresT ts
  | [] => rfl
  | t :: ts => by simp only [baresT, Tr.bare_bare (t := t), baresT_bare (ts := ts)]
end
mutual
theorem Tr.bare_dep : ∀ {t : Tr}, t.bare.dep = t.dep
  | .num _ _ => rfl
  | .nil _ => rfl
  | .use _ _ as => by simp only [Tr.bare, Tr.dep, baresT_dep (ts := as)]
  | .op _ _ a b => by simp only [Tr.bare, Tr.dep, Tr.bare_dep (t := a), Tr.bare_dep (t := b)]
  | .ite _ a b c => by simp only [Tr.bare, Tr.dep, Tr.bare_dep (t := a), Tr.bare_dep (t := b), Tr.bare_dep (t := c)]
  | .lt _ _ a b => by simp only [Tr.bare, Tr.dep, Tr.bare_dep (t := a), Tr.bare_dep (t := b)]
  | .cs _ a b _ _ c => by simp only [Tr.bare, Tr.dep, Tr.bare_dep (t := a), Tr.bare_dep (t := b), Tr.bare_dep (t := c)]
theorem baresT_dep : ∀ {ts : List Tr}, depsT (baresT ts) = depsT ts
  | [] => rfl
  | t :: ts => by simp only [baresT, depsT, Tr.bare_dep (t := t), baresT_dep (ts := ts)]
end
theorem le_sz {a : Nat} (h : a ≤ 1000) : a ≤ szL := Nat.le_trans h (by decide)
theorem pl00 : plOk (0, 0) := by unfold plOk; decide
mutual
theorem Tr.bare_wf : ∀ {t : Tr}, t.wf → t.bare.wf
  | .num _ _, h => by simp only [Tr.wf, Tr.bare] at h ⊢; exact ⟨pl00, h.2⟩
  | .nil _, h => pl00
  | .use _ _ as, h => by
    simp only [Tr.wf, Tr.bare] at h ⊢
    exact ⟨pl00, h.2.1, by rw [baresT_map, List.length_map]; exact h.2.2.1, baresT_wf h.2.2.2⟩
  | .op _ _ a b, h => by simp only [Tr.wf, Tr.bare] at h ⊢; exact ⟨pl00, h.2.1, Tr.bare_wf h.2.2.1, Tr.bare_wf h.2.2.2⟩
  | .ite _ a b c, h => by simp only [Tr.wf, Tr.bare] at h ⊢; exact ⟨pl00, Tr.bare_wf h.2.1, Tr.bare_wf h.2.2.1, Tr.bare_wf h.2.2.2⟩
  | .lt _ _ a b, h => by simp only [Tr.wf, Tr.bare] at h ⊢; exact ⟨pl00, h.2.1, Tr.bare_wf h.2.2.1, Tr.bare_wf h.2.2.2⟩
  | .cs _ a b _ _ c, h => by simp only [Tr.wf, Tr.bare] at h ⊢; exact ⟨pl00, h.2.1, h.2.2.1, Tr.bare_wf h.2.2.2.1, Tr.bare_wf h.2.2.2.2.1, Tr.bare_wf h.2.2.2.2.2⟩
theorem baresT_wf : ∀ {ts : List Tr}, wfsT ts → wfsT (baresT ts)
  | [], _ => trivial
  | t :: ts, h => ⟨Tr.bare_wf h.1, baresT_wf h.2⟩
end
def Pd.bare (d : Pd) : Pd := ⟨(0, 0), d.nm, d.ps, d.b.bare⟩
theorem Pd.bare_wf {d : Pd} {D : Nat} (h : d.wf D) : d.bare.wf D := ⟨pl00, h.2.1, h.2.2.1, h.2.2.2.1, Tr.bare_wf h.2.2.2.2.1, by show d.b.bare.dep ≤ D; rw [Tr.bare_dep]; exact h.2.2.2.2.2⟩
theorem Pd.bare_bare {d : Pd} : d.bare.bare = d.bare := by simp [Pd.bare, Tr.bare_bare]
section
variable {tab : Tab} {n : Nat} {sto : List SO}
theorem cf_with (g : GB tab) {t : Tr} {p : Pl} {ts : List Tr} (hl : ts.length = t.subs.length) (hn : 1 ≤ n) : callF tab n "with_trees" [.val t.pv, .val (plv p), .own (.lst (ts.map Tr.pv))] sto = .ok (.sh (t.re p ts).pv) [.val t.pv, .val (plv p), .own (.lst (ts.map Tr.pv))] sto := by
  obtain ⟨n, rfl⟩ : ∃ m, n = m + 1 := ⟨n - 1, by omega⟩
  refine eq_of_WC (wc_def g.wth ⟨rfl, by decide⟩ ?_)
  simp only [gWith]
  cases t with
  | num q v =>
    simp only [Tr.pv]
    have k : cutL [.str [110, 117, 109], plv q, .int v] (some 2) none = [.int v] := rfl
    push_cast [-TP.pm_isinT, isw, k]
    rfl
  | nil q =>
    simp only [Tr.pv]
    have k : cutL [.str [110, 105, 108], plv q] (some 2) none = [] := rfl
    push_cast [-TP.pm_isinT, isw, k]
    rfl
  | use q x as =>
    simp only [Tr.pv, Tr.re]
    push_cast [-TP.pm_isinT, isw]
    rw [← pvsT_map]
  | op q s a b =>
    obtain ⟨a', b', rfl⟩ : ∃ a b, ts = [a, b] := by
      match ts, hl with
      | [a, b], _ => exact ⟨a, b, rfl⟩
    simp only [Tr.pv, Tr.re, List.map_cons, List.map_nil]
    push_cast [-TP.pm_isinT, isw]
    rfl
  | ite q a b c =>
    obtain ⟨a', b', c', rfl⟩ : ∃ a b c, ts = [a, b, c] := by
      match ts, hl with
      | [a, b, c], _ => exact ⟨a, b, c, rfl⟩
    simp only [Tr.pv, Tr.re, List.map_cons, List.map_nil]
    push_cast [-TP.pm_isinT, isw]
    rfl
  | lt q x a b =>
    obtain ⟨a', b', rfl⟩ : ∃ a b, ts = [a, b] := by
      match ts, hl with
      | [a, b], _ => exact ⟨a, b, rfl⟩
    simp only [Tr.pv, Tr.re, List.map_cons, List.map_nil]
    push_cast [-TP.pm_isinT, isw]
    rfl
  | cs q a b x y c =>
    obtain ⟨a', b', c', rfl⟩ : ∃ a b c, ts = [a, b, c] := by
      match ts, hl with
      | [a, b, c], _ => exact ⟨a, b, c, rfl⟩
    simp only [Tr.pv, Tr.re, List.map_cons, List.map_nil]
    push_cast [-TP.pm_isinT, isw]
    rfl
theorem cf_bareT (g : GB tab) : ∀ {k : Nat} {t : Tr} {n : Nat} {sto : List SO}, t.wf → t.dep ≤ k → k + 2 ≤ n → callF tab n "bare_tree" [.val t.pv] sto = .ok (.sh t.bare.pv) [.val t.pv] sto := by
  intro k
  induction k with
  | zero =>
    intro t n sto _ hd _
    have := t.dep_subs
    omega
  | succ k ih =>
    intro t n sto hw hd hn
    obtain ⟨n, rfl⟩ : ∃ m, n = m + 1 := ⟨n - 1, by omega⟩
    refine eq_of_WC (wc_def g.bareT ⟨rfl, by decide⟩ ?_)
    simp only [gBareT]
    obtain ⟨ws, wl⟩ := Tr.wf_subs hw
    push_cast [cf_subtrees (n := n) (t := t) g.gi (by omega)]
    refine lc_map (xs := t.subs) (g := Tr.pv) (fun s => s.bare.pv) rfl (le_sz (by omega)) (fun s hs => ?_) ?_
    · push_cast [ih (ws s hs) (by have := Tr.dep_lt hs; omega) (by omega : k + 2 ≤ n)]
    · have e1 : t.subs.map (fun s => s.bare.pv) = (t.subs.map Tr.bare).map Tr.pv := by rw [List.map_map]; rfl
      rw [e1]
      have e2 := cf_with (sto := sto) (p := (0, 0)) (n := n) (t := t) (ts := t.subs.map Tr.bare) g (by rw [List.length_map]) (by omega)
      rw [← Tr.bare_re] at e2
      have e3 : plv (0, 0) = .tup [.int 0, .int 0] := rfl
      rw [e3] at e2
      push_cast [e2]
theorem cf_need (g : GB tab) {ds : List Pd} (h : ∀ d ∈ ds, d.wf 10) (hl : ds.length ≤ 8) (hn : 31 ≤ n) : callF tab n "need_program" [.val (.tup (ds.map Pd.pv))] sto = .ok (.sh .non) [.val (.tup (ds.map Pd.pv))] sto := by
  obtain ⟨n, rfl⟩ : ∃ m, n = m + 1 := ⟨n - 1, by omega⟩
  refine eq_of_WC (wc_def g.need ⟨rfl, by decide⟩ ?_)
  simp only [gNeed]
  push_cast [cf_isprog (n := n) (sto := sto) g.gi h hl (by omega)]
theorem pv_idx {d : Pd} : primSem .idx [d.pv, .int 2] = some (.sh (.str d.nm)) ∧ primSem .idx [d.pv, .int 3] = some (.sh (.tup (d.ps.map PV.str))) ∧ primSem .idx [d.pv, .int 4] = some (.sh d.b.pv) := ⟨rfl, rfl, rfl⟩
theorem boxC_pdv {d : Pd} : boxC sto d.pv = d.pv := rfl
theorem cf_bare (g : GB tab) {ds : List Pd} (h : ∀ d ∈ ds, d.wf 10) (hl : ds.length ≤ 8) (hn : 32 ≤ n) : callF tab n "bare" [.val (.tup (ds.map Pd.pv))] sto = .ok (.sh (.tup ((ds.map Pd.bare).map Pd.pv))) [.val (.tup (ds.map Pd.pv))] sto := by
  obtain ⟨n, rfl⟩ : ∃ m, n = m + 1 := ⟨n - 1, by omega⟩
  refine eq_of_WC (wc_def g.bare ⟨rfl, by decide⟩ ?_)
  simp only [gBare]
  push_cast [cf_need (n := n) (sto := sto) g h hl (by omega)]
  refine lc_map (xs := ds) (g := Pd.pv) (fun d => d.bare.pv) rfl (le_sz (by omega)) (fun d hd => ?_) ?_
  · obtain ⟨h1, h2, h3, h4, h5, h6⟩ := h d hd
    obtain ⟨i2, i3, i4⟩ := @pv_idx d
    push_cast [i2, i3, i4, boxC_pdv, cf_bareT (n := n) (sto := sto) g h5 h6 (by omega)]
    rfl
  · rw [show ds.map (fun d => d.bare.pv) = (ds.map Pd.bare).map Pd.pv from by rw [List.map_map]; rfl]
    push_cast []
/-! the law's own -/
theorem pm_isi_tr {t : Tr} : primSem .isi [t.pv, .ty "tuple"] = some (.sh (.bl true)) := by cases t <;> exact pm_isi_tup_tuple
def isTup : PV → Bool
  | .tup _ => true
  | _ => false
theorem isTup_s {x : List Nat} : isTup (.str x) = false := rfl
theorem isTup_i {x : Int} : isTup (.int x) = false := rfl
theorem isTup_tr {t : Tr} : isTup t.pv = true := by cases t <;> rfl
theorem cf_lsubs (g : GB tab) {t : Tr} (hn : 1 ≤ n) : callF tab n "_law_subs" [.val t.pv] sto = .ok (.fr (.lst (t.subs.map Tr.pv))) [.val t.pv] sto := by
  obtain ⟨n, rfl⟩ : ∃ m, n = m + 1 := ⟨n - 1, by omega⟩
  refine eq_of_WC (wc_def g.lsubs ⟨rfl, by decide⟩ ?_)
  simp only [lSubs]
  have sz : 10 ≤ szL := by decide
  cases t with
  | use p x as =>
    simp only [Tr.pv]
    push_cast []
    rw [pvsT_map]
    rfl
  | cs p a b x y c =>
    simp only [Tr.pv]
    push_cast []
    rfl
  | num p v =>
    simp only [Tr.pv]
    have k : cutL [.str [110, 117, 109], plv p, .int v] (some 2) none = [.int v] := rfl
    push_cast [k]
    refine lc_fm (xs := [PV.int v]) (g := fun y => y) isTup (fun y => y) rfl (by simp <;> omega) (fun y hy => ?_) ?_
    · simp only [List.mem_cons, List.not_mem_nil, or_false] at hy
      subst hy
      all_goals
        push_cast [pm_isi_tr, isTup_tr, isTup_s, isTup_i]
    · rw [show List.map (fun y : PV => y) (List.filter isTup [PV.int v]) = [] from by simp [isTup_s, isTup_i, isTup_tr]]
      push_cast []
      rfl
  | nil p =>
    simp only [Tr.pv]
    have k : cutL [.str [110, 105, 108], plv p] (some 2) none = [] := rfl
    push_cast [k]
    refine lc_fm (xs := ([] : List PV)) (g := fun y => y) isTup (fun y => y) rfl (by simp <;> omega) (fun y hy => ?_) ?_
    · exact (nomatch hy)
    · rw [show List.map (fun y : PV => y) (List.filter isTup ([] : List PV)) = [] from by simp [isTup_s, isTup_i, isTup_tr]]
      push_cast []
      rfl
  | op p s a b =>
    simp only [Tr.pv]
    have k : cutL [.str [111, 112], plv p, .str s, a.pv, b.pv] (some 2) none = [.str s, a.pv, b.pv] := rfl
    push_cast [k]
    refine lc_fm (xs := [PV.str s, a.pv, b.pv]) (g := fun y => y) isTup (fun y => y) rfl (by simp <;> omega) (fun y hy => ?_) ?_
    · simp only [List.mem_cons, List.not_mem_nil, or_false] at hy
      rcases hy with rfl | rfl | rfl
      all_goals
        push_cast [pm_isi_tr, isTup_tr, isTup_s, isTup_i]
    · rw [show List.map (fun y : PV => y) (List.filter isTup [PV.str s, a.pv, b.pv]) = [a.pv, b.pv] from by simp [isTup_s, isTup_i, isTup_tr]]
      push_cast []
      rfl
  | ite p a b c =>
    simp only [Tr.pv]
    have k : cutL [.str [105, 102], plv p, a.pv, b.pv, c.pv] (some 2) none = [a.pv, b.pv, c.pv] := rfl
    push_cast [k]
    refine lc_fm (xs := [a.pv, b.pv, c.pv]) (g := fun y => y) isTup (fun y => y) rfl (by simp <;> omega) (fun y hy => ?_) ?_
    · simp only [List.mem_cons, List.not_mem_nil, or_false] at hy
      rcases hy with rfl | rfl | rfl
      all_goals
        push_cast [pm_isi_tr, isTup_tr, isTup_s, isTup_i]
    · rw [show List.map (fun y : PV => y) (List.filter isTup [a.pv, b.pv, c.pv]) = [a.pv, b.pv, c.pv] from by simp [isTup_s, isTup_i, isTup_tr]]
      push_cast []
      rfl
  | lt p x a b =>
    simp only [Tr.pv]
    have k : cutL [.str [108, 101, 116], plv p, .str x, a.pv, b.pv] (some 2) none = [.str x, a.pv, b.pv] := rfl
    push_cast [k]
    refine lc_fm (xs := [PV.str x, a.pv, b.pv]) (g := fun y => y) isTup (fun y => y) rfl (by simp <;> omega) (fun y hy => ?_) ?_
    · simp only [List.mem_cons, List.not_mem_nil, or_false] at hy
      rcases hy with rfl | rfl | rfl
      all_goals
        push_cast [pm_isi_tr, isTup_tr, isTup_s, isTup_i]
    · rw [show List.map (fun y : PV => y) (List.filter isTup [PV.str x, a.pv, b.pv]) = [a.pv, b.pv] from by simp [isTup_s, isTup_i, isTup_tr]]
      push_cast []
      rfl
theorem cutL_pre {xs : List PV} {a b : Nat} (h : b ≤ a ∧ a ≤ xs.length) : cutL xs none (some ((a : Int) - (b : Int))) = xs.take (a - b) := by
  unfold cutL
  have e1 : HT.sIx xs.length 0 none = 0 := rfl
  have e2 : HT.sIx xs.length xs.length (some ((a : Int) - (b : Int))) = a - b := by
    rw [show (a : Int) - (b : Int) = ((a - b : Nat) : Int) from by omega, HT.sIx_nat]
    omega
  rw [e1, e2]
  rfl
theorem cf_lwith (g : GB tab) {t : Tr} {ts : List Tr} (hl : ts.length = t.subs.length) (hz : ts.length ≤ 4) (hn : 1 ≤ n) : callF tab n "_law_with" [.val t.pv, .own (.lst (ts.map Tr.pv))] sto = .ok (.sh (t.re t.pl ts).pv) [.val t.pv, .own (.lst (ts.map Tr.pv))] sto := by
  obtain ⟨n, rfl⟩ : ∃ m, n = m + 1 := ⟨n - 1, by omega⟩
  refine eq_of_WC (wc_def g.lwth ⟨rfl, by decide⟩ ?_)
  simp only [lWith]
  have sz : 100 ≤ szL := by decide
  cases t with
  | num q v =>
    obtain rfl : ts = [] := List.length_eq_zero_iff.mp hl
    simp only [Tr.pv, Tr.re, Tr.pl, List.map_nil]
    have k : cutL [.str [110, 117, 109], plv q, .int v] none (some 3) = [.str [110, 117, 109], plv q, .int v] := rfl
    push_cast [k]
    rfl
  | nil q =>
    obtain rfl : ts = [] := List.length_eq_zero_iff.mp hl
    simp only [Tr.pv, Tr.re, Tr.pl, List.map_nil]
    have k : cutL [.str [110, 105, 108], plv q] none (some 2) = [.str [110, 105, 108], plv q] := rfl
    push_cast [k]
    rfl
  | use q x as =>
    simp only [Tr.pv, Tr.re, Tr.pl]
    have k : cutL [.str [117, 115, 101], plv q, .str x, .tup (pvsT as)] none (some 3) = [.str [117, 115, 101], plv q, .str x] := rfl
    push_cast [k]
    rw [← pvsT_map]
  | op q s a b =>
    obtain ⟨a', b', rfl⟩ : ∃ a b, ts = [a, b] := by
      match ts, hl with
      | [a, b], _ => exact ⟨a, b, rfl⟩
    simp only [Tr.pv, Tr.re, Tr.pl, List.map_cons, List.map_nil]
    have k : cutL [.str [111, 112], plv q, .str s, a.pv, b.pv] none (some 3) = [.str [111, 112], plv q, .str s] := rfl
    push_cast [k]
    rfl
  | ite q a b c =>
    obtain ⟨a', b', c', rfl⟩ : ∃ a b c, ts = [a, b, c] := by
      match ts, hl with
      | [a, b, c], _ => exact ⟨a, b, c, rfl⟩
    simp only [Tr.pv, Tr.re, Tr.pl, List.map_cons, List.map_nil]
    have k : cutL [.str [105, 102], plv q, a.pv, b.pv, c.pv] none (some 2) = [.str [105, 102], plv q] := rfl
    push_cast [k]
    rfl
  | lt q x a b =>
    obtain ⟨a', b', rfl⟩ : ∃ a b, ts = [a, b] := by
      match ts, hl with
      | [a, b], _ => exact ⟨a, b, rfl⟩
    simp only [Tr.pv, Tr.re, Tr.pl, List.map_cons, List.map_nil]
    have k : cutL [.str [108, 101, 116], plv q, .str x, a.pv, b.pv] none (some 3) = [.str [108, 101, 116], plv q, .str x] := rfl
    push_cast [k]
    rfl
  | cs q a b x y c =>
    obtain ⟨a', b', c', rfl⟩ : ∃ a b c, ts = [a, b, c] := by
      match ts, hl with
      | [a, b, c], _ => exact ⟨a, b, c, rfl⟩
    simp only [Tr.pv, Tr.re, Tr.pl, List.map_cons, List.map_nil]
    have k : cutL [.str [99, 97, 115, 101], plv q, a.pv, b.pv, .str x, .str y, c.pv] none (some 2) = [.str [99, 97, 115, 101], plv q] := rfl
    have k2 : cutL [.str [99, 97, 115, 101], plv q, a.pv, b.pv, .str x, .str y, c.pv] (some 4) (some 6) = [.str x, .str y] := rfl
    push_cast [k, k2]
    rfl
/-- a tree's first, and what is behind its place -/
theorem re_parts {t : Tr} {ts : List Tr} (hl : ts.length = t.subs.length) : ∃ w rest, rest.length ≤ 5 ∧ ∀ p, (t.re p ts).pv = .tup (.str w :: plv p :: rest) := by
  cases t with
  | num q v => exact ⟨_, _, by simp <;> omega, fun p => rfl⟩
  | nil q => exact ⟨_, [], by simp, fun p => rfl⟩
  | use q x as => exact ⟨_, [.str x, .tup (pvsT ts)], by simp, fun p => rfl⟩
  | op q s a b =>
    match ts, hl with
    | [a', b'], _ => exact ⟨_, [.str s, a'.pv, b'.pv], by simp, fun p => rfl⟩
  | ite q a b c =>
    match ts, hl with
    | [a', b', c'], _ => exact ⟨_, [a'.pv, b'.pv, c'.pv], by simp, fun p => rfl⟩
  | lt q x a b =>
    match ts, hl with
    | [a', b'], _ => exact ⟨_, [.str x, a'.pv, b'.pv], by simp, fun p => rfl⟩
  | cs q a b x y c =>
    match ts, hl with
    | [a', b', c'], _ => exact ⟨_, [a'.pv, b'.pv, .str x, .str y, c'.pv], by simp, fun p => rfl⟩
theorem cut_2 {a b : PV} {r : List PV} : cutL (a :: b :: r) (some 2) none = r := by
  unfold cutL
  have e1 : HT.sIx (a :: b :: r).length 0 (some 2) = 2 := by
    rw [show (2 : Int) = ((2 : Nat) : Int) from rfl, HT.sIx_nat]
    simp
  have e2 : HT.sIx (a :: b :: r).length (a :: b :: r).length none = (a :: b :: r).length := rfl
  rw [e1, e2]
  simp
theorem cf_lbareT (g : GB tab) : ∀ {k : Nat} {t : Tr} {n : Nat} {sto : List SO}, t.wf → t.dep ≤ k → k + 2 ≤ n → callF tab n "_law_bare_tree" [.val t.pv] sto = .ok (.sh t.bare.pv) [.val t.pv] sto := by
  intro k
  induction k with
  | zero =>
    intro t n sto _ hd _
    have := t.dep_subs
    omega
  | succ k ih =>
    intro t n sto hw hd hn
    obtain ⟨n, rfl⟩ : ∃ m, n = m + 1 := ⟨n - 1, by omega⟩
    refine eq_of_WC (wc_def g.lbareT ⟨rfl, by decide⟩ ?_)
    simp only [lBareT]
    obtain ⟨ws, wl⟩ := Tr.wf_subs hw
    push_cast [cf_lsubs (n := n) (t := t) g (by omega)]
    refine lc_map (xs := t.subs) (g := Tr.pv) (fun s => s.bare.pv) rfl (le_sz (by omega)) (fun s hs => ?_) ?_
    · push_cast [ih (ws s hs) (by have := Tr.dep_lt hs; omega) (by omega : k + 2 ≤ n)]
    · have e1 : t.subs.map (fun s => s.bare.pv) = (t.subs.map Tr.bare).map Tr.pv := by rw [List.map_map]; rfl
      rw [e1]
      have e2 := cf_lwith (sto := sto) (n := n) (t := t) (ts := t.subs.map Tr.bare) g (by rw [List.length_map]) (by rw [List.length_map]; exact wl) (by omega)
      obtain ⟨w, rest, hr, hre⟩ := re_parts (t := t) (ts := t.subs.map Tr.bare) (by rw [List.length_map])
      rw [hre] at e2
      have e4 : t.bare.pv = .tup (.str w :: .tup [.int 0, .int 0] :: rest) := by rw [Tr.bare_re]; exact hre (0, 0)
      have hz : [PV.str w, PV.tup [PV.int 0, PV.int 0]].length + rest.length ≤ szL := by
        have : 100 ≤ szL := by decide
        simp only [List.length_cons, List.length_nil]
        omega
      push_cast [e2, cut_2, pm_addT hz]
      rw [e4]
theorem cf_lbare (g : GB tab) {ds : List Pd} (h : ∀ d ∈ ds, d.wf 10) (hl : ds.length ≤ 8) (hn : 32 ≤ n) : callF tab n "_law_bare" [.val (.tup (ds.map Pd.pv))] sto = .ok (.sh (.tup ((ds.map Pd.bare).map Pd.pv))) [.val (.tup (ds.map Pd.pv))] sto := by
  obtain ⟨n, rfl⟩ : ∃ m, n = m + 1 := ⟨n - 1, by omega⟩
  refine eq_of_WC (wc_def g.lbare ⟨rfl, by decide⟩ ?_)
  simp only [lBare]
  push_cast []
  refine lc_map (xs := ds) (g := Pd.pv) (fun d => d.bare.pv) rfl (le_sz (by omega)) (fun d hd => ?_) ?_
  · obtain ⟨h1, h2, h3, h4, h5, h6⟩ := h d hd
    obtain ⟨i2, i3, i4⟩ := @pv_idx d
    have k : slSem (some 2) (some 4) d.pv = some (.sh (.tup [.str d.nm, .tup (d.ps.map PV.str)])) := rfl
    push_cast [i4, k, boxC_pdv, cf_lbareT (n := n) (sto := sto) g h5 h6 (by omega)]
    rfl
  · rw [show ds.map (fun d => d.bare.pv) = (ds.map Pd.bare).map Pd.pv from by rw [List.map_map]; rfl]
    push_cast []
/-! depth -/
def mxI : List Int → Int
  | [] => 0
  | n :: r => maxI n r
theorem maxI_dep : ∀ (ts : List Tr) (m : Nat), maxI (m : Int) (ts.map fun t => (t.dep : Int)) = ((max m (depsT ts) : Nat) : Int)
  | [], m => by simp [maxI, depsT]
  | t :: ts, m => by
    simp only [List.map_cons, maxI, depsT]
    have : (if (m : Int) < (t.dep : Int) then (t.dep : Int) else (m : Int)) = ((max m t.dep : Nat) : Int) := by split <;> omega
    rw [this, maxI_dep ts]
    congr 1
    omega
theorem cf_ldepth (g : GB tab) : ∀ {k : Nat} {t : Tr} {n : Nat} {sto : List SO}, t.wf → t.dep ≤ k → k + 2 ≤ n → callF tab n "_law_depth" [.val t.pv] sto = .ok (.sh (.int (t.dep : Int))) [.val t.pv] sto := by
  intro k
  induction k with
  | zero =>
    intro t n sto _ hd _
    have := t.dep_subs
    omega
  | succ k ih =>
    intro t n sto hw hd hn
    obtain ⟨n, rfl⟩ : ∃ m, n = m + 1 := ⟨n - 1, by omega⟩
    refine eq_of_WC (wc_def g.ldepth ⟨rfl, by decide⟩ ?_)
    simp only [lDepth]
    obtain ⟨ws, wl⟩ := Tr.wf_subs hw
    push_cast [cf_lsubs (n := n) (t := t) g (by omega)]
    refine lc_map (xs := t.subs) (g := Tr.pv) (fun s => .int (s.dep : Int)) rfl (le_sz (by omega)) (fun s hs => ?_) ?_
    · push_cast [ih (ws s hs) (by have := Tr.dep_lt hs; omega) (by omega : k + 2 ≤ n)]
    · push_cast [ints_map (f := fun s : Tr => (s.dep : Int))]
      have e5 : (1 : Int) + (match t.subs.map (fun s => (s.dep : Int)) with | [] => 0 | n :: r => maxI n r) = (t.dep : Int) := by
        rw [t.dep_subs]
        cases t.subs with
        | nil => rfl
        | cons a as =>
          show (1 : Int) + maxI (a.dep : Int) (as.map fun s => (s.dep : Int)) = _
          rw [maxI_dep]
          simp only [depsT]
          omega
      exact congrArg (fun i => RV.sh (.int i)) e5
end
end TP

set_option Elab.async false
set_option linter.all false
set_option maxRecDepth 100000
set_option maxHeartbeats 8000000
set_option exponentiation.threshold 20000
/-! Kg7: depth, all trees, chains. -/
namespace TP
open PySem
local macro_rules
  | `(tactic| push_cast [$xs,*]) => `(tactic| simp (maxSteps := 2000000) -implicitDefEqProofs -dsimp (disch := first | assumption | (with_reducible refine TP.big_lit ?_; omega) | decide | omega | (simp only [List.length_cons, List.length_nil, List.length_map, List.length_append, TP.szL]; omega)) only [TP.oK_some, TP.varK_val, TP.varK_own, TP.BR_t, TP.BR_f, TP.BR_d, ↓TP.wE_con, ↓TP.wE_dead, ↓TP.wEs_nil, ↓TP.wEs_cons, ↓TP.wE_prim1, ↓TP.wE_prim2, TP.strK_s, ↓TP.wE_sm, TP.dixK_s, ↓TP.wE_didx, ↓TP.wE_dnew, TP.dctK_d, TP.DG_s, ↓TP.wE_dget, TP.TS_bl, ↓TP.wE_not, ↓TP.wE_and1, ↓TP.wE_and, ↓TP.wE_or1, ↓TP.wE_or, ↓TP.wE_ite, ↓TP.wE_chain, ↓TP.KPs_nil, ↓TP.wE_disp, TP.keep_sh, TP.keep_fr, TP.keep_hd, TP.keepH_val, TP.keepH_own, ↓TP.wE_tup, ↓TP.wE_list, ↓TP.wE_call, ↓TP.wE_callK, TP.gloK_v, ↓TP.wE_callL, ↓TP.wE_mut, ↓TP.wE_slice, ↓TP.wE_lc, ↓TP.wE_lc2, TP.itK_s, ↓TP.wI_of, TP.rgK_i, ↓TP.wI_range1, TP.rg2K_i, ↓TP.wI_range2, ↓TP.wI_enum, ↓TP.wI_rev, ↓TP.wI_zip, ↓TP.nxt_nx, ↓TP.nxt_br, ↓TP.nxt_ct, ↓TP.nxt_rt, ↓TP.lpQ_nx, ↓TP.lpQ_ct, ↓TP.lpQ_br, ↓TP.lpQ_rt, TP.BT_nm, TP.BT_tup, TP.BT_lst, TP.BTs_nil, TP.BTs_cons, TP.AG_sh, TP.AG_fr, TP.AG_frT, TP.AG_hd, TP.RT_sh, TP.RT_fr, TP.RT_hd, TP.rtH_val, TP.rtH_own, TP.rtH_par, ↓TP.wS_nil, ↓TP.wS_asg, ↓TP.wS_ret, ↓TP.wS_retN, ↓TP.wS_pass, ↓TP.wS_brk, ↓TP.wS_cont, ↓TP.wS_dead, ↓TP.wS_expr, ↓TP.wS_apc, ↓TP.wS_apn, ↓TP.wS_ite, ↓TP.wS_setix, ↓TP.wS_augU, TP.AU_v, ↓TP.wS_par, ↓TP.wS_asgR, ↓TP.wS_for, ↓TP.wS_while, ↓TP.dfQ_nx, ↓TP.dfQ_rt, ↓TP.wE_var', TP.cont_sh, TP.cont_fr, TP.cont_hd, TP.contH_val, TP.contH_own, TP.boxC_nl, TP.boxC_non, TP.boxC_bl, TP.boxC_int, TP.boxC_str, TP.boxC_tup, TP.boxC_lst, TP.boxC_rol, TP.boxC_dct, TP.boxC_ty, TP.boxC_glo, TP.putBack_hd, TP.pbH_own, TP.argsOf_nil, TP.argsOf_sh, TP.argsOf_fr, TP.argsOf_hd, TP.argH_val, TP.argH_own, TP.backE_nil, TP.backE_sh, TP.backE_fr, TP.backE_own, TP.backE_val, TP.permR_nil, TP.permR_inl, TP.permR_inr, TP.finA_nil, TP.finA_cons, TP.frzA_nil, TP.frzA_cons, TP.frz1_eq, TP.frH_own, TP.frH_val, TP.itemsOf_lst, TP.itemsOf_tup, TP.itemsOf_rol, TP.itemsOf_str, TP.itemsOf_dct, TP.enumOf_lst, TP.revOf_lst, TP.revOf_tup, TP.zipOf_lst, TP.zipOf_tup, TP.P1_s, TP.P2_s, TP.SM_s, TP.MU_s, TP.SX_s, TP.C2_s, TP.C2k_t, TP.C2k_f, TP.C2k_d, TP.BR_nd, TP.pm_add, TP.pm_sub, TP.pm_neg, TP.pm_addS, TP.pm_addT, TP.pm_addL, TP.pm_mul, TP.pm_fdiv, TP.pm_mod, TP.pm_pow, TP.pm_lt, TP.pm_le, TP.pm_gt, TP.pm_ge, TP.pm_isN, TP.pm_notN, TP.pm_isB, TP.pm_notB, TP.pm_idx_lst, TP.pm_len_lst, TP.pm_idx_tup, TP.pm_len_tup, TP.pm_idx_rol, TP.pm_len_rol, TP.pm_idx_str, TP.pm_len_str, TP.pm_abs, TP.pm_min2, TP.pm_max2, TP.pm_toIntI, TP.pm_toIntB, TP.pm_toTupL, TP.pm_toTupT, TP.pm_toList_lst, TP.pm_toList_tup, TP.pm_toList_rol, TP.pm_all, TP.pm_maxD, TP.pm_zipL, TP.pm_any, TP.pm_sum, TP.pm_revs, TP.pm_toStrI, TP.pm_joinL, TP.jnK_s, TP.pm_split, TP.pm_mulS, TP.pm_mulL, TP.pm_mulT, TP.pm_isinT, TP.pm_isinL, TP.pm_notinT, TP.pm_notinL, TP.pm_isinS, TP.pm_notinS, TP.pm_isi_non_int, TP.pm_isi_non_bool, TP.pm_isi_non_str, TP.pm_isi_non_tuple, TP.pm_isi_non_list, TP.pm_isi_bl_int, TP.pm_isi_bl_bool, TP.pm_isi_bl_str, TP.pm_isi_bl_tuple, TP.pm_isi_bl_list, TP.pm_isi_int_int, TP.pm_isi_int_bool, TP.pm_isi_int_str, TP.pm_isi_int_tuple, TP.pm_isi_int_list, TP.pm_isi_str_int, TP.pm_isi_str_bool, TP.pm_isi_str_str, TP.pm_isi_str_tuple, TP.pm_isi_str_list, TP.pm_isi_tup_int, TP.pm_isi_tup_bool, TP.pm_isi_tup_str, TP.pm_isi_tup_tuple, TP.pm_isi_tup_list, TP.pm_isi_lst_int, TP.pm_isi_lst_bool, TP.pm_isi_lst_str, TP.pm_isi_lst_tuple, TP.pm_isi_lst_list, TP.mu_app, TP.mu_clear, TP.mu_reverse, TP.mutTy_s, TP.set_lst, TP.key_int, TP.key_str, TP.pm_idx_dct, TP.pm_isin_dct, TP.pm_notin_dct, TP.pm_len_dct, TP.set_dct, TP.PD_s, TP.pairs_nil, TP.pairs_str, TP.pairs_int, TP.aug_add, TP.aug_sub, TP.sl_lst, TP.sl_tup, TP.sl_str, TP.bnd_abs, TP.bnd_int, TP.isAbs_non, TP.isAbs_int, TP.isAbs_var, TP.isAbs_prim, TP.isAbs_call, TP.bools_map, TP.ints_map, TP.strs_map, TP.ixN_0, TP.ixN_1, TP.atI_c0, TP.atI_nat, TP.atI_c1, TP.atI_c2, TP.atI_c3, TP.atI_c4, TP.atI_c5, TP.atI_c6, TP.atI_c7, TP.pm_eqI, TP.pm_neI, TP.tx_ok, TP.pm_eqS, TP.pm_neS, TP.any_str, TP.all_flat_str, TP.pm_isinT_s, TP.pm_notinT_s, TP.pm_isinL_s, TP.pm_notinL_s, TP.WC_ok, ↓TP.KPs_cons, List.getElem?_cons_succ, List.getElem?_cons_zero, List.set_cons_succ, List.set_cons_zero, List.cons_append, List.nil_append, List.length_cons, List.length_nil, Option.map_some, Option.bind_some, List.append_nil, List.getD_cons_zero, List.getD_cons_succ, List.replicate_succ, List.replicate_zero, TP.wipeS_nil, TP.wipeS_cons, TP.restS_nil, TP.restS_cons, TP.ownSlots_nil, TP.ownSlots_cons, TP.owH_val, TP.owH_un, Bool.or_false, Bool.false_or, Bool.or_true, Bool.true_or, Bool.and_true, Bool.true_and, Bool.and_false, Bool.false_and, Bool.not_true, Bool.not_false, List.not_mem_nil, if_true, if_false, ite_true, ite_false, and_true, true_and, forall_const, true_implies, false_implies, not_true, not_false, decide_true, decide_false, decide_eq_true_eq, Bool.false_eq_true, Bool.true_eq_false, and_self, not_true_eq_false, not_false_eq_true, ↓TP.CS_nil, ↓TP.CS_one, Int.reduceAdd, Int.reduceSub, Int.reduceMul, Int.reduceNeg, Int.reduceLT, Int.reduceLE, Int.reduceToNat, Int.reducePow, Nat.reduceAdd, Nat.reduceSub, Nat.reduceEqDiff, Int.reduceEq, Int.reduceFDiv, Int.reduceFMod, List.cons.injEq, reduceCtorEq, List.mem_cons, or_false, or_true, false_or, true_or, false_and, and_false, ne_eq, TP.varK_ns, TP.cont_rn, TP.contN_ns, TP.argsOf_rn, TP.argN_ns, TP.backE_rn, TP.bkN_ns, TP.keep_rn, TP.keepN_ns, TP.owH_ns, TP.pm_w2, TP.pm_w3, TP.pm_w4, TP.pm_w5, TP.set_w2, TP.pm_h0, TP.pm_h1, TP.pm_h2, TP.boxC_hdv, TP.kv_eqn, TP.kv_eql, TP.kv_eqk, TP.pm_isinL_s, TP.pm_notinL_s, TP.to_nms, TP.to_hds, TP.to_w5, TP.to_w2, TP.to_w0, TP.to_to, TP.c0, TP.c1, TP.c2, TP.c3, TP.c4, TP.c5, TP.c6, TP.c7, TP.c8, TP.boxC_trv, $xs,*])

def lAllT : Fd := ⟨1, 4, [], [.asg (.nm 1) (.lc (.prim .idx [(.var 3), (.con (.int (4)))]) (.nm 3) (.of (.var 0)) [] [3]), .asg (.nm 2) (.con (.int (0))), .while (.prim .lt [(.var 2), (.prim .len [(.var 1)])]) [.asg (.nm 1) (.prim .add [(.var 1), (.call "_law_subs" [(.prim .idx [(.var 1), (.var 2)])])]), .asg (.nm 2) (.prim .add [(.var 2), (.con (.int (1)))])], .ret (.var 1)]⟩
def lChain : Fd := ⟨3, 8, [], [.asg (.nm 3) (.prim .idx [(.list [(.tup [(.con (.str [110, 117, 109])), (.var 2), (.con (.int (5)))]), (.tup [(.con (.str [110, 105, 108])), (.var 2)]), (.tup [(.con (.str [117, 115, 101])), (.var 2), (.con (.str [97])), (.tup [])])]), (.call "_law_draw" [(.var 0), (.con (.int (3)))])]), .for (.nm 4) (.range [(.prim .sub [(.var 1), (.con (.int (1)))])]) [.asg (.nm 5) (.call "_law_draw" [(.var 0), (.con (.int (7)))]), .asg (.nm 6) (.tup [(.con (.str [110, 117, 109])), (.var 2), (.var 4)]), .ite (.prim .lt [(.var 5), (.con (.int (2)))]) [.asg (.nm 3) (.prim .idx [(.list [(.tup [(.con (.str [111, 112])), (.var 2), (.con (.str [43])), (.var 6), (.var 3)]), (.tup [(.con (.str [111, 112])), (.var 2), (.con (.str [58])), (.var 3), (.var 6)])]), (.var 5)])] [.ite (.prim .eq [(.var 5), (.con (.int (2)))]) [.asg (.nm 3) (.tup [(.con (.str [117, 115, 101])), (.var 2), (.con (.str [102])), (.prim .idx [(.list [(.tup [(.var 3)]), (.tup [(.var 6), (.var 6), (.var 6), (.var 3)])]), (.call "_law_draw" [(.var 0), (.con (.int (2)))])])])] [.ite (.prim .eq [(.var 5), (.con (.int (3)))]) [.asg (.nm 7) (.list [(.var 6), (.var 6), (.var 6)]), .setix (.var 7) (.call "_law_draw" [(.var 0), (.con (.int (3)))]) (.var 3), .asg (.nm 3) (.tup [(.con (.str [105, 102])), (.var 2), (.prim .idx [(.var 7), (.con (.int (0)))]), (.prim .idx [(.var 7), (.con (.int (1)))]), (.prim .idx [(.var 7), (.con (.int (2)))])])] [.ite (.prim .lt [(.var 5), (.con (.int (6)))]) [.asg (.nm 3) (.prim .idx [(.list [(.tup [(.con (.str [108, 101, 116])), (.var 2), (.con (.str [97])), (.var 3), (.var 6)]), (.tup [(.con (.str [108, 101, 116])), (.var 2), (.con (.str [97])), (.var 6), (.var 3)])]), (.prim .sub [(.var 5), (.con (.int (4)))])])] [.asg (.nm 7) (.list [(.var 6), (.var 6), (.var 6)]), .setix (.var 7) (.call "_law_draw" [(.var 0), (.con (.int (3)))]) (.var 3), .asg (.nm 3) (.tup [(.con (.str [99, 97, 115, 101])), (.var 2), (.prim .idx [(.var 7), (.con (.int (0)))]), (.prim .idx [(.var 7), (.con (.int (1)))]), (.con (.str [97])), (.con (.str [98])), (.prim .idx [(.var 7), (.con (.int (2)))])])]]]]], .ret (.var 3)]⟩
theorem str_deep {x : List Nat} (h : txOk x = true) : (PV.str x).deep = some 0 := by
  unfold txOk at h
  simp only [PV.deep, h, if_true]
theorem plv_deep {p : Pl} : (plv p).deep = some 1 := rfl
theorem opsL_tx {s : List Nat} (h : s ∈ opsL) : txOk s = true := by
  have : ∀ x ∈ opsL, txOk x = true := by decide
  exact this s h
mutual
theorem tr_deep : ∀ {t : Tr}, t.wf → ∃ n, t.pv.deep = some n ∧ n ≤ 2 * t.dep
  | .num p v, h => ⟨2, rfl, by simp only [Tr.dep]; omega⟩
  | .nil p, h => ⟨2, rfl, by simp only [Tr.dep]; omega⟩
  | .use p x as, h => by
    simp only [Tr.wf] at h
    obtain ⟨n, e, hn⟩ := trs_deep h.2.2.2
    refine ⟨max 1 (n + 1) + 1, ?_, by simp only [Tr.dep]; omega⟩
    simp only [Tr.pv, PV.deep, deeps, plv_deep, e]
    have e1 := str_deep h.2.1.tx
    simp only [PV.deep] at e1
    rw [e1]
    show some (max 0 (max 1 (max 0 (max (n + 1) 0))) + 1) = _
    exact congrArg some (by omega)
  | .op p s a b, h => by
    simp only [Tr.wf] at h
    obtain ⟨n, e, hn⟩ := tr_deep h.2.2.1
    obtain ⟨m, f, hm⟩ := tr_deep h.2.2.2
    refine ⟨max 1 (max n m) + 1, ?_, by simp only [Tr.dep]; omega⟩
    simp only [Tr.pv, PV.deep, deeps, plv_deep, e, f]
    have e1 := str_deep (opsL_tx h.2.1)
    simp only [PV.deep] at e1
    rw [e1]
    show some (max 0 (max 1 (max 0 (max n (max m 0)))) + 1) = _
    exact congrArg some (by omega)
  | .ite p a b c, h => by
    simp only [Tr.wf] at h
    obtain ⟨n, e, hn⟩ := tr_deep h.2.1
    obtain ⟨m, f, hm⟩ := tr_deep h.2.2.1
    obtain ⟨l, g, hl⟩ := tr_deep h.2.2.2
    refine ⟨max 1 (max n (max m l)) + 1, ?_, by simp only [Tr.dep]; omega⟩
    simp only [Tr.pv, PV.deep, deeps, plv_deep, e, f, g]
    show some (max 0 (max 1 (max n (max m (max l 0)))) + 1) = _
    exact congrArg some (by omega)
  | .lt p x a b, h => by
    simp only [Tr.wf] at h
    obtain ⟨n, e, hn⟩ := tr_deep h.2.2.1
    obtain ⟨m, f, hm⟩ := tr_deep h.2.2.2
    refine ⟨max 1 (max n m) + 1, ?_, by simp only [Tr.dep]; omega⟩
    simp only [Tr.pv, PV.deep, deeps, plv_deep, e, f]
    have e1 := str_deep h.2.1.tx
    simp only [PV.deep] at e1
    rw [e1]
    show some (max 0 (max 1 (max 0 (max n (max m 0)))) + 1) = _
    exact congrArg some (by omega)
  | .cs p a b x y c, h => by
    simp only [Tr.wf] at h
    obtain ⟨n, e, hn⟩ := tr_deep h.2.2.2.1
    obtain ⟨m, f, hm⟩ := tr_deep h.2.2.2.2.1
    obtain ⟨l, g, hl⟩ := tr_deep h.2.2.2.2.2
    refine ⟨max 1 (max n (max m l)) + 1, ?_, by simp only [Tr.dep]; omega⟩
    simp only [Tr.pv, PV.deep, deeps, plv_deep, e, f, g]
    have e1 := str_deep h.2.1.tx
    have e2 := str_deep h.2.2.1.tx
    simp only [PV.deep] at e1 e2
    rw [e1, e2]
    show some (max 0 (max 1 (max n (max m (max 0 (max 0 (max l 0)))))) + 1) = _
    exact congrArg some (by omega)
theorem trs_deep : ∀ {ts : List Tr}, wfsT ts → ∃ n, deeps (pvsT ts) = some n ∧ n ≤ 2 * depsT ts
  | [], _ => ⟨0, rfl, Nat.le_refl _⟩
  | t :: ts, h => by
    obtain ⟨n, e, hn⟩ := tr_deep h.1
    obtain ⟨m, f, hm⟩ := trs_deep h.2
    refine ⟨max n m, ?_, by simp only [depsT]; omega⟩
    simp only [pvsT, deeps, e, f]
end
theorem tr_data {t : Tr} (h : t.wf) (hd : t.dep ≤ 20) : dataOk t.pv = true := by
  obtain ⟨n, e, hn⟩ := tr_deep h
  simp only [dataOk, e]
  exact decide_eq_true (by omega)
theorem trs_data {ts : List Tr} (h : ∀ t ∈ ts, t.wf) (hd : depsT ts ≤ 20) : dataOk (.lst (ts.map Tr.pv)) = true := by
  obtain ⟨n, e, hn⟩ := trs_deep (wfsT_mem.mpr h)
  rw [pvsT_map] at e
  simp only [dataOk, PV.deep, e]
  exact decide_eq_true (by show n + 1 ≤ 60; omega)
theorem pm_neTrs {ts : List Tr} (h : ∀ t ∈ ts, t.wf) (hd : depsT ts ≤ 20) : primSem .ne [.lst (ts.map Tr.pv), .lst []] = some (.sh (.bl (!decide (ts = [])))) := by
  rw [pm_ne (trs_data h hd) rfl]
  cases ts with
  | nil => rfl
  | cons x xs => rfl
theorem depsT_append : ∀ {a b : List Tr}, depsT (a ++ b) = max (depsT a) (depsT b)
  | [], b => by simp [depsT]
  | t :: a, b => by simp only [List.cons_append, depsT, depsT_append (a := a)]; omega
theorem dep_level : ∀ {ts : List Tr}, ts ≠ [] → depsT ts = 1 + depsT (ts.map Tr.subs).flatten
  | [], h => absurd rfl h
  | [t], _ => by simp only [depsT, List.map_cons, List.map_nil, List.flatten_cons, List.flatten_nil, List.append_nil, t.dep_subs]; omega
  | t :: u :: r, _ => by
    have ih := dep_level (ts := u :: r) (by simp)
    show max t.dep (depsT (u :: r)) = 1 + depsT (t.subs ++ ((u :: r).map Tr.subs).flatten)
    rw [depsT_append, ih, t.dep_subs]
    omega
theorem len_level : ∀ {ts : List Tr}, (∀ t ∈ ts, t.wf) → (ts.map Tr.subs).flatten.length ≤ 4 * ts.length
  | [], _ => by simp
  | t :: ts, h => by
    have ih := len_level (ts := ts) fun x hx => h x (List.mem_cons_of_mem _ hx)
    have h1 := (Tr.wf_subs (h t (List.mem_cons_self ..))).2
    simp only [List.map_cons, List.flatten_cons, List.length_append, List.length_cons]
    omega
section
variable {tab : Tab} {n : Nat} {sto : List SO}
theorem cf_depth (g : GB tab) {t : Tr} (hw : t.wf) (hd : t.dep ≤ 10) (hn : 3 ≤ n) : callF tab n "depth" [.val t.pv] sto = .ok (.sh (.int (t.dep : Int))) [.val t.pv] sto := by
  obtain ⟨n, rfl⟩ : ∃ m, n = m + 1 := ⟨n - 1, by omega⟩
  refine eq_of_WC (wc_def g.depth ⟨rfl, by decide⟩ ?_)
  simp only [gDepth]
  push_cast []
  refine wh_rule (fun m s => ∃ (lv : List Tr) (f : Nat), m = depsT lv ∧ f + depsT lv = t.dep ∧ lv.length ≤ 4 ^ f ∧ (∀ x ∈ lv, x.wf) ∧ s = ⟨[.val t.pv, .val (.int (f : Int)), .own (.lst (lv.map Tr.pv)), .un, .un], sto⟩) t.dep (turns_lt (by omega)) ⟨[t], 0, by simp [depsT], by simp [depsT], by simp, by simpa using hw, rfl⟩ ?_
  rintro m s ⟨lv, f, rfl, hf, hl, hlw, rfl⟩
  push_cast [pm_neTrs hlw (by omega)]
  refine ⟨fun hne => ?_, fun he => ?_⟩
  · have hlv := dep_level hne
    have hf9 : f ≤ 9 := by omega
    have h4 : 4 ^ f ≤ 4 ^ 9 := Nat.pow_le_pow_right (by omega) hf9
    have h49 : 4 * 4 ^ 9 ≤ szL := by decide
    have hll := len_level hlw
    have efl : (lv.map fun t => t.subs.map Tr.pv).flatten = ((lv.map Tr.subs).flatten).map Tr.pv := by
      rw [List.map_flatten, List.map_map]; rfl
    refine lc2_copy (xs := lv) (g := Tr.pv) (fun t => t.subs.map Tr.pv) (by simp only [ownSlots_cons, ownSlots_nil, List.getElem?_cons_succ, List.getElem?_cons_zero, owH_un, Bool.or_false]) ⟨by simp, by simp⟩ (by rw [efl, List.length_map]; omega) (fun x hx => ?_) ?_
    · push_cast [cf_subtrees (n := n) (t := x) g.gi (by omega)]
    · rw [efl]
      push_cast []
      refine ⟨_, ?_, (lv.map Tr.subs).flatten, f + 1, rfl, by omega, ?_, fun x hx => ?_, by rw [Int.natCast_add]; rfl⟩
      · omega
      · rw [Nat.pow_succ]; omega
      · obtain ⟨l, h1, h2⟩ := List.mem_flatten.mp hx
        obtain ⟨y, h3, rfl⟩ := List.mem_map.mp h1
        exact (Tr.wf_subs (hlw y h3)).1 x h2
  · subst he
    push_cast []
    have e0 : (f : Int) = (t.dep : Int) := by simp only [depsT] at hf; omega
    exact congrArg (fun i => RV.sh (.int i)) e0
end
/-! sizes -/
mutual
def Tr.sz : Tr → Nat
  | .num _ _ => 1
  | .nil _ => 1
  | .use _ _ as => 1 + szsT as
  | .op _ _ a b => 1 + (a.sz + (b.sz + 0))
  | .ite _ a b c => 1 + (a.sz + (b.sz + (c.sz + 0)))
  | .lt _ _ a b => 1 + (a.sz + (b.sz + 0))
  | .cs _ a b _ _ c => 1 + (a.sz + (b.sz + (c.sz + 0)))
def szsT : List Tr → Nat
  | [] => 0
  | t :: ts => t.sz + szsT ts
end
theorem Tr.sz_subs {t : Tr} : t.sz = 1 + szsT t.subs := by cases t <;> rfl
theorem szsT_append : ∀ {a b : List Tr}, szsT (a ++ b) = szsT a + szsT b
  | [], b => by simp [szsT]
  | t :: a, b => by simp only [List.cons_append, szsT, szsT_append (a := a)]; omega
theorem Tr.sz_pos {t : Tr} : 1 ≤ t.sz := by rw [Tr.sz_subs]; omega
theorem szsT_len : ∀ {ts : List Tr}, ts.length ≤ szsT ts
  | [] => Nat.le_refl _
  | t :: ts => by
    have := szsT_len (ts := ts)
    have := @Tr.sz_pos t
    simp only [szsT, List.length_cons]
    omega
theorem szsT_le : ∀ {ts : List Tr} {b : Nat}, (∀ t ∈ ts, t.sz ≤ b) → szsT ts ≤ ts.length * b
  | [], b, _ => by simp [szsT]
  | t :: ts, b, h => by
    have a := h t (List.mem_cons_self ..)
    have c := szsT_le (ts := ts) (b := b) fun x hx => h x (List.mem_cons_of_mem _ hx)
    simp only [szsT, List.length_cons, Nat.succ_mul]
    omega
theorem Tr.sz_pow : ∀ {k : Nat} {t : Tr}, t.wf → t.dep ≤ k → t.sz ≤ 5 ^ k
  | 0, t, _, h => by have := t.dep_subs; omega
  | k + 1, t, hw, h => by
    obtain ⟨ws, wl⟩ := Tr.wf_subs hw
    have := szsT_le (ts := t.subs) (b := 5 ^ k) fun s hs => Tr.sz_pow (ws s hs) (by have := Tr.dep_lt hs; omega)
    have p1 : 1 ≤ 5 ^ k := Nat.one_le_pow _ _ (by omega)
    have p2 : t.subs.length * 5 ^ k ≤ 4 * 5 ^ k := Nat.mul_le_mul_right _ wl
    rw [Tr.sz_subs, Nat.pow_succ]
    omega
section
variable {tab : Tab} {n : Nat} {sto : List SO}
theorem wc_alltrees (g : GB tab) (hl : tab.lookup ("_law_all_trees" : Str) = some lAllT) {ds : List Pd} (h : ∀ d ∈ ds, d.wf 10) (hS : szsT (ds.map (·.b)) ≤ 100000) {Q : RV → List Sl → List SO → Prop} {X : PV → List Sl → List SO → Prop}
    (q : ∀ F : List Tr, (∀ x ∈ F, x.wf ∧ x.dep ≤ 10) → F.length ≤ 100000 → Q (.fr (.lst (F.map Tr.pv))) [.val (.tup (ds.map Pd.pv))] sto) : WC (callF tab (n + 2) "_law_all_trees" [.val (.tup (ds.map Pd.pv))] sto) Q X := by
  refine wc_def hl ⟨rfl, by decide⟩ ?_
  simp only [lAllT]
  have hdl : ds.length ≤ 100000 := by
    have := szsT_len (ts := ds.map (·.b))
    rw [List.length_map] at this
    omega
  push_cast []
  refine lc_map (xs := ds) (g := Pd.pv) (fun d => d.b.pv) (by simp only [ownSlots_cons, ownSlots_nil, List.getElem?_cons_succ, List.getElem?_cons_zero, owH_un, Bool.or_false]) (by unfold szL; omega) (fun d hd => ?_) ?_
  · obtain ⟨i2, i3, i4⟩ := @pv_idx d
    push_cast [i4, boxC_pdv]
  rw [show ds.map (fun d => d.b.pv) = (ds.map (·.b)).map Tr.pv from by rw [List.map_map]; rfl]
  push_cast []
  refine wh_rule (fun m s => ∃ (F : List Tr) (at' : Nat), m = szsT (F.drop at') ∧ at' ≤ F.length ∧ at' + szsT (F.drop at') ≤ 100000 ∧ (∀ x ∈ F, x.wf ∧ x.dep ≤ 10) ∧ s = ⟨[.val (.tup (ds.map Pd.pv)), .own (.lst (F.map Tr.pv)), .val (.int (at' : Int)), .un], sto⟩) (szsT (ds.map (·.b))) (turns_lt (by omega)) ⟨ds.map (·.b), 0, rfl, Nat.zero_le _, by rw [List.drop_zero]; omega, fun x hx => ?_, rfl⟩ ?_
  · obtain ⟨d, hd, rfl⟩ := List.mem_map.mp hx
    exact ⟨(h d hd).2.2.2.2.1, (h d hd).2.2.2.2.2⟩
  rintro m s ⟨F, a, rfl, ha, hS2, hF, rfl⟩
  have hFl : F.length ≤ 100000 := by
    have := szsT_len (ts := F.drop a)
    rw [List.length_drop] at this
    omega
  push_cast [List.length_map]
  refine ⟨fun hlt => ?_, fun hge => ?_⟩
  · have hlt' : a < F.length := by omega
    have e1 : L2.atI (F.map Tr.pv) (a : Int) = some F[a].pv := by rw [atI_nat (by simpa using hlt')]; simp
    have hm : F[a] ∈ F := List.getElem_mem hlt'
    obtain ⟨w1, w2⟩ := hF _ hm
    have hdr : F.drop a = F[a] :: F.drop (a + 1) := List.drop_eq_getElem_cons hlt'
    generalize F[a] = t at e1 hm w1 w2 hdr
    obtain ⟨ws, wl⟩ := Tr.wf_subs w1
    have hal : (F.map Tr.pv).length + (t.subs.map Tr.pv).length ≤ szL := by rw [List.length_map, List.length_map]; unfold szL; omega
    push_cast [e1, cf_lsubs (n := n + 1) (t := t) g (by omega), pm_addL hal, boxC_trv]
    rw [← List.map_append]
    have e2 : (F ++ t.subs).drop (a + 1) = F.drop (a + 1) ++ t.subs := List.drop_append_of_le_length (by omega)
    have e3 : szsT (F.drop a) = 1 + szsT ((F ++ t.subs).drop (a + 1)) := by
      rw [e2, hdr, szsT, szsT_append, Tr.sz_subs]; omega
    refine ⟨_, ?_, F ++ t.subs, a + 1, rfl, by simp; omega, by omega, fun x hx => ?_, by rw [Int.natCast_add]; rfl⟩
    · omega
    · rcases List.mem_append.mp hx with z | z
      · exact hF x z
      · exact ⟨ws x z, by have := Tr.dep_lt z; omega⟩
  · push_cast []
    exact q F hF hFl
theorem ix3 {a b c : PV} : L2.ixN [a, b, c].length 0 = some 0 ∧ L2.ixN [a, b, c].length 1 = some 1 ∧ L2.ixN [a, b, c].length 2 = some 2 := ⟨rfl, rfl, rfl⟩
theorem wc_chain (tD : tab.lookup ("_law_draw" : Str) = some dDraw) (hl : tab.lookup ("_law_chain" : Str) = some lChain) {d : Dr} {m : Nat} {p : Pl} (hp : plOk p) (hm : m ≤ 20) {Q : RV → List Sl → List SO → Prop} {X : PV → List Sl → List SO → Prop}
    (q : ∀ (d' : Dr) (t : Tr), t.wf → t.dep = m + 1 → Q (.sh t.pv) [.own d'.pv, .val (.int ((m + 1 : Nat) : Int)), .val (plv p)] sto) : WC (callF tab (n + 2) "_law_chain" [.own d.pv, .val (.int ((m + 1 : Nat) : Int)), .val (plv p)] sto) Q X := by
  refine wc_def hl ⟨rfl, by decide⟩ ?_
  simp only [lChain]
  have hm1 : ((m + 1 : Nat) : Int) - 1 = (m : Int) := by omega
  have na : nameOk [97] := ⟨by decide, by decide, by decide, by decide⟩
  have nb : nameOk [98] := ⟨by decide, by decide, by decide, by decide⟩
  have nf : nameOk [102] := ⟨by decide, by decide, by decide, by decide⟩
  push_cast []
  refine wc_draw tD (by omega) (wd_lit (by omega)) fun r1 d1 h0 h1 => ?_
  obtain ⟨t0, et0, wt0, dt0⟩ : ∃ t0 : Tr, L2.atI [PV.tup [PV.str [110, 117, 109], plv p, PV.int 5], PV.tup [PV.str [110, 105, 108], plv p], PV.tup [PV.str [117, 115, 101], plv p, PV.str [97], PV.tup []]] r1 = some t0.pv ∧ t0.wf ∧ t0.dep = 1 := by
    have hc : r1 = 0 ∨ r1 = 1 ∨ r1 = 2 := by omega
    rcases hc with rfl | rfl | rfl
    · exact ⟨.num p 5, rfl, ⟨hp, by decide, by decide⟩, rfl⟩
    · exact ⟨.nil p, rfl, hp, rfl⟩
    · exact ⟨.use p [97] [], rfl, by simp only [Tr.wf]; exact ⟨hp, na, by simp, trivial⟩, rfl⟩
  push_cast [et0, hm1]
  rw [Int.toNat_natCast, rsG_0]
  refine ⟨by omega, ?_⟩
  refine fr_rule (fun rest s => ∃ (k : Nat) (t : Tr) (d' : Dr) (s4 s5 s6 s7 : Sl), k ≤ m ∧ rest = rsG m k ∧ t.wf ∧ t.dep = k + 1 ∧ s = ⟨[.own d'.pv, .val (.int ((m + 1 : Nat) : Int)), .val (plv p), .val t.pv, s4, s5, s6, s7], sto⟩) ⟨0, t0, d1, _, _, _, _, Nat.zero_le _, rfl, wt0, dt0, rfl⟩ ?_ ?_
  · rintro s ⟨k, t, d', s4, s5, s6, s7, hk, er, hw, hd, rfl⟩
    have := rsG_nil hk er
    subst this
    push_cast []
    exact q d' t hw hd
  · rintro x rest s ⟨k, t, d', s4, s5, s6, s7, hk, er, hw, hd, rfl⟩
    obtain ⟨hlt, rfl, rfl⟩ := rsG_cons er
    push_cast []
    refine wc_draw tD (by omega) (wd_lit (by omega)) fun r2 d2 h2 h3 => ?_
    have hone : (Tr.num p (k : Int)).wf := ⟨hp, by omega, by omega⟩
    have hone1 : (Tr.num p (k : Int)).dep = 1 := rfl
    have i30 : L2.ixN 3 0 = some 0 := rfl
    have i31 : L2.ixN 3 1 = some 1 := rfl
    have i32 : L2.ixN 3 2 = some 2 := rfl
    have hc : r2 = 0 ∨ r2 = 1 ∨ r2 = 2 ∨ r2 = 3 ∨ r2 = 4 ∨ r2 = 5 ∨ r2 = 6 := by omega
    have next : ∀ (t' : Tr) (d3 : Dr) (s4 s5 s6 s7 : Sl), t'.wf → t'.dep = k + 2 → ∃ (k' : Nat) (t : Tr) (d' : Dr) (s4' s5' s6' s7' : Sl), k' ≤ m ∧ rsG m (k + 1) = rsG m k' ∧ t.wf ∧ t.dep = k' + 1 ∧ (⟨[.own d3.pv, .val (.int ((m + 1 : Nat) : Int)), .val (plv p), .val t'.pv, s4, s5, s6, s7], sto⟩ : SS) = ⟨[.own d'.pv, .val (.int ((m + 1 : Nat) : Int)), .val (plv p), .val t.pv, s4', s5', s6', s7'], sto⟩ :=
      fun t' d3 s4 s5 s6 s7 h1 h2 => ⟨k + 1, t', d3, s4, s5, s6, s7, by omega, rfl, h1, by omega, rfl⟩
    rcases hc with rfl | rfl | rfl | rfl | rfl | rfl | rfl
    · push_cast []
      exact next (.op p [43] (.num p k) t) d2 _ _ _ _ ⟨hp, by decide, hone, hw⟩ (by simp only [Tr.dep]; omega)
    · push_cast []
      exact next (.op p [58] t (.num p k)) d2 _ _ _ _ ⟨hp, by decide, hw, hone⟩ (by simp only [Tr.dep]; omega)
    · push_cast []
      refine wc_draw tD (by omega) (wd_lit (by omega)) fun r3 d3 h4 h5 => ?_
      have hc : r3 = 0 ∨ r3 = 1 := by omega
      rcases hc with rfl | rfl
      · push_cast []
        exact next (.use p [102] [t]) d3 _ _ _ _ ⟨hp, nf, by simp, hw, trivial⟩ (by simp only [Tr.dep, depsT]; omega)
      · push_cast []
        exact next (.use p [102] [.num p k, .num p k, .num p k, t]) d3 _ _ _ _ ⟨hp, nf, by simp, hone, hone, hone, hw, trivial⟩ (by simp only [Tr.dep, depsT]; omega)
    · push_cast []
      refine wc_draw tD (by omega) (wd_lit (by omega)) fun r3 d3 h4 h5 => ?_
      have hc : r3 = 0 ∨ r3 = 1 ∨ r3 = 2 := by omega
      rcases hc with rfl | rfl | rfl
      · push_cast [set_lst, i30, i31, i32]
        exact next (.ite p t (.num p k) (.num p k)) d3 _ _ _ _ ⟨hp, hw, hone, hone⟩ (by simp only [Tr.dep]; omega)
      · push_cast [set_lst, i30, i31, i32]
        exact next (.ite p (.num p k) t (.num p k)) d3 _ _ _ _ ⟨hp, hone, hw, hone⟩ (by simp only [Tr.dep]; omega)
      · push_cast [set_lst, i30, i31, i32]
        exact next (.ite p (.num p k) (.num p k) t) d3 _ _ _ _ ⟨hp, hone, hone, hw⟩ (by simp only [Tr.dep]; omega)
    · push_cast []
      exact next (.lt p [97] t (.num p k)) d2 _ _ _ _ ⟨hp, na, hw, hone⟩ (by simp only [Tr.dep]; omega)
    · push_cast []
      exact next (.lt p [97] (.num p k) t) d2 _ _ _ _ ⟨hp, na, hone, hw⟩ (by simp only [Tr.dep]; omega)
    · push_cast []
      refine wc_draw tD (by omega) (wd_lit (by omega)) fun r3 d3 h4 h5 => ?_
      have hc : r3 = 0 ∨ r3 = 1 ∨ r3 = 2 := by omega
      rcases hc with rfl | rfl | rfl
      · push_cast [set_lst, i30, i31, i32]
        exact next (.cs p t (.num p k) [97] [98] (.num p k)) d3 _ _ _ _ ⟨hp, na, nb, hw, hone, hone⟩ (by simp only [Tr.dep]; omega)
      · push_cast [set_lst, i30, i31, i32]
        exact next (.cs p (.num p k) t [97] [98] (.num p k)) d3 _ _ _ _ ⟨hp, na, nb, hone, hw, hone⟩ (by simp only [Tr.dep]; omega)
      · push_cast [set_lst, i30, i31, i32]
        exact next (.cs p (.num p k) (.num p k) [97] [98] t) d3 _ _ _ _ ⟨hp, na, nb, hone, hone, hw⟩ (by simp only [Tr.dep]; omega)
end
end TP

set_option Elab.async false
set_option linter.all false
set_option maxRecDepth 100000
set_option maxHeartbeats 8000000
set_option exponentiation.threshold 20000
/-! Kk09: the law k09. -/
namespace TP
open PySem
local macro_rules
  | `(tactic| push_cast [$xs,*]) => `(tactic| simp (maxSteps := 2000000) -implicitDefEqProofs -dsimp (disch := first | assumption | (with_reducible refine TP.big_lit ?_; omega) | decide | omega | (simp only [List.length_cons, List.length_nil, List.length_map, List.length_append, TP.szL]; omega)) only [TP.oK_some, TP.varK_val, TP.varK_own, TP.BR_t, TP.BR_f, TP.BR_d, ↓TP.wE_con, ↓TP.wE_dead, ↓TP.wEs_nil, ↓TP.wEs_cons, ↓TP.wE_prim1, ↓TP.wE_prim2, TP.strK_s, ↓TP.wE_sm, TP.dixK_s, ↓TP.wE_didx, ↓TP.wE_dnew, TP.dctK_d, TP.DG_s, ↓TP.wE_dget, TP.TS_bl, ↓TP.wE_not, ↓TP.wE_and1, ↓TP.wE_and, ↓TP.wE_or1, ↓TP.wE_or, ↓TP.wE_ite, ↓TP.wE_chain, ↓TP.KPs_nil, ↓TP.wE_disp, TP.keep_sh, TP.keep_fr, TP.keep_hd, TP.keepH_val, TP.keepH_own, ↓TP.wE_tup, ↓TP.wE_list, ↓TP.wE_call, ↓TP.wE_callK, TP.gloK_v, ↓TP.wE_callL, ↓TP.wE_mut, ↓TP.wE_slice, ↓TP.wE_lc, ↓TP.wE_lc2, TP.itK_s, ↓TP.wI_of, TP.rgK_i, ↓TP.wI_range1, TP.rg2K_i, ↓TP.wI_range2, ↓TP.wI_enum, ↓TP.wI_rev, ↓TP.wI_zip, ↓TP.nxt_nx, ↓TP.nxt_br, ↓TP.nxt_ct, ↓TP.nxt_rt, ↓TP.lpQ_nx, ↓TP.lpQ_ct, ↓TP.lpQ_br, ↓TP.lpQ_rt, TP.BT_nm, TP.BT_tup, TP.BT_lst, TP.BTs_nil, TP.BTs_cons, TP.AG_sh, TP.AG_fr, TP.AG_frT, TP.AG_hd, TP.RT_sh, TP.RT_fr, TP.RT_hd, TP.rtH_val, TP.rtH_own, TP.rtH_par, ↓TP.wS_nil, ↓TP.wS_asg, ↓TP.wS_ret, ↓TP.wS_retN, ↓TP.wS_pass, ↓TP.wS_brk, ↓TP.wS_cont, ↓TP.wS_dead, ↓TP.wS_expr, ↓TP.wS_apc, ↓TP.wS_apn, ↓TP.wS_ite, ↓TP.wS_setix, ↓TP.wS_augU, TP.AU_v, ↓TP.wS_par, ↓TP.wS_asgR, ↓TP.wS_for, ↓TP.wS_while, ↓TP.dfQ_nx, ↓TP.dfQ_rt, ↓TP.wE_var', TP.cont_sh, TP.cont_fr, TP.cont_hd, TP.contH_val, TP.contH_own, TP.boxC_nl, TP.boxC_non, TP.boxC_bl, TP.boxC_int, TP.boxC_str, TP.boxC_tup, TP.boxC_lst, TP.boxC_rol, TP.boxC_dct, TP.boxC_ty, TP.boxC_glo, TP.putBack_hd, TP.pbH_own, TP.argsOf_nil, TP.argsOf_sh, TP.argsOf_fr, TP.argsOf_hd, TP.argH_val, TP.argH_own, TP.backE_nil, TP.backE_sh, TP.backE_fr, TP.backE_own, TP.backE_val, TP.permR_nil, TP.permR_inl, TP.permR_inr, TP.finA_nil, TP.finA_cons, TP.frzA_nil, TP.frzA_cons, TP.frz1_eq, TP.frH_own, TP.frH_val, TP.itemsOf_lst, TP.itemsOf_tup, TP.itemsOf_rol, TP.itemsOf_str, TP.itemsOf_dct, TP.enumOf_lst, TP.revOf_lst, TP.revOf_tup, TP.zipOf_lst, TP.zipOf_tup, TP.P1_s, TP.P2_s, TP.SM_s, TP.MU_s, TP.SX_s, TP.C2_s, TP.C2k_t, TP.C2k_f, TP.C2k_d, TP.BR_nd, TP.pm_add, TP.pm_sub, TP.pm_neg, TP.pm_addS, TP.pm_addT, TP.pm_addL, TP.pm_mul, TP.pm_fdiv, TP.pm_mod, TP.pm_pow, TP.pm_lt, TP.pm_le, TP.pm_gt, TP.pm_ge, TP.pm_isN, TP.pm_notN, TP.pm_isB, TP.pm_notB, TP.pm_idx_lst, TP.pm_len_lst, TP.pm_idx_tup, TP.pm_len_tup, TP.pm_idx_rol, TP.pm_len_rol, TP.pm_idx_str, TP.pm_len_str, TP.pm_abs, TP.pm_min2, TP.pm_max2, TP.pm_toIntI, TP.pm_toIntB, TP.pm_toTupL, TP.pm_toTupT, TP.pm_toList_lst, TP.pm_toList_tup, TP.pm_toList_rol, TP.pm_all, TP.pm_maxD, TP.pm_zipL, TP.pm_any, TP.pm_sum, TP.pm_revs, TP.pm_toStrI, TP.pm_joinL, TP.jnK_s, TP.pm_split, TP.pm_mulS, TP.pm_mulL, TP.pm_mulT, TP.pm_isinT, TP.pm_isinL, TP.pm_notinT, TP.pm_notinL, TP.pm_isinS, TP.pm_notinS, TP.pm_isi_non_int, TP.pm_isi_non_bool, TP.pm_isi_non_str, TP.pm_isi_non_tuple, TP.pm_isi_non_list, TP.pm_isi_bl_int, TP.pm_isi_bl_bool, TP.pm_isi_bl_str, TP.pm_isi_bl_tuple, TP.pm_isi_bl_list, TP.pm_isi_int_int, TP.pm_isi_int_bool, TP.pm_isi_int_str, TP.pm_isi_int_tuple, TP.pm_isi_int_list, TP.pm_isi_str_int, TP.pm_isi_str_bool, TP.pm_isi_str_str, TP.pm_isi_str_tuple, TP.pm_isi_str_list, TP.pm_isi_tup_int, TP.pm_isi_tup_bool, TP.pm_isi_tup_str, TP.pm_isi_tup_tuple, TP.pm_isi_tup_list, TP.pm_isi_lst_int, TP.pm_isi_lst_bool, TP.pm_isi_lst_str, TP.pm_isi_lst_tuple, TP.pm_isi_lst_list, TP.mu_app, TP.mu_clear, TP.mu_reverse, TP.mutTy_s, TP.set_lst, TP.key_int, TP.key_str, TP.pm_idx_dct, TP.pm_isin_dct, TP.pm_notin_dct, TP.pm_len_dct, TP.set_dct, TP.PD_s, TP.pairs_nil, TP.pairs_str, TP.pairs_int, TP.aug_add, TP.aug_sub, TP.sl_lst, TP.sl_tup, TP.sl_str, TP.bnd_abs, TP.bnd_int, TP.isAbs_non, TP.isAbs_int, TP.isAbs_var, TP.isAbs_prim, TP.isAbs_call, TP.bools_map, TP.ints_map, TP.strs_map, TP.ixN_0, TP.ixN_1, TP.atI_c0, TP.atI_nat, TP.atI_c1, TP.atI_c2, TP.atI_c3, TP.atI_c4, TP.atI_c5, TP.atI_c6, TP.atI_c7, TP.pm_eqI, TP.pm_neI, TP.tx_ok, TP.pm_eqS, TP.pm_neS, TP.any_str, TP.all_flat_str, TP.pm_isinT_s, TP.pm_notinT_s, TP.pm_isinL_s, TP.pm_notinL_s, TP.WC_ok, ↓TP.KPs_cons, List.getElem?_cons_succ, List.getElem?_cons_zero, List.set_cons_succ, List.set_cons_zero, List.cons_append, List.nil_append, List.length_cons, List.length_nil, Option.map_some, Option.bind_some, List.append_nil, List.getD_cons_zero, List.getD_cons_succ, List.replicate_succ, List.replicate_zero, TP.wipeS_nil, TP.wipeS_cons, TP.restS_nil, TP.restS_cons, TP.ownSlots_nil, TP.ownSlots_cons, TP.owH_val, TP.owH_un, Bool.or_false, Bool.false_or, Bool.or_true, Bool.true_or, Bool.and_true, Bool.true_and, Bool.and_false, Bool.false_and, Bool.not_true, Bool.not_false, List.not_mem_nil, if_true, if_false, ite_true, ite_false, and_true, true_and, forall_const, true_implies, false_implies, not_true, not_false, decide_true, decide_false, decide_eq_true_eq, Bool.false_eq_true, Bool.true_eq_false, and_self, not_true_eq_false, not_false_eq_true, ↓TP.CS_nil, ↓TP.CS_one, Int.reduceAdd, Int.reduceSub, Int.reduceMul, Int.reduceNeg, Int.reduceLT, Int.reduceLE, Int.reduceToNat, Int.reducePow, Nat.reduceAdd, Nat.reduceSub, Nat.reduceEqDiff, Int.reduceEq, Int.reduceFDiv, Int.reduceFMod, List.cons.injEq, reduceCtorEq, List.mem_cons, or_false, or_true, false_or, true_or, false_and, and_false, ne_eq, TP.varK_ns, TP.cont_rn, TP.contN_ns, TP.argsOf_rn, TP.argN_ns, TP.backE_rn, TP.bkN_ns, TP.keep_rn, TP.keepN_ns, TP.owH_ns, TP.pm_w2, TP.pm_w3, TP.pm_w4, TP.pm_w5, TP.set_w2, TP.pm_h0, TP.pm_h1, TP.pm_h2, TP.boxC_hdv, TP.kv_eqn, TP.kv_eql, TP.kv_eqk, TP.pm_isinL_s, TP.pm_notinL_s, TP.to_nms, TP.to_hds, TP.to_w5, TP.to_w2, TP.to_w0, TP.to_to, TP.c0, TP.c1, TP.c2, TP.c3, TP.c4, TP.c5, TP.c6, TP.c7, TP.c8, TP.boxC_trv, $xs,*])

def dLaw09 : Fd := ⟨1, 10, [], [.for (.nm 1) (.range [(.prim .max2 [(.con (.int (1))), (.prim .min2 [(.con (.int (20))), (.prim .len [(.var 0)])])])]) [.asg (.nm 2) (.call "_law_draws" [(.var 0), (.var 1)]), .asg (.tp [(.nm 3), (.nm 4)]) (.call "_law_program" [(.var 2), (.con (.int (24))), (.con (.int (5)))]), .asg (.nm 5) (.call "bare" [(.var 3)]), .ite (.or [(.prim .ne [(.var 5), (.call "_law_bare" [(.var 3)])]), (.prim .ne [(.call "bare" [(.var 5)]), (.var 5)]), (.prim (.notB true) [(.call "is_program" [(.var 5)])])]) [.ret (.con (.bl false))] [], .asg (.nm 6) (.prim .add [(.con (.int (1))), (.call "_law_draw" [(.var 2), (.con (.int (10)))])]), .asg (.nm 7) (.call "_law_chain" [(.var 2), (.var 6), (.tup [(.con (.int (3))), (.con (.int (4)))])]), .asg (.nm 8) (.tup [(.tup [(.con (.str [100, 101, 102])), (.tup [(.con (.int (1))), (.con (.int (2)))]), (.con (.str [102])), (.tup [(.con (.str [97]))]), (.var 7)])]), .ite (.or [(.prim .ne [(.call "depth" [(.var 7)]), (.var 6)]), (.prim .ne [(.call "bare" [(.var 8)]), (.call "_law_bare" [(.var 8)])])]) [.ret (.con (.bl false))] [], .for (.nm 9) (.of (.call "_law_all_trees" [(.var 3)])) [.ite (.prim .ne [(.call "depth" [(.var 9)]), (.call "_law_depth" [(.var 9)])]) [.ret (.con (.bl false))] []]], .ret (.con (.bl true))]⟩
theorem PdsOk.mem {nms : List (List Nat)} {hds : List Hd} {D N : Nat} : ∀ {hs : List Hd} {ds : List Pd}, PdsOk nms hds D N hs ds → ∀ d ∈ ds, ∃ h ∈ hs, PdOk nms hds D N h d
  | [], [], _, d, h => nomatch h
  | h :: hs, x :: ds, ⟨a, b⟩, d, hd => by
    rcases List.mem_cons.mp hd with z | z
    · rw [z]; exact ⟨h, List.mem_cons_self .., a⟩
    · obtain ⟨h', h1, h2⟩ := b.mem d z
      exact ⟨h', List.mem_cons_of_mem _ h1, h2⟩
  | [], _ :: _, h, _, _ => h.elim
  | _ :: _, [], h, _, _ => h.elim
theorem PgOk.hnm {nms : List (List Nat)} {hds : List Hd} {D N : Nat} {ds : List Pd} (P : PgOk nms hds D N ds) : ∀ h ∈ hds, h.nm ∈ nms ∧ h.ps.length ≤ 3 := fun h hh => ⟨by
  have : h.nm ∈ hds.map (·.nm) := List.mem_map_of_mem hh
  rw [P.hn] at this
  exact List.mem_of_mem_take this, P.hp h hh⟩
theorem PgOk.wf {nms : List (List Nat)} {hds : List Hd} {D N : Nat} {ds : List Pd} (P : PgOk nms hds D N ds) : ∀ d ∈ ds, d.wf D := fun d hd => by
  obtain ⟨h, hh, k⟩ := P.ds.mem d hd
  obtain ⟨h1, h2⟩ := P.hnm h hh
  exact ⟨k.p, by rw [k.nm]; exact P.nm.ok _ h1, by rw [k.len]; omega, fun x hx => P.nm.ok x (k.ps x hx), Tr.ok_wf P.nm.ok P.hnm (fun x hx => P.nm.ok x (k.ps x hx)) k.ok, k.dep⟩
theorem PgOk.len {nms : List (List Nat)} {hds : List Hd} {D N : Nat} {ds : List Pd} (P : PgOk nms hds D N ds) : 1 ≤ ds.length ∧ ds.length ≤ 4 := by
  have a := P.ds.len
  have b := P.l1
  have c := P.l4
  omega
theorem Pd.wf_le {d : Pd} {D E : Nat} (h : d.wf D) (hl : D ≤ E) : d.wf E := ⟨h.1, h.2.1, h.2.2.1, h.2.2.2.1, h.2.2.2.2.1, Nat.le_trans h.2.2.2.2.2 hl⟩
theorem pd_deep {d : Pd} (h : d.wf 10) : ∃ n, d.pv.deep = some n ∧ n ≤ 22 := by
  obtain ⟨h1, h2, h3, h4, h5, h6⟩ := h
  obtain ⟨n, e, hn⟩ := tr_deep h5
  have e2 := str_deep h2.tx
  have e3 := deeps_strs (xs := d.ps) fun x hx => (h4 x hx).tx
  refine ⟨max 1 n + 1, ?_, by omega⟩
  simp only [Pd.pv, PV.deep, deeps, plv_deep, e, e3] at e2 ⊢
  rw [e2]
  show some (max 0 (max 1 (max 0 (max (0 + 1) (max n 0)))) + 1) = _
  exact congrArg some (by omega)
theorem pds_deep : ∀ {ds : List Pd}, (∀ d ∈ ds, d.wf 10) → ∃ n, deeps (ds.map Pd.pv) = some n ∧ n ≤ 22
  | [], _ => ⟨0, rfl, by omega⟩
  | d :: ds, h => by
    obtain ⟨n, e, hn⟩ := pd_deep (h d (List.mem_cons_self ..))
    obtain ⟨m, f, hm⟩ := pds_deep (ds := ds) fun x hx => h x (List.mem_cons_of_mem _ hx)
    exact ⟨max n m, by rw [List.map_cons, deeps, e, f], by omega⟩
theorem pds_data {ds : List Pd} (h : ∀ d ∈ ds, d.wf 10) : dataOk (.tup (ds.map Pd.pv)) = true := by
  obtain ⟨n, e, hn⟩ := pds_deep h
  simp only [dataOk, PV.deep, e]
  exact decide_eq_true (by show n + 1 ≤ 60; omega)
theorem pm_neSelf {v : PV} (h : dataOk v = true) : primSem .ne [v, v] = some (.sh (.bl false)) := by rw [pm_ne h h, eqv_refl h]; rfl
theorem k09_law {tab : Tab} (gt : GT tab) (gb : GB tab) (tDs : tab.lookup ("_law_draws" : Str) = some dDraws) (tP : tab.lookup ("_law_program" : Str) = some gProgram) (tC : tab.lookup ("_law_chain" : Str) = some lChain) (tA : tab.lookup ("_law_all_trees" : Str) = some lAllT) (tlaw : tab.lookup ("law" : Str) = some dLaw09) (ns : List Int) (hns : ns.length ≤ 63) :
    WC (callF tab 100 "law" [.val (.rol (ns.map PV.int))] []) (fun r _ _ => r = .sh (.bl true)) fun _ _ _ => False := by
  refine wc_def tlaw ⟨rfl, by decide⟩ ?_
  simp only [dLaw09]
  push_cast [List.length_map]
  refine ⟨by split <;> (try split) <;> omega, ?_⟩
  refine fr_rule (fun xs s => (∀ x ∈ xs, ∃ k : Nat, k < 64 ∧ x = .int k) ∧ ∃ a1 a2 a3 a4 a5 a6 a7 a8 a9 : Sl, s = ⟨[.val (.rol (ns.map PV.int)), a1, a2, a3, a4, a5, a6, a7, a8, a9], []⟩) ⟨?_, _, _, _, _, _, _, _, _, _, rfl⟩ ?_ ?_
  · intro x hx
    obtain ⟨k, hk, rfl⟩ := List.mem_map.mp hx
    refine ⟨k, ?_, by simp⟩
    have := List.mem_range.mp hk
    split at this <;> (try split at this) <;> omega
  · rintro s ⟨_, a1, a2, a3, a4, a5, a6, a7, a8, a9, rfl⟩
    push_cast []
  · rintro x rest s ⟨hx, a1, a2, a3, a4, a5, a6, a7, a8, a9, rfl⟩
    obtain ⟨k, hk, rfl⟩ := hx x (List.mem_cons_self ..)
    have hrest : ∀ x ∈ rest, ∃ k : Nat, k < 64 ∧ x = .int k := fun y hy => hx y (List.mem_cons_of_mem _ hy)
    push_cast []
    refine wc_draws tDs hk fun d0 => ?_
    push_cast []
    refine wc_program gt tP (kd := 4) (by omega) (by omega) (by omega) fun d1 nms hds ds P => ?_
    have w5 : ∀ d ∈ ds, d.wf 5 := P.wf
    have w10 : ∀ d ∈ ds, d.wf 10 := fun d hd => Pd.wf_le (w5 d hd) (by omega)
    have hl4 := P.len
    have b10 : ∀ d ∈ ds.map Pd.bare, d.wf 10 := fun d hd => by
      obtain ⟨e, he, rfl⟩ := List.mem_map.mp hd
      exact Pd.bare_wf (w10 e he)
    have bb : (ds.map Pd.bare).map Pd.bare = ds.map Pd.bare := by
      rw [List.map_map]
      exact List.map_congr_left fun d _ => Pd.bare_bare
    have e1 : callF tab 99 "bare" [.val (.tup (ds.map Pd.pv))] [] = .ok (.sh (.tup ((ds.map Pd.bare).map Pd.pv))) [.val (.tup (ds.map Pd.pv))] [] := cf_bare gb w10 (by omega) (by omega)
    have e2 : callF tab 99 "_law_bare" [.val (.tup (ds.map Pd.pv))] [] = .ok (.sh (.tup ((ds.map Pd.bare).map Pd.pv))) [.val (.tup (ds.map Pd.pv))] [] := cf_lbare gb w10 (by omega) (by omega)
    have e3 : callF tab 99 "bare" [.val (.tup ((ds.map Pd.bare).map Pd.pv))] [] = .ok (.sh (.tup ((ds.map Pd.bare).map Pd.pv))) [.val (.tup ((ds.map Pd.bare).map Pd.pv))] [] := by
      have := cf_bare (n := 99) (sto := []) gb b10 (by rw [List.length_map]; omega) (by omega)
      rw [bb] at this
      exact this
    have e4 : callF tab 99 "is_program" [.val (.tup ((ds.map Pd.bare).map Pd.pv))] [] = .ok (.sh (.bl true)) [.val (.tup ((ds.map Pd.bare).map Pd.pv))] [] := cf_isprog gb.gi b10 (by rw [List.length_map]; omega) (by omega)
    have hda := pds_data b10
    push_cast [e1, e2, e3, e4, pm_neSelf hda]
    refine wc_draw gt.draw (by omega) (wd_lit (by omega)) fun r1 d2 h0 h1 => ?_
    obtain ⟨m, hm⟩ : ∃ m : Nat, 1 + r1 = ((m + 1 : Nat) : Int) := ⟨r1.toNat, by omega⟩
    push_cast [hm]
    have hp34 : plOk (3, 4) := by unfold plOk; decide
    refine wc_chain (p := (3, 4)) gt.draw tC hp34 (by omega) fun d3 t wt dt => ?_
    have hp12 : plOk (1, 2) := by unfold plOk; decide
    have na : nameOk [97] := ⟨by decide, by decide, by decide, by decide⟩
    have nf : nameOk [102] := ⟨by decide, by decide, by decide, by decide⟩
    have wp : ∀ d ∈ [Pd.mk (1, 2) [102] [[97]] t], d.wf 10 := fun d hd => by
      rw [List.mem_singleton] at hd
      rw [hd]
      exact ⟨hp12, nf, by simp, fun x hx => by rw [List.mem_singleton] at hx; rw [hx]; exact na, wt, by show t.dep ≤ 10; omega⟩
    have f1 : callF tab 99 "bare" [.val (.tup [.tup [.str [100, 101, 102], .tup [.int 1, .int 2], .str [102], .tup [.str [97]], t.pv]])] [] = .ok (.sh (.tup [Pd.pv (Pd.bare (Pd.mk (1, 2) [102] [[97]] t))])) [.val (.tup [.tup [.str [100, 101, 102], .tup [.int 1, .int 2], .str [102], .tup [.str [97]], t.pv]])] [] := cf_bare gb (ds := [Pd.mk (1, 2) [102] [[97]] t]) wp (by simp) (by omega)
    have f2 : callF tab 99 "_law_bare" [.val (.tup [.tup [.str [100, 101, 102], .tup [.int 1, .int 2], .str [102], .tup [.str [97]], t.pv]])] [] = .ok (.sh (.tup [Pd.pv (Pd.bare (Pd.mk (1, 2) [102] [[97]] t))])) [.val (.tup [.tup [.str [100, 101, 102], .tup [.int 1, .int 2], .str [102], .tup [.str [97]], t.pv]])] [] := cf_lbare gb (ds := [Pd.mk (1, 2) [102] [[97]] t]) wp (by simp) (by omega)
    have f3 : callF tab 99 "depth" [.val t.pv] [] = .ok (.sh (.int ((m + 1 : Nat) : Int))) [.val t.pv] [] := by
      have := cf_depth (n := 99) (sto := []) gb wt (by omega) (by omega)
      rw [dt] at this
      exact this
    have hdb : dataOk (.tup [Pd.pv (Pd.bare (Pd.mk (1, 2) [102] [[97]] t))]) = true := pds_data (ds := [Pd.bare (Pd.mk (1, 2) [102] [[97]] t)]) fun d hd => by
      rw [List.mem_singleton] at hd
      rw [hd]
      exact Pd.bare_wf (wp _ (by simp))
    have nei : ∀ i : Int, primSem .ne [.int i, .int i] = some (.sh (.bl false)) := fun i => by rw [pm_neI]; simp
    push_cast [f1, f2, f3, nei, pm_neSelf hdb]
    have hS : szsT (ds.map (·.b)) ≤ 100000 := by
      have := szsT_le (ts := ds.map (·.b)) (b := 5 ^ 5) fun x hx => by
        obtain ⟨d, hd, rfl⟩ := List.mem_map.mp hx
        exact Tr.sz_pow (w5 d hd).2.2.2.2.1 (w5 d hd).2.2.2.2.2
      rw [List.length_map] at this
      have h5 : ds.length * 5 ^ 5 ≤ 4 * 5 ^ 5 := Nat.mul_le_mul_right _ hl4.2
      have h6 : 4 * 5 ^ 5 = 12500 := by decide
      omega
    refine wc_alltrees gb tA w10 hS fun F hF hFl => ?_
    push_cast []
    refine fr_rule (fun xs s => ∃ (F' : List Tr) (b1 b2 b3 b4 b5 b6 b7 b8 b9 : Sl), xs = F'.map Tr.pv ∧ (∀ x ∈ F', x.wf ∧ x.dep ≤ 10) ∧ s = ⟨[.val (.rol (ns.map PV.int)), b1, b2, b3, b4, b5, b6, b7, b8, b9], []⟩) ⟨F, _, _, _, _, _, _, _, _, _, rfl, hF, rfl⟩ ?_ ?_
    · rintro s ⟨F', b1, b2, b3, b4, b5, b6, b7, b8, b9, ex, hF', rfl⟩
      push_cast []
      exact ⟨hrest, _, _, _, _, _, _, _, _, _, rfl⟩
    · rintro x rest' s ⟨F', b1, b2, b3, b4, b5, b6, b7, b8, b9, ex, hF', rfl⟩
      cases F' with
      | nil => cases ex
      | cons y F' =>
      cases ex
      obtain ⟨yw, yd⟩ := hF' y (List.mem_cons_self ..)
      have g1 := cf_depth (n := 99) (sto := []) gb yw yd (by omega)
      have g2 := cf_ldepth (n := 99) (sto := []) gb yw yd (by omega)
      push_cast [g1, g2, nei]
      exact ⟨F', _, _, _, _, _, _, _, _, _, rfl, fun x hx => hF' x (List.mem_cons_of_mem _ hx), rfl⟩
end TP

set_option Elab.async false
set_option linter.all false
set_option maxRecDepth 100000
set_option maxHeartbeats 0
namespace Lk09
open TP PySem PyProof.Rows TP.PV
def top (i : Nat) : Stmt := PySem.Challenge.pw_tierpile_k09_bare_and_deep.main.body.getD i (.Pass ⟨0, 0, 0, 0⟩)
def d_is_within : Fd := ⟨3, 3, [], [.ret (.and [(.prim .isi [(.var 0), (.con (.ty "int"))]), (.not (.prim .isi [(.var 0), (.con (.ty "bool"))])), (.chain .le .le (.var 1) (.var 0) (.var 2))])]⟩
def d_is_name : Fd := ⟨1, 2, [], [.ite (.or [(.not (.prim .isi [(.var 0), (.con (.ty "str"))])), (.not (.chain .le .le (.con (.int (1))) (.prim .len [(.var 0)]) (.con (.int (8))))), (.prim .isin [(.var 0), (.con (.tup [.str [108, 101, 116], .str [105, 102], .str [116, 104, 101, 110], .str [101, 108, 115, 101], .str [99, 97, 115, 101], .str [111, 102], .str [100, 105, 118], .str [109, 111, 100], .str [97, 110, 100], .str [111, 114]]))])]) [.ret (.con (.bl false))] [], .ret (.prim .all [(.lc (.prim .isin [(.var 1), (.con (.str [97, 98, 99, 100, 101, 102, 103, 104, 105, 106, 107, 108, 109, 110, 111, 112, 113, 114, 115, 116, 117, 118, 119, 120, 121, 122]))]) (.nm 1) (.of (.var 0)) [] [1])])]⟩
def d_is_place : Fd := ⟨1, 2, [], [.ret (.and [(.prim .isi [(.var 0), (.con (.ty "tuple"))]), (.prim .eq [(.prim .len [(.var 0)]), (.con (.int (2)))]), (.prim .all [(.lc (.call "is_within" [(.var 1), (.con (.int (0))), (.con (.int (9999)))]) (.nm 1) (.of (.var 0)) [] [1])])])]⟩
def d_is_node : Fd := ⟨1, 4, [], [.ite (.or [(.not (.prim .isi [(.var 0), (.con (.ty "tuple"))])), (.prim .lt [(.prim .len [(.var 0)]), (.con (.int (2)))]), (.not (.prim .isi [(.prim .idx [(.var 0), (.con (.int (0)))]), (.con (.ty "str"))])), (.not (.call "is_place" [(.prim .idx [(.var 0), (.con (.int (1)))])]))]) [.ret (.con (.bl false))] [], .asgR [1, 2] 3 (.var 0), .ite (.prim .eq [(.var 1), (.con (.str [110, 117, 109]))]) [.ret (.and [(.prim .eq [(.prim .len [(.var 3)]), (.con (.int (1)))]), (.call "is_within" [(.prim .idx [(.var 3), (.con (.int (0)))]), (.con (.int (0))), (.con (.int (999999999)))])])] [], .ite (.prim .eq [(.var 1), (.con (.str [117, 115, 101]))]) [.ret (.and [(.prim .eq [(.prim .len [(.var 3)]), (.con (.int (2)))]), (.call "is_name" [(.prim .idx [(.var 3), (.con (.int (0)))])]), (.prim .isi [(.prim .idx [(.var 3), (.con (.int (1)))]), (.con (.ty "tuple"))]), (.prim .le [(.prim .len [(.prim .idx [(.var 3), (.con (.int (1)))])]), (.con (.int (4)))])])] [], .ite (.prim .eq [(.var 1), (.con (.str [111, 112]))]) [.ret (.and [(.prim .eq [(.prim .len [(.var 3)]), (.con (.int (3)))]), (.prim .isi [(.prim .idx [(.var 3), (.con (.int (0)))]), (.con (.ty "str"))]), (.prim .isin [(.prim .idx [(.var 3), (.con (.int (0)))]), (.con (.tup [.str [43], .str [45], .str [42], .str [100, 105, 118], .str [109, 111, 100], .str [61, 61], .str [60], .str [58]]))])])] [], .ite (.prim .eq [(.var 1), (.con (.str [108, 101, 116]))]) [.ret (.and [(.prim .eq [(.prim .len [(.var 3)]), (.con (.int (3)))]), (.call "is_name" [(.prim .idx [(.var 3), (.con (.int (0)))])])])] [], .ite (.prim .eq [(.var 1), (.con (.str [99, 97, 115, 101]))]) [.ret (.and [(.prim .eq [(.prim .len [(.var 3)]), (.con (.int (5)))]), (.call "is_name" [(.prim .idx [(.var 3), (.con (.int (2)))])]), (.call "is_name" [(.prim .idx [(.var 3), (.con (.int (3)))])])])] [], .ret (.or [(.and [(.prim .eq [(.var 1), (.con (.str [110, 105, 108]))]), (.prim .eq [(.var 3), (.list [])])]), (.and [(.prim .eq [(.var 1), (.con (.str [105, 102]))]), (.prim .eq [(.prim .len [(.var 3)]), (.con (.int (3)))])])])]⟩
def d_subtrees : Fd := ⟨1, 2, [], [.asg (.nm 1) (.prim .idx [(.var 0), (.con (.int (0)))]), .ite (.prim .eq [(.var 1), (.con (.str [117, 115, 101]))]) [.ret (.prim .toList [(.prim .idx [(.var 0), (.con (.int (3)))])])] [], .ite (.prim .isin [(.var 1), (.tup [(.con (.str [111, 112])), (.con (.str [108, 101, 116]))])]) [.ret (.prim .toList [(.slice (.var 0) (.con (.int (3))) (.con (.int (5))))])] [], .ite (.prim .eq [(.var 1), (.con (.str [105, 102]))]) [.ret (.prim .toList [(.slice (.var 0) (.con (.int (2))) (.con (.int (5))))])] [], .ite (.prim .eq [(.var 1), (.con (.str [99, 97, 115, 101]))]) [.ret (.list [(.prim .idx [(.var 0), (.con (.int (2)))]), (.prim .idx [(.var 0), (.con (.int (3)))]), (.prim .idx [(.var 0), (.con (.int (6)))])])] [], .ret (.list [])]⟩
def d_is_tree : Fd := ⟨2, 3, [], [.ret (.and [(.prim .gt [(.var 1), (.con (.int (0)))]), (.call "is_node" [(.var 0)]), (.prim .all [(.lc (.call "is_tree" [(.var 2), (.prim .sub [(.var 1), (.con (.int (1)))])]) (.nm 2) (.of (.call "subtrees" [(.var 0)])) [] [2])])])]⟩
def d_is_def : Fd := ⟨1, 7, [], [.ite (.or [(.not (.prim .isi [(.var 0), (.con (.ty "tuple"))])), (.prim .ne [(.prim .len [(.var 0)]), (.con (.int (5)))]), (.prim .ne [(.prim .idx [(.var 0), (.con (.int (0)))]), (.con (.str [100, 101, 102]))])]) [.ret (.con (.bl false))] [], .asg (.tp [(.nm 1), (.nm 2), (.nm 3), (.nm 4), (.nm 5)]) (.var 0), .ite (.or [(.not (.call "is_place" [(.var 2)])), (.not (.call "is_name" [(.var 3)])), (.not (.prim .isi [(.var 4), (.con (.ty "tuple"))])), (.prim .gt [(.prim .len [(.var 4)]), (.con (.int (4)))])]) [.ret (.con (.bl false))] [], .ret (.and [(.prim .all [(.lc (.call "is_name" [(.var 6)]) (.nm 6) (.of (.var 4)) [] [6])]), (.call "is_tree" [(.var 5), (.con (.int (10)))])])]⟩
def d_is_program : Fd := ⟨1, 2, [], [.ret (.and [(.prim .isi [(.var 0), (.con (.ty "tuple"))]), (.prim .le [(.prim .len [(.var 0)]), (.con (.int (8)))]), (.prim .all [(.lc (.call "is_def" [(.var 1)]) (.nm 1) (.of (.var 0)) [] [1])])])]⟩
def d_need_program : Fd := ⟨1, 1, [], [.ite (.not (.call "is_program" [(.var 0)])) [.dead] []]⟩
def d_with_trees : Fd := ⟨3, 4, [], [.asg (.nm 3) (.prim .idx [(.var 0), (.con (.int (0)))]), .ite (.prim .eq [(.var 3), (.con (.str [117, 115, 101]))]) [.ret (.tup [(.var 3), (.var 1), (.prim .idx [(.var 0), (.con (.int (2)))]), (.prim .toTup [(.var 2)])])] [], .ite (.prim .isin [(.var 3), (.tup [(.con (.str [111, 112])), (.con (.str [108, 101, 116]))])]) [.ret (.tup [(.var 3), (.var 1), (.prim .idx [(.var 0), (.con (.int (2)))]), (.prim .idx [(.var 2), (.con (.int (0)))]), (.prim .idx [(.var 2), (.con (.int (1)))])])] [], .ite (.prim .eq [(.var 3), (.con (.str [105, 102]))]) [.ret (.tup [(.var 3), (.var 1), (.prim .idx [(.var 2), (.con (.int (0)))]), (.prim .idx [(.var 2), (.con (.int (1)))]), (.prim .idx [(.var 2), (.con (.int (2)))])])] [], .ite (.prim .eq [(.var 3), (.con (.str [99, 97, 115, 101]))]) [.ret (.tup [(.var 3), (.var 1), (.prim .idx [(.var 2), (.con (.int (0)))]), (.prim .idx [(.var 2), (.con (.int (1)))]), (.prim .idx [(.var 0), (.con (.int (4)))]), (.prim .idx [(.var 0), (.con (.int (5)))]), (.prim .idx [(.var 2), (.con (.int (2)))])])] [], .ret (.prim .add [(.tup [(.var 3), (.var 1)]), (.slice (.var 0) (.con (.int (2))) (.con (.non)))])]⟩
def d_bare_tree : Fd := ⟨1, 2, [], [.ret (.call "with_trees" [(.var 0), (.tup [(.con (.int (0))), (.con (.int (0)))]), (.lc (.call "bare_tree" [(.var 1)]) (.nm 1) (.of (.call "subtrees" [(.var 0)])) [] [1])])]⟩
def d_bare : Fd := ⟨1, 2, [], [.expr (.call "need_program" [(.var 0)]), .ret (.prim .toTup [(.lc (.tup [(.con (.str [100, 101, 102])), (.tup [(.con (.int (0))), (.con (.int (0)))]), (.prim .idx [(.var 1), (.con (.int (2)))]), (.prim .idx [(.var 1), (.con (.int (3)))]), (.call "bare_tree" [(.prim .idx [(.var 1), (.con (.int (4)))])])]) (.nm 1) (.of (.var 0)) [] [1])])]⟩
def d_depth : Fd := ⟨1, 5, [], [.asg (.nm 1) (.con (.int (0))), .asg (.nm 2) (.list [(.var 0)]), .while (.prim .ne [(.var 2), (.list [])]) [.aug 1 .add (.con (.int (1))), .asg (.nm 2) (.lc2 (.var 4) (.nm 3) (.of (.var 2)) [] (.nm 4) (.of (.call "subtrees" [(.var 3)])) [] [3, 4] [4])], .ret (.var 1)]⟩
def d_law_draws : Fd := ⟨2, 3, [], [.asg (.nm 2) (.prim .mul [(.con (.int (15485863))), (.var 1)]), .ite (.prim .lt [(.var 1), (.prim .len [(.var 0)])]) [.asg (.nm 2) (.prim .mod [(.prim .idx [(.var 0), (.var 1)]), (.prim .mul [(.prim .mul [(.prim .mul [(.prim .mul [(.prim .pow [(.con (.int (10))), (.con (.int (60)))]), (.prim .pow [(.con (.int (10))), (.con (.int (60)))])]), (.prim .pow [(.con (.int (10))), (.con (.int (60)))])]), (.prim .pow [(.con (.int (10))), (.con (.int (60)))])]), (.prim .pow [(.con (.int (10))), (.con (.int (60)))])])])] [.ite (.prim .gt [(.prim .len [(.var 0)]), (.con (.int (0)))]) [.asg (.nm 2) (.prim .add [(.prim .mod [(.prim .idx [(.var 0), (.prim .mod [(.var 1), (.prim .len [(.var 0)])])]), (.prim .pow [(.con (.int (10))), (.con (.int (15)))])]), (.prim .mul [(.con (.int (15485863))), (.var 1)])])] []], .ret (.list [(.prim .mul [(.var 2), (.prim .toInt [(.prim .ge [(.var 2), (.prim .pow [(.con (.int (10))), (.con (.int (18)))])])])]), (.prim .add [(.con (.int (1))), (.prim .mod [(.prim .add [(.prim .mul [(.var 2), (.con (.int (69621)))]), (.prim .mul [(.con (.int (86028121))), (.prim .add [(.var 1), (.con (.int (1)))])])]), (.con (.int (2147483646)))])])])]⟩
def d_law_draw : Fd := ⟨2, 4, [], [.ite (.prim .gt [(.prim .idx [(.var 0), (.con (.int (0)))]), (.con (.int (0)))]) [.asg (.nm 2) (.prim .mod [(.prim .idx [(.var 0), (.con (.int (0)))]), (.var 1)]), .setix (.var 0) (.con (.int (0))) (.prim .fdiv [(.prim .idx [(.var 0), (.con (.int (0)))]), (.var 1)]), .ret (.var 2)] [], .asg (.nm 2) (.con (.int (0))), .asg (.nm 3) (.con (.int (1))), .while (.prim .lt [(.var 3), (.var 1)]) [.setix (.var 0) (.con (.int (1))) (.prim .mod [(.prim .mul [(.prim .idx [(.var 0), (.con (.int (1)))]), (.con (.int (69621)))]), (.con (.int (2147483647)))]), .asg (.nm 2) (.prim .add [(.prim .mul [(.var 2), (.con (.int (268435456)))]), (.prim .fdiv [(.prim .mod [(.prim .mul [(.prim .idx [(.var 0), (.con (.int (1)))]), (.prim .add [(.prim .fdiv [(.prim .idx [(.var 0), (.con (.int (1)))]), (.con (.int (128)))]), (.con (.int (3)))])]), (.con (.int (2147483629)))]), (.con (.int (8)))])]), .asg (.nm 3) (.prim .mul [(.var 3), (.con (.int (268435456)))])], .ret (.prim .mod [(.var 2), (.var 1)])]⟩
def d_law_keys : Fd := ⟨0, 0, [], [.ret (.list [(.con (.str [108, 101, 116])), (.con (.str [105, 102])), (.con (.str [116, 104, 101, 110])), (.con (.str [101, 108, 115, 101])), (.con (.str [99, 97, 115, 101])), (.con (.str [111, 102])), (.con (.str [100, 105, 118])), (.con (.str [109, 111, 100])), (.con (.str [97, 110, 100])), (.con (.str [111, 114]))])]⟩
def d_law_names : Fd := ⟨2, 10, [], [.asg (.nm 2) (.con (.str [97, 98, 99, 100, 101, 102, 103, 104, 105, 106, 107, 108, 109, 110, 111, 112, 113, 114, 115, 116, 117, 118, 119, 120, 121, 122])), .asg (.nm 3) (.sm .join (.con (.str [])) (.lc (.prim .idx [(.var 2), (.call "_law_draw" [(.var 0), (.con (.int (26)))])]) (.nm 8) (.range [(.prim .idx [(.list [(.con (.int (0))), (.con (.int (1))), (.con (.int (2))), (.con (.int (6)))]), (.call "_law_draw" [(.var 0), (.con (.int (4)))])])]) [] [8])), .asg (.nm 4) (.call "_law_draw" [(.var 0), (.con (.int (26)))]), .asg (.nm 5) (.prim .idx [(.list [(.con (.int (1))), (.con (.int (3))), (.con (.int (5))), (.con (.int (7))), (.con (.int (25))), (.con (.int (23)))]), (.call "_law_draw" [(.var 0), (.con (.int (6)))])]), .asg (.nm 6) (.prim .idx [(.list [(.con (.str [])), (.con (.str [122])), (.prim .idx [(.var 2), (.var 4)])]), (.call "_law_draw" [(.var 0), (.con (.int (3)))])]), .asg (.nm 7) (.list []), .for (.nm 8) (.range [(.var 1)]) [.asg (.nm 9) (.prim .add [(.prim .add [(.var 3), (.prim .idx [(.var 2), (.prim .mod [(.prim .add [(.var 4), (.prim .mul [(.var 5), (.var 8)])]), (.con (.int (26)))])])]), (.prim .mul [(.var 6), (.prim .mod [(.var 8), (.con (.int (2)))])])]), .expr (.mut .append (.var 7) [(.prim .add [(.var 9), (.prim .mul [(.con (.str [113])), (.prim .toInt [(.prim .isin [(.var 9), (.call "_law_keys" [])])])])])])], .ret (.var 7)]⟩
def d_law_place : Fd := ⟨1, 1, [], [.setix (.var 0) (.con (.int (0))) (.prim .add [(.prim .idx [(.var 0), (.con (.int (0)))]), (.prim .idx [(.var 0), (.con (.int (1)))])]), .ret (.tup [(.prim .mod [(.prim .fdiv [(.prim .idx [(.var 0), (.con (.int (0)))]), (.con (.int (60)))]), (.con (.int (10000)))]), (.prim .mod [(.prim .idx [(.var 0), (.con (.int (0)))]), (.con (.int (60)))])])]⟩
def d_law_leaf : Fd := ⟨4, 9, [], [.asg (.nm 4) (.prim .dnew []), .for (.tp [(.nm 5), (.nm 6)]) (.of (.var 3)) [.setix (.var 4) (.var 5) (.var 6)], .asg (.nm 7) (.lc (.var 5) (.nm 5) (.of (.var 4)) [(.prim .eq [(.prim .idx [(.var 4), (.var 5)]), (.var 2)])] [5]), .asg (.nm 8) (.call "_law_place" [(.var 1)]), .ite (.and [(.prim .ne [(.var 7), (.list [])]), (.prim .gt [(.call "_law_draw" [(.var 0), (.con (.int (4)))]), (.con (.int (0)))])]) [.ret (.tup [(.con (.str [117, 115, 101])), (.var 8), (.prim .idx [(.var 7), (.call "_law_draw" [(.var 0), (.prim .len [(.var 7)])])]), (.tup [])])] [], .ite (.prim .eq [(.var 2), (.con (.str [108]))]) [.ret (.tup [(.con (.str [110, 105, 108])), (.var 8)])] [], .ret (.tup [(.con (.str [110, 117, 109])), (.var 8), (.prim .idx [(.list [(.con (.int (0))), (.con (.int (1))), (.con (.int (2))), (.con (.int (3))), (.con (.int (7))), (.prim .sub [(.prim .pow [(.con (.int (10))), (.con (.int (9)))]), (.con (.int (1)))]), (.con (.int (12))), (.con (.int (1)))]), (.call "_law_draw" [(.var 0), (.con (.int (8)))])])])]⟩
def d_law_loop : Fd := ⟨4, 14, [], [.asg (.nm 4) (.lc (.var 13) (.nm 13) (.of (.prim .idx [(.var 1), (.con (.int (3)))])) [(.and [(.prim .notin [(.var 13), (.var 3)]), (.prim .ne [(.var 13), (.prim .idx [(.var 2), (.con (.int (0)))])])])] [13]), .asg (.nm 5) (.lc (.tup [(.con (.str [117, 115, 101])), (.call "_law_place" [(.var 1)]), (.var 13), (.tup [])]) (.nm 13) (.of (.var 3)) [] [13]), .asg (.nm 6) (.call "_law_place" [(.var 1)]), .asg (.nm 7) (.tup [(.con (.str [117, 115, 101])), (.call "_law_place" [(.var 1)]), (.prim .idx [(.var 4), (.con (.int (0)))]), (.tup [])]), .asg (.nm 8) (.prim .add [(.slice (.var 5) (.con (.non)) (.prim .neg [(.con (.int (1)))])), (.list [(.tup [(.con (.str [117, 115, 101])), (.call "_law_place" [(.var 1)]), (.prim .idx [(.var 4), (.con (.int (1)))]), (.tup [])])])]), .ite (.and [(.prim .gt [(.prim .len [(.var 3)]), (.con (.int (1)))]), (.prim .eq [(.prim .idx [(.prim .idx [(.var 2), (.con (.int (1)))]), (.con (.int (0)))]), (.prim .idx [(.var 2), (.con (.int (2)))])]), (.prim .eq [(.call "_law_draw" [(.var 0), (.con (.int (2)))]), (.con (.int (0)))])]) [.asg (.nm 9) (.prim .idx [(.list [(.con (.str [58])), (.con (.str [43])), (.con (.str [45]))]), (.prim .mul [(.prim .toInt [(.prim .eq [(.prim .idx [(.var 2), (.con (.int (2)))]), (.con (.str [110]))])]), (.prim .add [(.con (.int (1))), (.call "_law_draw" [(.var 0), (.con (.int (2)))])])])]), .setix (.var 8) (.con (.int (0))) (.tup [(.con (.str [111, 112])), (.call "_law_place" [(.var 1)]), (.var 9), (.var 7), (.prim .idx [(.var 8), (.con (.int (0)))])]), .asg (.nm 10) (.tup [(.con (.str [117, 115, 101])), (.call "_law_place" [(.var 1)]), (.prim .idx [(.var 2), (.con (.int (0)))]), (.prim .toTup [(.var 8)])]), .ret (.tup [(.con (.str [99, 97, 115, 101])), (.var 6), (.prim .idx [(.var 5), (.prim .neg [(.con (.int (1)))])]), (.prim .idx [(.var 5), (.con (.int (0)))]), (.prim .idx [(.var 4), (.con (.int (0)))]), (.prim .idx [(.var 4), (.con (.int (1)))]), (.var 10)])] [], .asg (.nm 11) (.tup [(.con (.str [117, 115, 101])), (.call "_law_place" [(.var 1)]), (.prim .idx [(.var 2), (.con (.int (0)))]), (.prim .toTup [(.var 8)])]), .asg (.nm 9) (.prim .idx [(.list [(.con (.str [58])), (.con (.str [43])), (.con (.str [45])), (.con (.str [42]))]), (.prim .mul [(.prim .toInt [(.prim .eq [(.prim .idx [(.var 2), (.con (.int (2)))]), (.con (.str [110]))])]), (.prim .add [(.con (.int (1))), (.call "_law_draw" [(.var 0), (.con (.int (3)))])])])]), .asg (.nm 12) (.call "_law_leaf" [(.var 0), (.var 1), (.prim .idx [(.var 2), (.con (.int (2)))]), (.list [])]), .ret (.tup [(.con (.str [99, 97, 115, 101])), (.var 6), (.prim .idx [(.var 5), (.prim .neg [(.con (.int (1)))])]), (.var 12), (.prim .idx [(.var 4), (.con (.int (0)))]), (.prim .idx [(.var 4), (.con (.int (1)))]), (.tup [(.con (.str [111, 112])), (.call "_law_place" [(.var 1)]), (.var 9), (.var 7), (.var 11)])])]⟩
def d_law_op : Fd := ⟨5, 9, [], [.asg (.nm 5) (.call "_law_place" [(.var 1)]), .asg (.nm 6) (.con (.str [58])), .asg (.nm 7) (.list [(.con (.str [110])), (.con (.str [108]))]), .ite (.prim .eq [(.var 2), (.con (.str [110]))]) [.asg (.nm 6) (.prim .idx [(.list [(.con (.str [43])), (.con (.str [45])), (.con (.str [42])), (.con (.str [100, 105, 118])), (.con (.str [109, 111, 100])), (.con (.str [61, 61])), (.con (.str [60])), (.con (.str [43]))]), (.call "_law_draw" [(.var 0), (.con (.int (8)))])]), .asg (.nm 7) (.list [(.con (.str [110])), (.con (.str [110]))]), .ite (.and [(.prim .eq [(.var 6), (.con (.str [61, 61]))]), (.prim .eq [(.call "_law_draw" [(.var 0), (.con (.int (2)))]), (.con (.int (0)))])]) [.asg (.nm 7) (.list [(.con (.str [108])), (.con (.str [108]))])] []] [], .asg (.nm 8) (.call "_law_tree" [(.var 0), (.var 1), (.prim .idx [(.var 7), (.con (.int (0)))]), (.var 3), (.prim .sub [(.var 4), (.con (.int (1)))])]), .ret (.tup [(.con (.str [111, 112])), (.var 5), (.var 6), (.var 8), (.call "_law_tree" [(.var 0), (.var 1), (.prim .idx [(.var 7), (.con (.int (1)))]), (.var 3), (.prim .sub [(.var 4), (.con (.int (1)))])])])]⟩
def d_law_call : Fd := ⟨5, 11, [], [.asg (.nm 5) (.lc (.var 9) (.tp [(.nm 9), (.nm 10)]) (.of (.var 3)) [] [9, 10]), .asg (.nm 6) (.lc (.var 7) (.nm 7) (.of (.prim .idx [(.var 1), (.con (.int (4)))])) [(.and [(.prim .eq [(.prim .idx [(.var 7), (.con (.int (2)))]), (.var 2)]), (.prim .notin [(.prim .idx [(.var 7), (.con (.int (0)))]), (.var 5)])])] [7]), .ite (.prim .eq [(.var 6), (.list [])]) [.ret (.call "_law_leaf" [(.var 0), (.var 1), (.var 2), (.var 3)])] [], .asg (.nm 7) (.prim .idx [(.var 6), (.call "_law_draw" [(.var 0), (.prim .len [(.var 6)])])]), .asg (.nm 8) (.call "_law_place" [(.var 1)]), .ret (.tup [(.con (.str [117, 115, 101])), (.var 8), (.prim .idx [(.var 7), (.con (.int (0)))]), (.prim .toTup [(.lc (.call "_law_tree" [(.var 0), (.var 1), (.var 10), (.var 3), (.prim .sub [(.var 4), (.con (.int (1)))])]) (.nm 10) (.of (.prim .idx [(.var 7), (.con (.int (1)))])) [] [10])])])]⟩
def d_law_tree : Fd := ⟨5, 17, [2], [.setix (.var 1) (.con (.int (2))) (.prim .sub [(.prim .idx [(.var 1), (.con (.int (2)))]), (.con (.int (1)))]), .ite (.and [(.prim .gt [(.prim .idx [(.var 1), (.con (.int (5)))]), (.con (.int (0)))]), (.prim .eq [(.call "_law_draw" [(.var 0), (.prim .idx [(.var 1), (.con (.int (5)))])]), (.con (.int (0)))])]) [.asg (.nm 2) (.prim .idx [(.list [(.con (.str [110])), (.con (.str [108]))]), (.prim .toInt [(.prim .eq [(.var 2), (.con (.str [110]))])])])] [], .asg (.nm 5) (.call "_law_draw" [(.var 0), (.con (.int (10)))]), .ite (.or [(.prim .lt [(.var 4), (.con (.int (2)))]), (.prim .lt [(.prim .idx [(.var 1), (.con (.int (2)))]), (.con (.int (1)))]), (.prim .eq [(.var 5), (.con (.int (0)))])]) [.ret (.call "_law_leaf" [(.var 0), (.var 1), (.var 2), (.var 3)])] [], .ite (.prim .lt [(.var 5), (.con (.int (4)))]) [.ret (.call "_law_op" [(.var 0), (.var 1), (.var 2), (.var 3), (.var 4)])] [], .ite (.prim .lt [(.var 5), (.con (.int (6)))]) [.ret (.call "_law_call" [(.var 0), (.var 1), (.var 2), (.var 3), (.var 4)])] [], .asg (.nm 6) (.call "_law_place" [(.var 1)]), .ite (.prim .eq [(.var 5), (.con (.int (6)))]) [.asg (.nm 7) (.call "_law_tree" [(.var 0), (.var 1), (.con (.str [110])), (.var 3), (.prim .sub [(.var 4), (.con (.int (1)))])]), .asg (.nm 8) (.call "_law_tree" [(.var 0), (.var 1), (.var 2), (.var 3), (.prim .sub [(.var 4), (.con (.int (1)))])]), .ret (.tup [(.con (.str [105, 102])), (.var 6), (.var 7), (.var 8), (.call "_law_tree" [(.var 0), (.var 1), (.var 2), (.var 3), (.prim .sub [(.var 4), (.con (.int (1)))])])])] [], .asg (.nm 9) (.call "_law_draw" [(.var 0), (.prim .len [(.prim .idx [(.var 1), (.con (.int (3)))])])]), .asg (.nm 10) (.prim .idx [(.prim .idx [(.var 1), (.con (.int (3)))]), (.var 9)]), .ite (.prim .eq [(.var 5), (.con (.int (7)))]) [.asg (.nm 11) (.prim .idx [(.list [(.con (.str [110])), (.con (.str [108]))]), (.call "_law_draw" [(.var 0), (.con (.int (2)))])]), .asg (.nm 12) (.call "_law_tree" [(.var 0), (.var 1), (.var 11), (.var 3), (.prim .sub [(.var 4), (.con (.int (1)))])]), .ret (.tup [(.con (.str [108, 101, 116])), (.var 6), (.var 10), (.var 12), (.call "_law_tree" [(.var 0), (.var 1), (.var 2), (.prim .add [(.var 3), (.list [(.tup [(.var 10), (.var 11)])])]), (.prim .sub [(.var 4), (.con (.int (1)))])])])] [], .asg (.nm 13) (.prim .idx [(.prim .idx [(.var 1), (.con (.int (3)))]), (.prim .mod [(.prim .add [(.prim .add [(.var 9), (.con (.int (1)))]), (.call "_law_draw" [(.var 0), (.prim .sub [(.prim .len [(.prim .idx [(.var 1), (.con (.int (3)))])]), (.con (.int (1)))])])]), (.prim .len [(.prim .idx [(.var 1), (.con (.int (3)))])])])]), .asg (.nm 14) (.call "_law_tree" [(.var 0), (.var 1), (.con (.str [108])), (.var 3), (.prim .sub [(.var 4), (.con (.int (1)))])]), .asg (.nm 15) (.call "_law_tree" [(.var 0), (.var 1), (.var 2), (.var 3), (.prim .sub [(.var 4), (.con (.int (1)))])]), .asg (.nm 16) (.call "_law_tree" [(.var 0), (.var 1), (.var 2), (.prim .add [(.var 3), (.list [(.tup [(.var 10), (.con (.str [110]))]), (.tup [(.var 13), (.con (.str [108]))])])]), (.prim .sub [(.var 4), (.con (.int (1)))])]), .ret (.tup [(.con (.str [99, 97, 115, 101])), (.var 6), (.var 14), (.var 15), (.var 10), (.var 13), (.var 16)])]⟩
def d_law_program : Fd := ⟨3, 16, [], [.asg (.nm 3) (.call "_law_names" [(.var 0), (.con (.int (8)))]), .asg (.nm 4) (.prim .idx [(.list [(.con (.int (1))), (.con (.int (7))), (.con (.int (61))), (.con (.int (13))), (.con (.int (1))), (.con (.int (0)))]), (.call "_law_draw" [(.var 0), (.con (.int (6)))])]), .asg (.nm 5) (.list [(.call "_law_draw" [(.var 0), (.con (.int (300)))]), (.var 4), (.con (.int (0))), (.var 3), (.list []), (.prim .idx [(.list [(.con (.int (9))), (.con (.int (40))), (.con (.int (0)))]), (.call "_law_draw" [(.var 0), (.con (.int (3)))])])]), .asg (.nm 6) (.list []), .for (.nm 7) (.range [(.prim .add [(.con (.int (1))), (.call "_law_draw" [(.var 0), (.con (.int (4)))])])]) [.asg (.nm 8) (.lc (.prim .idx [(.list [(.con (.str [110])), (.con (.str [108]))]), (.call "_law_draw" [(.var 0), (.con (.int (2)))])]) (.nm 15) (.range [(.call "_law_draw" [(.var 0), (.con (.int (4)))])]) [] [15]), .expr (.mut .append (.var 6) [(.tup [(.prim .idx [(.var 3), (.var 7)]), (.var 8), (.prim .idx [(.list [(.con (.str [110])), (.con (.str [108]))]), (.call "_law_draw" [(.var 0), (.con (.int (2)))])])])])], .asg (.nm 9) (.call "_law_draw" [(.var 0), (.con (.int (3)))]), .asg (.nm 10) (.list []), .for (.tp [(.nm 7), (.nm 11)]) (.enum (.var 6)) [.asg (.nm 12) (.call "_law_draw" [(.var 0), (.con (.int (8)))]), .asg (.nm 8) (.lc (.prim .idx [(.var 3), (.prim .mod [(.prim .add [(.var 12), (.var 15)]), (.con (.int (8)))])]) (.nm 15) (.range [(.prim .len [(.prim .idx [(.var 11), (.con (.int (1)))])])]) [] [15]), .setix (.var 5) (.con (.int (4))) (.ite (.prim .gt [(.var 9), (.con (.int (0)))]) (.slice (.var 6) (.con (.non)) (.var 7)) (.var 6)), .setix (.var 5) (.con (.int (2))) (.prim .fdiv [(.var 1), (.prim .len [(.var 6)])]), .asg (.nm 13) (.call "_law_place" [(.var 5)]), .ite (.and [(.prim .eq [(.slice (.prim .idx [(.var 11), (.con (.int (1)))]) (.prim .neg [(.con (.int (1)))]) (.con (.non))), (.list [(.con (.str [108]))])]), (.prim .notin [(.prim .idx [(.var 11), (.con (.int (0)))]), (.var 8)]), (.prim .eq [(.call "_law_draw" [(.var 0), (.con (.int (2)))]), (.con (.int (0)))])]) [.asg (.nm 14) (.call "_law_loop" [(.var 0), (.var 5), (.var 11), (.var 8)])] [.asg (.nm 14) (.call "_law_tree" [(.var 0), (.var 5), (.prim .idx [(.var 11), (.con (.int (2)))]), (.prim .zipL [(.var 8), (.prim .idx [(.var 11), (.con (.int (1)))])]), (.var 2)])], .expr (.mut .append (.var 10) [(.tup [(.con (.str [100, 101, 102])), (.var 13), (.prim .idx [(.var 11), (.con (.int (0)))]), (.prim .toTup [(.var 8)]), (.var 14)])])], .ret (.tup [(.prim .toTup [(.var 10)]), (.var 6)])]⟩
def d_law_with : Fd := ⟨2, 2, [], [.ite (.prim .eq [(.prim .idx [(.var 0), (.con (.int (0)))]), (.con (.str [117, 115, 101]))]) [.ret (.prim .add [(.slice (.var 0) (.con (.non)) (.con (.int (3)))), (.tup [(.prim .toTup [(.var 1)])])])] [], .ite (.prim .eq [(.prim .idx [(.var 0), (.con (.int (0)))]), (.con (.str [99, 97, 115, 101]))]) [.ret (.prim .add [(.prim .add [(.prim .add [(.slice (.var 0) (.con (.non)) (.con (.int (2)))), (.tup [(.prim .idx [(.var 1), (.con (.int (0)))]), (.prim .idx [(.var 1), (.con (.int (1)))])])]), (.slice (.var 0) (.con (.int (4))) (.con (.int (6))))]), (.tup [(.prim .idx [(.var 1), (.con (.int (2)))])])])] [], .ret (.prim .add [(.slice (.var 0) (.con (.non)) (.prim .sub [(.prim .len [(.var 0)]), (.prim .len [(.var 1)])])), (.prim .toTup [(.var 1)])])]⟩
def d_law_subs : Fd := ⟨1, 2, [], [.ite (.prim .eq [(.prim .idx [(.var 0), (.con (.int (0)))]), (.con (.str [117, 115, 101]))]) [.ret (.prim .toList [(.prim .idx [(.var 0), (.con (.int (3)))])])] [], .ite (.prim .eq [(.prim .idx [(.var 0), (.con (.int (0)))]), (.con (.str [99, 97, 115, 101]))]) [.ret (.list [(.prim .idx [(.var 0), (.con (.int (2)))]), (.prim .idx [(.var 0), (.con (.int (3)))]), (.prim .idx [(.var 0), (.con (.int (6)))])])] [], .ret (.lc (.var 1) (.nm 1) (.of (.slice (.var 0) (.con (.int (2))) (.con (.non)))) [(.prim .isi [(.var 1), (.con (.ty "tuple"))])] [1])]⟩
def d_law_bare_tree : Fd := ⟨1, 3, [], [.asg (.nm 1) (.call "_law_with" [(.var 0), (.lc (.call "_law_bare_tree" [(.var 2)]) (.nm 2) (.of (.call "_law_subs" [(.var 0)])) [] [2])]), .ret (.prim .add [(.tup [(.prim .idx [(.var 1), (.con (.int (0)))]), (.tup [(.con (.int (0))), (.con (.int (0)))])]), (.slice (.var 1) (.con (.int (2))) (.con (.non)))])]⟩
def d_law_bare : Fd := ⟨1, 2, [], [.ret (.prim .toTup [(.lc (.prim .add [(.prim .add [(.tup [(.con (.str [100, 101, 102])), (.tup [(.con (.int (0))), (.con (.int (0)))])]), (.slice (.var 1) (.con (.int (2))) (.con (.int (4))))]), (.tup [(.call "_law_bare_tree" [(.prim .idx [(.var 1), (.con (.int (4)))])])])]) (.nm 1) (.of (.var 0)) [] [1])])]⟩
def d_law_chain : Fd := ⟨3, 8, [], [.asg (.nm 3) (.prim .idx [(.list [(.tup [(.con (.str [110, 117, 109])), (.var 2), (.con (.int (5)))]), (.tup [(.con (.str [110, 105, 108])), (.var 2)]), (.tup [(.con (.str [117, 115, 101])), (.var 2), (.con (.str [97])), (.tup [])])]), (.call "_law_draw" [(.var 0), (.con (.int (3)))])]), .for (.nm 4) (.range [(.prim .sub [(.var 1), (.con (.int (1)))])]) [.asg (.nm 5) (.call "_law_draw" [(.var 0), (.con (.int (7)))]), .asg (.nm 6) (.tup [(.con (.str [110, 117, 109])), (.var 2), (.var 4)]), .ite (.prim .lt [(.var 5), (.con (.int (2)))]) [.asg (.nm 3) (.prim .idx [(.list [(.tup [(.con (.str [111, 112])), (.var 2), (.con (.str [43])), (.var 6), (.var 3)]), (.tup [(.con (.str [111, 112])), (.var 2), (.con (.str [58])), (.var 3), (.var 6)])]), (.var 5)])] [.ite (.prim .eq [(.var 5), (.con (.int (2)))]) [.asg (.nm 3) (.tup [(.con (.str [117, 115, 101])), (.var 2), (.con (.str [102])), (.prim .idx [(.list [(.tup [(.var 3)]), (.tup [(.var 6), (.var 6), (.var 6), (.var 3)])]), (.call "_law_draw" [(.var 0), (.con (.int (2)))])])])] [.ite (.prim .eq [(.var 5), (.con (.int (3)))]) [.asg (.nm 7) (.list [(.var 6), (.var 6), (.var 6)]), .setix (.var 7) (.call "_law_draw" [(.var 0), (.con (.int (3)))]) (.var 3), .asg (.nm 3) (.tup [(.con (.str [105, 102])), (.var 2), (.prim .idx [(.var 7), (.con (.int (0)))]), (.prim .idx [(.var 7), (.con (.int (1)))]), (.prim .idx [(.var 7), (.con (.int (2)))])])] [.ite (.prim .lt [(.var 5), (.con (.int (6)))]) [.asg (.nm 3) (.prim .idx [(.list [(.tup [(.con (.str [108, 101, 116])), (.var 2), (.con (.str [97])), (.var 3), (.var 6)]), (.tup [(.con (.str [108, 101, 116])), (.var 2), (.con (.str [97])), (.var 6), (.var 3)])]), (.prim .sub [(.var 5), (.con (.int (4)))])])] [.asg (.nm 7) (.list [(.var 6), (.var 6), (.var 6)]), .setix (.var 7) (.call "_law_draw" [(.var 0), (.con (.int (3)))]) (.var 3), .asg (.nm 3) (.tup [(.con (.str [99, 97, 115, 101])), (.var 2), (.prim .idx [(.var 7), (.con (.int (0)))]), (.prim .idx [(.var 7), (.con (.int (1)))]), (.con (.str [97])), (.con (.str [98])), (.prim .idx [(.var 7), (.con (.int (2)))])])]]]]], .ret (.var 3)]⟩
def d_law_all_trees : Fd := ⟨1, 4, [], [.asg (.nm 1) (.lc (.prim .idx [(.var 3), (.con (.int (4)))]) (.nm 3) (.of (.var 0)) [] [3]), .asg (.nm 2) (.con (.int (0))), .while (.prim .lt [(.var 2), (.prim .len [(.var 1)])]) [.asg (.nm 1) (.prim .add [(.var 1), (.call "_law_subs" [(.prim .idx [(.var 1), (.var 2)])])]), .asg (.nm 2) (.prim .add [(.var 2), (.con (.int (1)))])], .ret (.var 1)]⟩
def d_law_depth : Fd := ⟨1, 2, [], [.ret (.prim .add [(.con (.int (1))), (.prim .maxD [(.lc (.call "_law_depth" [(.var 1)]) (.nm 1) (.of (.call "_law_subs" [(.var 0)])) [] [1]), (.con (.int (0)))])])]⟩
def d_law : Fd := ⟨1, 10, [], [.for (.nm 1) (.range [(.prim .max2 [(.con (.int (1))), (.prim .min2 [(.con (.int (20))), (.prim .len [(.var 0)])])])]) [.asg (.nm 2) (.call "_law_draws" [(.var 0), (.var 1)]), .asg (.tp [(.nm 3), (.nm 4)]) (.call "_law_program" [(.var 2), (.con (.int (24))), (.con (.int (5)))]), .asg (.nm 5) (.call "bare" [(.var 3)]), .ite (.or [(.prim .ne [(.var 5), (.call "_law_bare" [(.var 3)])]), (.prim .ne [(.call "bare" [(.var 5)]), (.var 5)]), (.prim (.notB true) [(.call "is_program" [(.var 5)])])]) [.ret (.con (.bl false))] [], .asg (.nm 6) (.prim .add [(.con (.int (1))), (.call "_law_draw" [(.var 2), (.con (.int (10)))])]), .asg (.nm 7) (.call "_law_chain" [(.var 2), (.var 6), (.tup [(.con (.int (3))), (.con (.int (4)))])]), .asg (.nm 8) (.tup [(.tup [(.con (.str [100, 101, 102])), (.tup [(.con (.int (1))), (.con (.int (2)))]), (.con (.str [102])), (.tup [(.con (.str [97]))]), (.var 7)])]), .ite (.or [(.prim .ne [(.call "depth" [(.var 7)]), (.var 6)]), (.prim .ne [(.call "bare" [(.var 8)]), (.call "_law_bare" [(.var 8)])])]) [.ret (.con (.bl false))] [], .for (.nm 9) (.of (.call "_law_all_trees" [(.var 3)])) [.ite (.prim .ne [(.call "depth" [(.var 9)]), (.call "_law_depth" [(.var 9)])]) [.ret (.con (.bl false))] []]], .ret (.con (.bl true))]⟩
def md : Md := ⟨[("KEYS", .tup [.str [108, 101, 116], .str [105, 102], .str [116, 104, 101, 110], .str [101, 108, 115, 101], .str [99, 97, 115, 101], .str [111, 102], .str [100, 105, 118], .str [109, 111, 100], .str [97, 110, 100], .str [111, 114]]), ("LETTERS", .str [97, 98, 99, 100, 101, 102, 103, 104, 105, 106, 107, 108, 109, 110, 111, 112, 113, 114, 115, 116, 117, 118, 119, 120, 121, 122]), ("DEEP", .int (10)), ("MOST_DEFS", .int (8)), ("MOST_PARTS", .int (4)), ("MOST_NUMBER", .int (999999999)), ("OPS", .tup [.str [43], .str [45], .str [42], .str [100, 105, 118], .str [109, 111, 100], .str [61, 61], .str [60], .str [58]])], [], [], []⟩
def ds : List Df := [⟨"is_within", top 12, ["thing", "low", "high"], d_is_within⟩,
  ⟨"is_name", top 13, ["thing", "sign"], d_is_name⟩,
  ⟨"is_place", top 14, ["thing", "one"], d_is_place⟩,
  ⟨"is_node", top 15, ["thing", "word", "place", "rest"], d_is_node⟩,
  ⟨"subtrees", top 16, ["tree", "word"], d_subtrees⟩,
  ⟨"is_tree", top 17, ["thing", "deep", "one"], d_is_tree⟩,
  ⟨"is_def", top 18, ["thing", "word", "place", "name", "params", "body", "param"], d_is_def⟩,
  ⟨"is_program", top 19, ["thing", "one"], d_is_program⟩,
  ⟨"need_program", top 20, ["thing"], d_need_program⟩,
  ⟨"with_trees", top 21, ["tree", "place", "trees", "word"], d_with_trees⟩,
  ⟨"bare_tree", top 22, ["tree", "one"], d_bare_tree⟩,
  ⟨"bare", top 23, ["program", "one"], d_bare⟩,
  ⟨"depth", top 24, ["tree", "found", "level", "above", "one"], d_depth⟩,
  ⟨"_law_draws", top 26, ["script", "k", "cell"], d_law_draws⟩,
  ⟨"_law_draw", top 27, ["draws", "many", "found", "wide"], d_law_draw⟩,
  ⟨"_law_keys", top 28, [], d_law_keys⟩,
  ⟨"_law_names", top 29, ["draws", "many", "letters", "stem", "first", "step", "more", "names", "k", "name"], d_law_names⟩,
  ⟨"_law_place", top 30, ["way"], d_law_place⟩,
  ⟨"_law_leaf", top 31, ["draws", "way", "want", "near", "seen_d", "name", "kind", "some", "place"], d_law_leaf⟩,
  ⟨"_law_loop", top 32, ["draws", "way", "head", "names", "fresh", "seen_d", "place", "one", "rest", "sign", "body", "again", "empty", "name"], d_law_loop⟩,
  ⟨"_law_op", top 33, ["draws", "way", "want", "near", "deep", "place", "sign", "sides", "left"], d_law_op⟩,
  ⟨"_law_call", top 34, ["draws", "way", "want", "near", "deep", "hidden", "some", "head", "place", "name", "kind"], d_law_call⟩,
  ⟨"_law_tree", top 35, ["draws", "way", "want", "near", "deep", "form", "place", "test", "yes", "first", "name", "kind", "worth", "tail", "what", "empty", "body"], d_law_tree⟩,
  ⟨"_law_program", top 36, ["draws", "size", "deep", "names", "step", "way", "heads", "k", "params", "alone", "program", "head", "first", "place", "body", "j"], d_law_program⟩,
  ⟨"_law_with", top 37, ["tree", "trees"], d_law_with⟩,
  ⟨"_law_subs", top 38, ["tree", "part"], d_law_subs⟩,
  ⟨"_law_bare_tree", top 39, ["tree", "bared", "one"], d_law_bare_tree⟩,
  ⟨"_law_bare", top 40, ["program", "one"], d_law_bare⟩,
  ⟨"_law_chain", top 41, ["draws", "many", "place", "tree", "k", "way", "one", "trees"], d_law_chain⟩,
  ⟨"_law_all_trees", top 42, ["program", "found", "at", "one"], d_law_all_trees⟩,
  ⟨"_law_depth", top 43, ["tree", "one"], d_law_depth⟩,
  ⟨"law", top 44, ["script", "k", "draws", "program", "heads", "found", "many", "chain", "one", "tree"], d_law⟩]
abbrev tab : Tab := tabOf ds

abbrev R : PySem.W.OpenRow := PySem.W.OpenLaw.row PySem.Challenge.rw_tierpile_k09_bare_and_deep
abbrev hk : PySem.W.Hook := hookC 4 (facts ds) (ds.map Df.defD) md.con md.dcs
def loose : List Str := [("TierError" : Str), ("NoForm" : Str), ("NoProgram" : Str), ("KEYS" : Str), ("LETTERS" : Str), ("DEEP" : Str), ("MOST_DEFS" : Str), ("MOST_PARTS" : Str), ("MOST_NUMBER" : Str), ("OPS" : Str), ("is_within" : Str), ("is_name" : Str), ("is_place" : Str), ("is_node" : Str), ("subtrees" : Str), ("is_tree" : Str), ("is_def" : Str), ("is_program" : Str), ("need_program" : Str), ("with_trees" : Str), ("bare_tree" : Str), ("bare" : Str), ("depth" : Str), ("_law_draws" : Str), ("_law_draw" : Str), ("_law_keys" : Str), ("_law_names" : Str), ("_law_place" : Str), ("_law_leaf" : Str), ("_law_loop" : Str), ("_law_op" : Str), ("_law_call" : Str), ("_law_tree" : Str), ("_law_program" : Str), ("_law_with" : Str), ("_law_subs" : Str), ("_law_bare_tree" : Str), ("_law_bare" : Str), ("_law_chain" : Str), ("_law_all_trees" : Str), ("_law_depth" : Str)]
def ob (s : PySem.W.SharedT) : AlC := obsCG 4 (facts ds) (ds.map Df.defD) md.con md.dcs (HandSHeadRun.getT s)
theorem ob_eq (s : PySem.W.SharedT) : ob s = hk.obs s.abs := obsCG_eq (HandSHeadRun.getT_eq s)
theorem run (w : World) : HandSHeadRun.RunEq R (PySem.W.view R.prog [44]) hk ob 3000 loose w := by
  refine PySem.W.byRow2 "special-get-raises" (P := fun w => HandSHeadRun.RunEq R (PySem.W.view R.prog [44]) hk ob 3000 loose w) ?_ ?_ w
  · intro w os
    kernel_rfl
  · intro w os
    kernel_rfl
theorem okAll : (ds.all fun d => d.ok (cgOf ds md)) = true := by kernel_rfl
theorem ndAll : (ds.map (·.name)).Nodup := by decide +kernel
theorem cAll : ∀ d ∈ ds, cSs (cgOf ds md) d.N (okOf d.fd.np d.fd.asg) 60 d.scope d.body = some d.fd.body := by
  simp only [ds, List.forall_mem_cons]
  refine ⟨?_, ?_, ?_, ?_, ?_, ?_, ?_, ?_, ?_, ?_, ?_, ?_, ?_, ?_, ?_, ?_, ?_, ?_, ?_, ?_, ?_, ?_, ?_, ?_, ?_, ?_, ?_, ?_, ?_, ?_, ?_, ?_, fun _ h => nomatch h⟩
  all_goals kernel_rfl
theorem client (ns : List Int) (h : ns.length ≤ 63) : ∃ fin sto, callF tab 100 "law" [.val (.rol (ns.map PV.int))] [] = .ok (.sh (.bl true)) fin sto := by
  exact wc_ex (k09_law (tab := tab) ⟨by kernel_rfl, by kernel_rfl, by kernel_rfl, by kernel_rfl, by kernel_rfl, by kernel_rfl, by kernel_rfl, by kernel_rfl, by kernel_rfl⟩ ⟨⟨by kernel_rfl, by kernel_rfl, by kernel_rfl, by kernel_rfl, by kernel_rfl, by kernel_rfl, by kernel_rfl, by kernel_rfl⟩, by kernel_rfl, by kernel_rfl, by kernel_rfl, by kernel_rfl, by kernel_rfl, by kernel_rfl, by kernel_rfl, by kernel_rfl, by kernel_rfl, by kernel_rfl⟩ (by kernel_rfl) (by kernel_rfl) (by kernel_rfl) (by kernel_rfl) (by kernel_rfl) ns h)
theorem kpAll : ∀ p ∈ md.kps, ∀ d ∈ ds, p.f = d.name → KpOk d.args (d.N.take d.fd.np) p := by
  intro p hp
  exact nomatch hp
end Lk09
open PySem PySem.W PySem.Calls PyProof.Rows
theorem PySem.Challenge.cw_tierpile_k09_bare_and_deep_holds : PySem.Challenge.rw_tierpile_k09_bare_and_deep.Holds := by
  w_on; o_law
  refine HandSHeadRun.head_any (r := OpenLaw.row PySem.Challenge.rw_tierpile_k09_bare_and_deep) (q := view (OpenLaw.row PySem.Challenge.rw_tierpile_k09_bare_and_deep).prog [44]) (H := Lk09.hk) (ob := Lk09.ob) (M := 3000) (loose := Lk09.loose) (d := HandSHeadRun.topDef (OpenLaw.row PySem.Challenge.rw_tierpile_k09_bare_and_deep).prog 44) (kwd := []) Lk09.ob_eq
    (by kernel_rfl) (fun s => by kernel_rfl) Lk09.run (by kernel_rfl) (by kernel_rfl) (by kernel_rfl) (by rfl) (by first | assumption | decide +kernel) (by decide +kernel) ⟨rfl, rfl, rfl, rfl, rfl, by decide +kernel⟩ ?hw ?hc
  case hw => w_witness2
  case hc =>
    exact TP.end_ok (l := PySem.Challenge.rw_tierpile_k09_bare_and_deep) (n := 100) (k := 60) (dL := Lk09.ds.getD 31 ⟨"", .Pass ⟨0, 0, 0, 0⟩, [], ⟨0, 0, [], []⟩⟩) rfl (by kernel_rfl) (by kernel_rfl) (by simp [Lk09.ds]) ⟨rfl, by decide, by decide⟩ Lk09.okAll Lk09.ndAll Lk09.cAll Lk09.kpAll Lk09.client
