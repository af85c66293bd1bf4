import PyProof.Rows.All
import Wide.All
import OpenK.AllK
import Wide.FinOn
import HandS.ForExc
import HandS.ForMost
import HandS.TupAny
import HandS.Deep
import HandS.IsInst
import HandS.Conv
import HandS.Zip
import HandS.NoneIn
import HandS.Style
import HandS.Rev
import HandS.RaiseMore
import HandS.More
import HandS.Exc
import HandS.SortKw
import KE.DataMinMax
import HandS.ListItems
import KE.GoesMore
import KE.KDictZip
import PyProof.StrLawsRepr
import PyProof.ReprLoop
import PySem.Challenge.RW_gapwork_k01_names_and_deep_kinds
set_option Elab.async false
set_option linter.all false
set_option maxRecDepth 100000
/-! GCore: a small language of one's own: its terms (IE, IS), and what they do on plain data. -/
namespace G
open PySem L2

def S (l : List Nat) : Str := ⟨l.toArray⟩
def Sl (x : Str) : List Nat := x.cps.toList

/-- values: plain data; a new list, a new dict that nobody else holds; a list that is read only; a mutable object by its number; a def by its number -/
inductive EV where
  | pv (p : PyData)
  | tl (xs : List PyData)
  | td (kvs : List (Key × PyData))
  | fl (xs : List PyData)
  | ref (n : Nat)
  | fn (i : Nat)

/-- mutable objects -/
inductive EO where
  | lst (xs : List PyData)
  | dct (kvs : List (Key × PyData))
  | ins (c : Nat) (fs : List (Str × EV))
  | dead

abbrev EH := List EO
abbrev EEnv := List (Option EV)

/-- an exception: its class by number, its fields -/
structure XV where
  cls : Nat
  fs : List (Str × PyData)

inductive R (α : Type) where
  | ok (a : α) (h : EH)
  | exc (x : XV) (h : EH)
  | bad

def R.bind {α β : Type} (r : R α) (f : α → EH → R β) : R β :=
  match r with
  | .ok a h => f a h
  | .exc x h => .exc x h
  | .bad => .bad
@[simp] theorem R.bind_ok {α β : Type} (a : α) (h : EH) (f : α → EH → R β) : (R.ok a h).bind f = f a h := rfl
@[simp] theorem R.bind_exc {α β : Type} (x : XV) (h : EH) (f : α → EH → R β) : (R.exc x h).bind f = .exc x h := rfl
@[simp] theorem R.bind_bad {α β : Type} (f : α → EH → R β) : (R.bad : R α).bind f = .bad := rfl

inductive RS where
  | nx (e : EEnv) (h : EH)
  | ret (v : EV) (h : EH)
  | brk (e : EEnv) (h : EH)
  | ct (e : EEnv) (h : EH)
  | exc (x : XV) (e : EEnv) (h : EH)
  | bad

inductive BOp where
  | add | sub | mul | fdiv | mod | pow
inductive COp where
  | eq | ne | lt | le | gt | ge | isin | notin
inductive Ty where
  | int | str | tup | lst | bool
inductive BI where
  | len | int | str | list | tuple | all | max2 | min2 | maxl | sum
inductive BM where
  | append | extend | join | split
inductive BM0 where
  | upper | pop | clear

mutual
inductive IT where
  | nm (i : Nat)
  | tp (ts : ITs)
inductive ITs where
  | nil
  | cons (t : IT) (ts : ITs)
end

mutual
inductive IE where
  | var (i : Nat)
  | lit (p : PyData)
  | glob (k : Nat)
  | bin (o : BOp) (a b : IE)
  | neg (a : IE)
  | not (a : IE)
  | cmp (o : COp) (a b : IE)
  | isN (a : IE)
  | notN (a : IE)
  | chain (o p : COp) (a b c : IE)
  | and (es : IEs)
  | or (es : IEs)
  | ife (c a b : IE)
  | tup (es : IEs)
  | lst (es : IEs)
  | ix (a b : IE)
  | sl (a : IE) (lo hi : IO)
  | rev (a : IE)
  | dlit (ks : List (Str × Str)) (a : IE)
  | dnew (ks : List Str) (es : IEs)
  | dget (a : IE) (k : Str)
  | gdget (d : Nat) (a : IE)
  | gdin (d : Nat) (a : IE)
  | gget (d : Nat) (a b : IE)
  | repr (a : IE)
  | maxd (a b : IE)
  | every (k : Nat) (a : IE)
  | lzip (a b : IE)
  | own (a : IE)
  | call (f : Nat) (es : IEs)
  | bi (b : BI) (es : IEs)
  | bm (m : BM) (o : IE) (es : IEs)
  | bm0 (m : BM0) (o : IE)
  | isi (a : IE) (ts : List Ty)
  | comp (elt : IE) (tg : IT) (it : IW) (c : IO) (own : List Nat)
inductive IEs where
  | nil
  | cons (e : IE) (es : IEs)
inductive IO where
  | no
  | yes (a : IE)
inductive IW where
  | seq (a : IE)
  | range1 (a : IE)
  | range2 (a b : IE)
  | zip (a b : IE)
  | enum (a : IE)
end

mutual
inductive IS where
  | asg (i : Nat) (own : Bool) (e : IE)
  | asgT (ts : ITs) (e : IE)
  | par2 (i j : Nat) (a b : IE)
  | setix (o i v : IE)
  | dput (o : IE) (k : Str) (v : IE)
  | exp (e : IE)
  | ret (e : IE)
  | retN
  | pass
  | brk
  | iff (c : IE) (a b : ISs)
  | for_ (tg : IT) (it : IW) (b : ISs)
  | while_ (c : IE) (b : ISs)
  | raise
  | try_ (b : ISs)
inductive ISs where
  | nil
  | cons (s : IS) (r : ISs)
end

/-! ### operations on data -/
def EV.settle : EV → EV
  | .tl xs => .pv (.list xs)
  | .td kvs => .pv (.dict (kvs.map fun kv => (match kv.1 with | .inl i => .int i | .inr s => .str s, kv.2)))
  | v => v
def keyP : Key → PyData
  | .inl i => .int i
  | .inr s => .str s

/-- the data of a value, as it is now -/
def dataOf (h : EH) : EV → Option PyData
  | .pv p => some p
  | .tl xs => some (.list xs)
  | .fl xs => some (.list xs)
  | .ref n => match h[n]? with
    | some (.lst xs) => some (.list xs)
    | _ => none
  | _ => none
/-- a value as data, a mutable object frozen -/
def toP (h : EH) : EV → Option (PyData × EH)
  | .pv p => some (p, h)
  | .tl xs => some (.list xs, h)
  | .td kvs => some (.dict (kvs.map fun kv => (keyP kv.1, kv.2)), h)
  | .ref n => match h[n]? with
    | some (.lst xs) => some (.list xs, h.set n .dead)
    | _ => none
  | _ => none
/-- a list's items -/
def lstOf (h : EH) : EV → Option (List PyData)
  | .pv (.list xs) => some xs
  | .tl xs => some xs
  | .ref n => match h[n]? with
    | some (.lst xs) => some xs
    | _ => none
  | _ => none
/-- the items of a list or a tuple -/
def seqOf (h : EH) : EV → Option (List PyData)
  | .pv (.list xs) => some xs
  | .pv (.tuple xs) => some xs
  | .tl xs => some xs
  | .fl xs => some xs
  | .ref n => match h[n]? with
    | some (.lst xs) => some xs
    | _ => none
  | _ => none

/-- a dict's value; in its place, or at the end -/
def getP (kvs : List (Key × PyData)) (k : Key) : Option PyData := (kvs.find? fun kv => decide (kv.1 = k)).map (·.2)
def putP (kvs : List (Key × PyData)) (k : Key) (v : PyData) : List (Key × PyData) :=
  if (kvs.any fun kv => decide (kv.1 = k)) = true then kvs.map (fun kv => if kv.1 = k then (kv.1, v) else kv) else kvs ++ [(k, v)]
def mergeP (kvs more : List (Key × PyData)) : List (Key × PyData) := more.foldl (fun acc kv => putP acc kv.1 kv.2) kvs
def pairP (ks : List Str) (ps : List PyData) : List (Key × PyData) := (ks.zip ps).map fun kv => (.inr kv.1, kv.2)
def okb (b : Bool) (h : EH) : R EV := .ok (.pv (.bool b)) h
def oki (i : Int) (h : EH) : R EV := .ok (.pv (.int i)) h
def oks (x : Str) (h : EH) : R EV := .ok (.pv (.str x)) h

noncomputable section
open Classical

/-- a value as data that is kept, a mutable object frozen -/
def dataV (x : EV) (h : EH) : R PyData :=
  match toP h x with
  | some (p, h) => .ok p h
  | none => .bad
def addV (x y : EV) (h : EH) : R EV :=
  match x, y with
  | .pv (.int i), .pv (.int j) => oki (i + j) h
  | .pv (.str a), .pv (.str b) => if a.length + b.length ≤ sizeLine then oks (a ++ b) h else .bad
  | .pv (.tuple xs), .pv (.tuple ys) => if xs.length + ys.length ≤ sizeLine then .ok (.pv (.tuple (xs ++ ys))) h else .bad
  | x, y => match lstOf h x, lstOf h y with
    | some xs, some ys => if xs.length + ys.length ≤ sizeLine then .ok (.tl (xs ++ ys)) h else .bad
    | _, _ => .bad
def subV (x y : EV) (h : EH) : R EV :=
  match x, y with
  | .pv (.int i), .pv (.int j) => oki (i - j) h
  | _, _ => .bad
def mulV (x y : EV) (h : EH) : R EV :=
  match x, y with
  | .pv (.int i), .pv (.int j) => if CMul i j then oki (i * j) h else .bad
  | .pv (.str a), .pv (.int j) => if 0 ≤ j ∧ j ≤ 1 then oks (if j = 0 then S [] else a) h else .bad
  | _, _ => .bad
def fdivV (x y : EV) (h : EH) : R EV :=
  match x, y with
  | .pv (.int i), .pv (.int j) => if CDiv i j then oki (i / j) h else .bad
  | _, _ => .bad
def modV (x y : EV) (h : EH) : R EV :=
  match x, y with
  | .pv (.int i), .pv (.int j) => if 0 < j then oki (i % j) h else .bad
  | _, _ => .bad
def powV (x y : EV) (h : EH) : R EV :=
  match x, y with
  | .pv (.int i), .pv (.int j) => if CPow i j then oki (i ^ j.toNat) h else .bad
  | _, _ => .bad
def binV (o : BOp) (x y : EV) (h : EH) : R EV :=
  match o with
  | .add => addV x y h
  | .sub => subV x y h
  | .mul => mulV x y h
  | .fdiv => fdivV x y h
  | .mod => modV x y h
  | .pow => powV x y h

/-- the scalars that == tells apart whatever they are -/
def scalP : PyData → PyData → Bool
  | .none, .none => true | .none, .int _ => true | .int _, .none => true | .none, .bool _ => true | .bool _, .none => true | .none, .str _ => true | .str _, .none => true
  | .int _, .int _ => true | .bool _, .bool _ => true | .str _, .str _ => true
  | .int _, .str _ => true | .str _, .int _ => true | .bool _, .str _ => true | .str _, .bool _ => true
  | _, _ => false
def flatP : PyData → Bool
  | .none => true | .bool _ => true | .int _ => true | .str _ => true
  | _ => false

def eqV (x y : EV) (h : EH) (f : Bool → Bool) : R EV :=
  match dataOf h x, dataOf h y with
  | some d, some e => if scalP d e = true ∨ (SeqAt.shaped d = true ∧ SeqAt.shaped e = true) then okb (f (PyData.eqv d e)) h else .bad
  | _, _ => .bad
def keyOf : EV → Option Key
  | .pv (.int i) => some (.inl i)
  | .pv (.str s) => some (.inr s)
  | _ => none
def inV (x y : EV) (h : EH) (f : Bool → Bool) : R EV :=
  match x, y with
  | .pv (.str a), .pv (.str z) => if a.length = 1 then okb (f (decide (a.cps.getD 0 0 ∈ z.cps.toList))) h else .bad
  | x, y => match seqOf h y, dataOf h x with
    | some ys, some d => if flatP d = true ∧ ys.all flatP = true then okb (f (ys.any fun z => PyData.eqv z d)) h else .bad
    | _, _ => .bad
def ordV (f : Int → Int → Bool) (x y : EV) (h : EH) : R EV :=
  match x, y with
  | .pv (.int i), .pv (.int j) => okb (f i j) h
  | _, _ => .bad
def cmpV (o : COp) (x y : EV) (h : EH) : R EV :=
  match o with
  | .eq => eqV x y h id
  | .ne => eqV x y h not
  | .isin => inV x y h id
  | .notin => inV x y h not
  | .lt => ordV (fun i j => decide (i < j)) x y h
  | .le => ordV (fun i j => decide (i ≤ j)) x y h
  | .gt => ordV (fun i j => decide (j < i)) x y h
  | .ge => ordV (fun i j => decide (j ≤ i)) x y h
def asB (v : EV) (h : EH) : R Bool :=
  match v with
  | .pv (.bool b) => .ok b h
  | _ => .bad
def ixV (x y : EV) (h : EH) : R EV :=
  match x, y with
  | .pv (.str z), .pv (.int i) => if z.length ≤ sizeLine then match atI z.cps.toList i with
      | some c => oks ⟨#[c]⟩ h
      | none => .bad
    else .bad
  | x, .pv (.int i) => match seqOf h x with
    | some xs => match atI xs i with
      | some p => .ok (.pv p) h
      | none => .bad
    | none => .bad
  | _, _ => .bad
def cutP (xs : List PyData) (lo hi : Option Int) : List PyData := (xs.drop (HT.sIx xs.length 0 lo)).take (HT.sIx xs.length xs.length hi - HT.sIx xs.length 0 lo)
def slV (x : EV) (lo hi : Option Int) (h : EH) : R EV :=
  match x with
  | .pv (.str z) => if z.length ≤ sizeLine then oks (cutS z lo hi) h else .bad
  | .pv (.tuple xs) => .ok (.pv (.tuple (cutP xs lo hi))) h
  | .pv (.list xs) => .ok (.tl (cutP xs lo hi)) h
  | .tl xs => .ok (.tl (cutP xs lo hi)) h
  | .fl xs => .ok (.tl (cutP xs lo hi)) h
  | .ref n => match h[n]? with
    | some (.lst xs) => .ok (.tl (cutP xs lo hi)) h
    | _ => .bad
  | _ => .bad
def tyIs : Ty → PyData → Bool
  | .int, .int _ => true
  | .int, .bool _ => true
  | .bool, .bool _ => true
  | .str, .str _ => true
  | .tup, .tuple _ => true
  | .lst, .list _ => true
  | _, _ => false
def allB : List PyData → Option Bool
  | [] => some true
  | .bool b :: r => (allB r).map fun c => b && c
  | _ :: _ => none
def strsOf : List PyData → Option (List Str)
  | [] => some []
  | .str x :: r => (strsOf r).map fun c => x :: c
  | _ :: _ => none
def intsOf : List PyData → Option (List Int)
  | [] => some []
  | .int x :: r => (intsOf r).map fun c => x :: c
  | _ :: _ => none
def maxL : List Int → Int
  | [] => 0
  | [x] => x
  | x :: r => max x (maxL r)

/-- what is walked: its items; the mutable list that must stay as it is meanwhile -/
structure Walked where
  items : List PyData
  src : Option Nat
/-- the walked list is as it was -/
def Walked.still (w : Walked) (h : EH) : Prop :=
  match w.src with
  | none => True
  | some n => h[n]? = some (.lst w.items)
def walkOf (h : EH) : EV → Option Walked
  | .pv (.list xs) => some ⟨xs, none⟩
  | .pv (.tuple xs) => some ⟨xs, none⟩
  | .pv (.str z) => some ⟨z.cps.toList.map fun c => .str ⟨#[c]⟩, none⟩
  | .tl xs => some ⟨xs, none⟩
  | .fl xs => some ⟨xs, none⟩
  | .ref n => match h[n]? with
    | some (.lst xs) => some ⟨xs, some n⟩
    | _ => none
  | _ => none
/-- zip of two lists, or of two tuples -/
def zipOf : EV → EV → Option (List PyData)
  | .pv (.list xs), .pv (.list ys) => some (List.zipWith (fun x y => .tuple [x, y]) xs ys)
  | .pv (.tuple xs), .pv (.tuple ys) => some (List.zipWith (fun x y => .tuple [x, y]) xs ys)
  | _, _ => none
def enumP : Nat → List PyData → List PyData
  | _, [] => []
  | k, x :: xs => .tuple [.int (k : Nat), x] :: enumP (k + 1) xs
def rangeP (lo : Int) (n : Nat) : List PyData := (List.range n).map fun (i : Nat) => .int (lo + i)

def lenV (vs : List EV) (h : EH) : R EV :=
  match vs with
  | [.pv (.str z)] => if z.length ≤ sizeLine then oki z.length h else .bad
  | [v] => match seqOf h v with
    | some xs => oki xs.length h
    | none => .bad
  | _ => .bad
def intV (vs : List EV) (h : EH) : R EV :=
  match vs with
  | [.pv (.int i)] => oki i h
  | [.pv (.bool b)] => oki (if b then 1 else 0) h
  | [.pv (.str a)] => if a.length ≤ 640 then match PySem.intText? a with
      | some n => oki n h
      | none => .bad
    else .bad
  | _ => .bad
def strV (vs : List EV) (h : EH) : R EV :=
  match vs with
  | [.pv (.int i)] => if i.natAbs.log2 < 1920 then oks (toString i) h else .bad
  | [.pv (.str a)] => oks a h
  | _ => .bad
def listV (vs : List EV) (h : EH) : R EV :=
  match vs with
  | [v] => match seqOf h v with
    | some xs => .ok (.tl xs) h
    | none => .bad
  | _ => .bad
def tupleV (vs : List EV) (h : EH) : R EV :=
  match vs with
  | [v] => match seqOf h v with
    | some xs => .ok (.pv (.tuple xs)) h
    | none => .bad
  | _ => .bad
def allV (vs : List EV) (h : EH) : R EV :=
  match vs with
  | [v] => match lstOf h v with
    | some xs => match allB xs with
      | some b => okb b h
      | none => .bad
    | none => .bad
  | _ => .bad
def int2V (f : Int → Int → Int) (vs : List EV) (h : EH) : R EV :=
  match vs with
  | [.pv (.int i), .pv (.int j)] => oki (f i j) h
  | _ => .bad
def maxlV (vs : List EV) (h : EH) : R EV :=
  match vs with
  | [v] => match lstOf h v with
    | some xs => match intsOf xs with
      | some ns => if 0 < ns.length then oki (maxL ns) h else .bad
      | none => .bad
    | none => .bad
  | _ => .bad
def sumV (vs : List EV) (h : EH) : R EV :=
  match vs with
  | [v] => match lstOf h v with
    | some xs => match intsOf xs with
      | some ns => oki ns.sum h
      | none => .bad
    | none => .bad
  | _ => .bad
def biV (b : BI) (vs : List EV) (h : EH) : R EV :=
  match b with
  | .len => lenV vs h
  | .int => intV vs h
  | .str => strV vs h
  | .list => listV vs h
  | .tuple => tupleV vs h
  | .all => allV vs h
  | .max2 => int2V (fun i j => if j > i then j else i) vs h
  | .min2 => int2V (fun i j => if j < i then j else i) vs h
  | .maxl => maxlV vs h
  | .sum => sumV vs h

/-- the receiver is a list, a text -/
def isLstB (o : EV) (h : EH) : Bool :=
  match o with
  | .ref n => match h[n]? with
    | some (.lst _) => true
    | _ => false
  | _ => false
def isStrB (o : EV) (h : EH) : Bool :=
  match o with
  | .pv (.str _) => true
  | _ => false
def recvB (m : BM) (o : EV) (h : EH) : Bool :=
  match m with
  | .append => isLstB o h
  | .extend => isLstB o h
  | .join => isStrB o h
  | .split => isStrB o h
def appendV (o : EV) (vs : List EV) (h : EH) : R EV :=
  match o, vs with
  | .ref n, [v] => (dataV v h).bind fun p h => match h[n]? with
      | some (.lst xs) => if xs.length < sizeLine then .ok (.pv .none) (h.set n (.lst (xs ++ [p]))) else .bad
      | _ => .bad
  | _, _ => .bad
def extendV (o : EV) (vs : List EV) (h : EH) : R EV :=
  match o, vs with
  | .ref n, [v] => match lstOf h v, h[n]? with
    | some zs, some (.lst xs) => if xs.length + zs.length ≤ sizeLine then .ok (.pv .none) (h.set n (.lst (xs ++ zs))) else .bad
    | _, _ => .bad
  | _, _ => .bad
def joinV (o : EV) (vs : List EV) (h : EH) : R EV :=
  match o, vs with
  | .pv (.str a), [v] => match seqOf h v with
    | some xs => match strsOf xs with
      | some ys => if (ys.map (·.length)).sum + ys.length * a.length ≤ 16777216 then oks (Txt.join a ys) h else .bad
      | none => .bad
    | none => .bad
  | _, _ => .bad
def splitV (o : EV) (vs : List EV) (h : EH) : R EV :=
  match o, vs with
  | .pv (.str a), [.pv (.str b)] => if (b.length == 0) = false ∧ a.length + 2 ≤ sizeLine then .ok (.tl ((Txt.split a b).map .str)) h else .bad
  | _, _ => .bad
def bmV (m : BM) (o : EV) (vs : List EV) (h : EH) : R EV :=
  match m with
  | .append => appendV o vs h
  | .extend => extendV o vs h
  | .join => joinV o vs h
  | .split => splitV o vs h
def upperV (o : EV) (h : EH) : R EV :=
  match o with
  | .pv (.str a) => if a.length ≤ 5592405 then oks (Txt.upper a) h else .bad
  | _ => .bad
def popV (o : EV) (h : EH) : R EV :=
  match o with
  | .ref n => match h[n]? with
    | some (.lst xs) => match xs[xs.length - 1]? with
      | some p => .ok (.pv p) (h.set n (.lst xs.dropLast))
      | none => .bad
    | _ => .bad
  | _ => .bad
def clearV (o : EV) (h : EH) : R EV :=
  match o with
  | .ref n => match h[n]? with
    | some (.lst _) => .ok (.pv .none) (h.set n (.lst []))
    | _ => .bad
  | _ => .bad
def bm0V (m : BM0) (o : EV) (h : EH) : R EV :=
  match m with
  | .upper => upperV o h
  | .pop => popV o h
  | .clear => clearV o h

mutual
def bindT : IT → PyData → EEnv → Option EEnv
  | .nm i, p, e => some (e.set i (some (.pv p)))
  | .tp ts, .tuple xs, e => bindTs ts xs e
  | .tp ts, .list xs, e => bindTs ts xs e
  | .tp _, _, _ => none
def bindTs : ITs → List PyData → EEnv → Option EEnv
  | .nil, [], e => some e
  | .cons t ts, x :: xs, e => (bindT t x e).bind fun e => bindTs ts xs e
  | _, _, _ => none
end
def wipeE (e : EEnv) : List Nat → EEnv
  | [] => e
  | v :: vs => (wipeE e vs).set v none

def RS.bind (r : RS) (f : EEnv → EH → RS) : RS :=
  match r with
  | .nx e h => f e h
  | r => r
@[simp] theorem RS.bind_nx (e : EEnv) (h : EH) (f : EEnv → EH → RS) : (RS.nx e h).bind f = f e h := rfl
@[simp] theorem RS.bind_ret (v : EV) (h : EH) (f : EEnv → EH → RS) : (RS.ret v h).bind f = .ret v h := rfl
@[simp] theorem RS.bind_brk (e : EEnv) (h : EH) (f : EEnv → EH → RS) : (RS.brk e h).bind f = .brk e h := rfl
@[simp] theorem RS.bind_ct (e : EEnv) (h : EH) (f : EEnv → EH → RS) : (RS.ct e h).bind f = .ct e h := rfl
@[simp] theorem RS.bind_bad (f : EEnv → EH → RS) : RS.bad.bind f = .bad := rfl
/-- a result goes on to a statement's -/
def R.to {α : Type} (r : R α) (e : EEnv) (f : α → EH → RS) : RS :=
  match r with
  | .ok a h => f a h
  | .exc x h => .exc x e h
  | .bad => .bad
@[simp] theorem R.to_ok {α : Type} (a : α) (h : EH) (e : EEnv) (f : α → EH → RS) : (R.ok a h).to e f = f a h := rfl
@[simp] theorem R.to_bad {α : Type} (e : EEnv) (f : α → EH → RS) : (R.bad : R α).to e f = .bad := rfl
def storeV (i : Nat) (own : Bool) (v : EV) (e : EEnv) (h : EH) : RS :=
  match v with
  | .tl xs => if own = true then .nx (e.set i (some (.ref h.length))) (h ++ [.lst xs]) else .nx (e.set i (some (.pv (.list xs)))) h
  | .td _ => .bad
  | v => .nx (e.set i (some v)) h
def setV (p : PyData) (x y : EV) (e : EEnv) (h : EH) : RS :=
  match x, y with
  | .ref n, .pv (.int k) => match h[n]? with
    | some (.lst xs) => match ixN xs.length k with
      | some j => .nx e (h.set n (.lst (xs.set j p)))
      | none => .bad
    | _ => .bad
  | _, _ => .bad
def unpV (ts : ITs) (v : EV) (e : EEnv) (h : EH) : RS :=
  match v with
  | .pv p => match bindT (.tp ts) p e with
    | some e => .nx e h
    | none => .bad
  | _ => .bad
def compD (bnd : PyData → EEnv → Option EEnv) (cond : EEnv → EH → R Bool) (elt : EEnv → EH → R EV) (w : Walked) (own : List Nat) (e : EEnv) : List PyData → EH → R (List PyData)
  | [], h => if w.still h then .ok [] h else .bad
  | x :: xs, h => if w.still h then match bnd x (wipeE e own) with
      | none => .bad
      | some e1 => (cond e1 h).bind fun b h => if b = true then (elt e1 h).bind fun v h => (dataV v h).bind fun p h => (compD bnd cond elt w own e xs h).bind fun ps h => .ok (p :: ps) h
          else compD bnd cond elt w own e xs h
    else .bad

def forD (bnd : PyData → EEnv → Option EEnv) (body : EEnv → EH → RS) (w : Walked) : List PyData → EEnv → EH → RS
  | [], e, h => if w.still h then .nx e h else .bad
  | x :: xs, e, h => if w.still h then match bnd x e with
      | none => .bad
      | some e1 => match body e1 h with
        | .nx e2 h2 => forD bnd body w xs e2 h2
        | .ct e2 h2 => forD bnd body w xs e2 h2
        | .brk e2 h2 => .nx e2 h2
        | .ret v h2 => .ret v h2
        | .exc x e2 h2 => .exc x e2 h2
        | .bad => .bad
    else .bad

def whileD (c : EEnv → EH → R Bool) (body : EEnv → EH → RS) : Nat → EEnv → EH → RS
  | 0, _, _ => .bad
  | n + 1, e, h => (c e h).to e fun b h => if b = true then match body e h with
      | .nx e2 h2 => whileD c body n e2 h2
      | .ct e2 h2 => whileD c body n e2 h2
      | .brk e2 h2 => .nx e2 h2
      | .ret v h2 => .ret v h2
      | .exc x e2 h2 => .exc x e2 h2
      | .bad => .bad
    else .nx e h

def varV (e : EEnv) (i : Nat) (h : EH) : R EV :=
  match e[i]? with
  | some (some v) => .ok v h
  | _ => .bad
def negV (x : EV) (h : EH) : R EV :=
  match x with
  | .pv (.int i) => oki (-i) h
  | _ => .bad
def notV (x : EV) (h : EH) : R EV :=
  match x with
  | .pv (.bool b) => okb (!b) h
  | _ => .bad
def isNV (f : Bool → Bool) (x : EV) (h : EH) : R EV :=
  match x with
  | .pv .none => okb (f true) h
  | _ => okb (f false) h
def tupV (ps : List PyData) (h : EH) : R EV := if ps.length ≤ sizeLine then .ok (.pv (.tuple ps)) h else .bad
def newLV (ps : List PyData) (h : EH) : R EV := if ps.length ≤ sizeLine then .ok (.tl ps) h else .bad
def revV (x : EV) (h : EH) : R EV :=
  match lstOf h x with
  | some xs => .ok (.tl xs.reverse) h
  | none => .bad
/-- the pairs of a written dict of texts -/
def dlK (ks : List (Str × Str)) : List (Key × V) := ks.map fun k => (.inr k.1, V.str k.2)
def dlitV (ks : List (Str × Str)) (x : EV) (h : EH) : R EV :=
  match x with
  | .pv (.str s) => match valV (mergeK [] (dlK ks)) (.inr s) with
    | some (.str v) => oks v h
    | _ => .bad
  | _ => .bad
/-- a new dict -/
def dnewV (ks : List Str) (ps : List PyData) (h : EH) : R EV := if ks.length = ps.length then .ok (.ref h.length) (h ++ [.dct (mergeP [] (pairP ks ps))]) else .bad
def dgetV (k : Str) (x : EV) (h : EH) : R EV :=
  match x with
  | .ref n => match h[n]? with
    | some (.dct kvs) => match getP kvs (.inr k) with
      | some p => .ok (.pv p) h
      | none => .bad
    | _ => .bad
  | _ => .bad
/-- a new list as a mutable object -/
def ownV (x : EV) (h : EH) : R EV :=
  match x with
  | .tl xs => .ok (.ref h.length) (h ++ [.lst xs])
  | _ => .bad
/-- a value of a written dict, if a key is in it -/
def gdgetV (kvs : Option (List (Str × PyData))) (x : EV) (h : EH) : R EV :=
  match kvs, x with
  | some kvs, .pv (.str z) => match kvs.lookup z with
    | some p => .ok (.pv p) h
    | none => .bad
  | _, _ => .bad
def gdinV (kvs : Option (List (Str × PyData))) (x : EV) (h : EH) : R EV :=
  match kvs, x with
  | some kvs, .pv (.str z) => okb (kvs.lookup z).isSome h
  | _, _ => .bad
/-- d.get(x, y) of a written dict -/
def ggetV (kvs : Option (List (Str × PyData))) (x y : EV) (h : EH) : R EV :=
  match kvs, x with
  | some kvs, .pv (.str z) => match kvs.lookup z with
    | some p => .ok (.pv p) h
    | none => .ok y h
  | _, _ => .bad
/-- the text that repr shows -/
def reprP (p : PyData) (h : EH) : R EV := if p.showable = true ∧ p.depth ≤ 60 ∧ p.shown.length ≤ sizeLine then oks p.shown h else .bad
def reprV (x : EV) (h : EH) : R EV :=
  match dataOf h x with
  | some p => reprP p h
  | none => .bad
/-- max(x, default=y) -/
def maxdV (x y : EV) (h : EH) : R EV :=
  match lstOf h x, y with
  | some xs, .pv (.int k) => match intsOf xs with
    | some ns => if 0 < ns.length then oki (maxL ns) h else oki k h
    | none => .bad
  | _, _ => .bad
/-- x[0::2], x[1::2] -/
def everyP {α : Type} : Nat → List α → List α
  | _, [] => []
  | 0, x :: xs => x :: everyP 1 xs
  | k + 1, _ :: xs => everyP k xs
def everyV (k : Nat) (x : EV) (h : EH) : R EV :=
  match lstOf h x with
  | some xs => .ok (.tl (everyP k xs)) h
  | none => .bad
/-- list(zip(x, y)) -/
def lzipV (x y : EV) (h : EH) : R EV :=
  match seqOf h x, seqOf h y with
  | some xs, some ys => .ok (.tl (List.zipWith (fun x y => .tuple [x, y]) xs ys)) h
  | _, _ => .bad
def dputV (k : Str) (p : PyData) (x : EV) (e : EEnv) (h : EH) : RS :=
  match x with
  | .ref n => match h[n]? with
    | some (.dct kvs) => if kvs.length < sizeLine then .nx e (h.set n (.dct (putP kvs (.inr k) p))) else .bad
    | _ => .bad
  | _ => .bad
def isiV (ts : List Ty) (x : EV) (h : EH) : R EV :=
  match dataOf h x with
  | some p => okb (ts.any fun t => tyIs t p) h
  | none => .bad
def partV (x : EV) (h : EH) : R (Option Int) :=
  match x with
  | .pv (.int i) => .ok (some i) h
  | _ => .bad
def walkV (x : EV) (h : EH) : R Walked :=
  match walkOf h x with
  | some w => .ok w h
  | none => .bad
def range1V (x : EV) (h : EH) : R Walked :=
  match x with
  | .pv (.int n) => if -(2 ^ 62) ≤ n ∧ n < 2 ^ 62 then .ok ⟨rangeP 0 n.toNat, none⟩ h else .bad
  | _ => .bad
def range2V (x y : EV) (h : EH) : R Walked :=
  match x, y with
  | .pv (.int lo), .pv (.int hi) => if -(2 ^ 62) ≤ lo ∧ lo < 2 ^ 62 ∧ -(2 ^ 62) ≤ hi ∧ hi < 2 ^ 62 then .ok ⟨rangeP lo (hi - lo).toNat, none⟩ h else .bad
  | _, _ => .bad
def zipV (x y : EV) (h : EH) : R Walked :=
  match zipOf x y with
  | some ps => .ok ⟨ps, none⟩ h
  | none => .bad
def enumV (x : EV) (h : EH) : R Walked :=
  match x with
  | .pv (.list xs) => .ok ⟨enumP 0 xs, none⟩ h
  | _ => .bad

/-- the tables of a program: its constants -/
structure Tab where
  consts : List PyData
  wf : Nat
  dicts : List (List (Str × PyData)) := []

section
variable (T : Tab) (call : Nat → List EV → EH → R EV)
mutual
def den : IE → EEnv → EH → R EV
  | .var i, e, h => varV e i h
  | .lit p, _, h => .ok (.pv p) h
  | .glob k, _, h => match T.consts[k]? with
    | some p => .ok (.pv p) h
    | none => .bad
  | .bin o a b, e, h => (den a e h).bind fun x h => (den b e h).bind fun y h => binV o x.settle y.settle h
  | .neg a, e, h => (den a e h).bind fun x h => negV x h
  | .not a, e, h => (den a e h).bind fun x h => notV x h
  | .cmp o a b, e, h => (den a e h).bind fun x h => (den b e h).bind fun y h => cmpV o x.settle y.settle h
  | .isN a, e, h => (den a e h).bind fun x h => isNV id x h
  | .notN a, e, h => (den a e h).bind fun x h => isNV not x h
  | .chain o p a b c, e, h => (den a e h).bind fun x h => (den b e h).bind fun y h => (cmpV o x.settle y.settle h).bind fun z h => (asB z h).bind fun t h =>
      if t = true then (den c e h).bind fun w h => cmpV p y.settle w.settle h else okb false h
  | .and es, e, h => denAnd es e h
  | .or es, e, h => denOr es e h
  | .ife c a b, e, h => (den c e h).bind fun x h => (asB x h).bind fun t h => if t = true then den a e h else den b e h
  | .tup es, e, h => (denP es e h).bind fun ps h => tupV ps h
  | .lst es, e, h => (denP es e h).bind fun ps h => newLV ps h
  | .ix a b, e, h => (den a e h).bind fun x h => (den b e h).bind fun y h => ixV x.settle y.settle h
  | .sl a lo hi, e, h => (den a e h).bind fun x h => (denO lo e h).bind fun l h => (denO hi e h).bind fun u h => slV x.settle l u h
  | .rev a, e, h => (den a e h).bind fun x h => revV x.settle h
  | .dlit ks a, e, h => (den a e h).bind fun x h => dlitV ks x.settle h
  | .dnew ks es, e, h => (denP es e h).bind fun ps h => dnewV ks ps h
  | .dget a k, e, h => (den a e h).bind fun x h => dgetV k x h
  | .gdget d a, e, h => (den a e h).bind fun x h => gdgetV T.dicts[d]? x.settle h
  | .gdin d a, e, h => (den a e h).bind fun x h => gdinV T.dicts[d]? x.settle h
  | .gget d a b, e, h => (den a e h).bind fun x h => (den b e h).bind fun y h => ggetV T.dicts[d]? x.settle y.settle h
  | .repr a, e, h => (den a e h).bind fun x h => reprV x.settle h
  | .maxd a b, e, h => (den a e h).bind fun x h => (den b e h).bind fun y h => maxdV x.settle y.settle h
  | .every k a, e, h => (den a e h).bind fun x h => everyV k x.settle h
  | .lzip a b, e, h => (den a e h).bind fun x h => (den b e h).bind fun y h => lzipV x.settle y.settle h
  | .own a, e, h => (den a e h).bind fun x h => ownV x h
  | .call f es, e, h => (dens es e h).bind fun vs h => call f vs h
  | .bi b es, e, h => (dens es e h).bind fun vs h => biV b vs h
  | .bm m o es, e, h => (den o e h).bind fun x h => if recvB m x.settle h = true then (dens es e h).bind fun vs h => bmV m x.settle vs h else .bad
  | .bm0 m o, e, h => (den o e h).bind fun x h => bm0V m x.settle h
  | .isi a ts, e, h => (den a e h).bind fun x h => isiV ts x.settle h
  | .comp elt tg it c own, e, h => (denW it e h).bind fun w h =>
      (compD (bindT tg) (denC c) (den elt) w own e w.items h).bind fun ps h => newLV ps h
/-- a part of a slice -/
def denO : IO → EEnv → EH → R (Option Int)
  | .no, _, h => .ok none h
  | .yes a, e, h => (den a e h).bind fun x h => partV x h
/-- a comprehension's test, or none -/
def denC : IO → EEnv → EH → R Bool
  | .no, _, h => .ok true h
  | .yes a, e, h => (den a e h).bind fun x h => asB x h
/-- what is walked -/
def denW : IW → EEnv → EH → R Walked
  | .seq a, e, h => (den a e h).bind fun x h => walkV x.settle h
  | .range1 a, e, h => (den a e h).bind fun x h => range1V x.settle h
  | .range2 a b, e, h => (den a e h).bind fun x h => (den b e h).bind fun y h => range2V x.settle y.settle h
  | .zip a b, e, h => (den a e h).bind fun x h => (den b e h).bind fun y h => zipV x.settle y.settle h
  | .enum a, e, h => (den a e h).bind fun x h => enumV x.settle h
/-- arguments -/
def dens : IEs → EEnv → EH → R (List EV)
  | .nil, _, h => .ok [] h
  | .cons a as, e, h => (den a e h).bind fun x h => (dens as e h).bind fun xs h => .ok (x.settle :: xs) h
/-- and: the first that is false, else the last -/
def denAnd : IEs → EEnv → EH → R EV
  | .nil, _, _ => .bad
  | .cons a .nil, e, h => den a e h
  | .cons a (.cons b r), e, h => (den a e h).bind fun x h => (asB x h).bind fun t h => if t = true then denAnd (.cons b r) e h else okb false h
def denOr : IEs → EEnv → EH → R EV
  | .nil, _, _ => .bad
  | .cons a .nil, e, h => den a e h
  | .cons a (.cons b r), e, h => (den a e h).bind fun x h => (asB x h).bind fun t h => if t = true then okb true h else denOr (.cons b r) e h
/-- items of a display -/
def denP : IEs → EEnv → EH → R (List PyData)
  | .nil, _, h => .ok [] h
  | .cons a as, e, h => (den a e h).bind fun x h => (dataV x h).bind fun p h => (denP as e h).bind fun ps h => .ok (p :: ps) h
end
mutual
def denS : IS → EEnv → EH → RS
  | .asg i own a, e, h => (den T call a e h).to e fun v h => storeV i own v e h
  | .asgT ts a, e, h => (den T call a e h).to e fun v h => unpV ts v.settle e h
  | .par2 i j a b, e, h => (den T call a e h).to e fun v h => (den T call b e h).to e fun w h => .nx ((e.set i (some v.settle)).set j (some w.settle)) h
  | .setix o i v, e, h => (den T call v e h).to e fun x h => (dataV x h).to e fun p h => (den T call o e h).to e fun y h => (den T call i e h).to e fun z h => setV p y.settle z.settle e h
  | .dput o k v, e, h => (den T call v e h).to e fun x h => (dataV x h).to e fun p h => (den T call o e h).to e fun y h => dputV k p y e h
  | .exp a, e, h => (den T call a e h).to e fun _ h => .nx e h
  | .ret a, e, h => (den T call a e h).to e fun v h => .ret v h
  | .retN, _, h => .ret (.pv .none) h
  | .pass, e, h => .nx e h
  | .brk, e, h => .brk e h
  | .iff c a b, e, h => ((den T call c e h).bind fun x h => asB x h).to e fun t h => if t = true then denSs a e h else denSs b e h
  | .for_ tg it b, e, h => (denW T call it e h).to e fun w h => forD (bindT tg) (denSs b) w w.items e h
  | .while_ c b, e, h => whileD (fun e h => (den T call c e h).bind fun x h => asB x h) (denSs b) T.wf e h
  | .raise, _, _ => .bad
  | .try_ b, e, h => denSs b e h
def denSs : ISs → EEnv → EH → RS
  | .nil, e, h => .nx e h
  | .cons s r, e, h => (denS s e h).bind fun e h => denSs r e h
end
end

/-- a def: how many params, how many slots, its body -/
structure FD where
  np : Nat
  ns : Nat
  body : ISs
/-- what a def hands back: its own mutable objects are left behind -/
def retV (n0 : Nat) (v : EV) (h : EH) : R EV :=
  match v with
  | .pv p => .ok (.pv p) (h.take n0)
  | .tl xs => .ok (.tl xs) (h.take n0)
  | .ref m => if m < n0 then .ok (.ref m) (h.take n0) else match h[m]? with
    | some (.lst xs) => .ok (.tl xs) (h.take n0)
    | _ => .bad
  | _ => .bad
def finV (n0 : Nat) (r : RS) : R EV :=
  match r with
  | .nx _ h => .ok (.pv .none) (h.take n0)
  | .ret v h => retV n0 v h
  | _ => .bad
def startE (d : FD) (vs : List EV) : EEnv := vs.map some ++ List.replicate (d.ns - vs.length) none
/-- the call of a def, at most n deep -/
def callD (T : Tab) (F : List FD) : Nat → Nat → List EV → EH → R EV
  | 0, _, _, _ => .bad
  | n + 1, f, vs, h => match F[f]? with
    | none => .bad
    | some d => if vs.length = d.np then finV h.length (denSs T (callD T F n) d.body (startE d vs) h) else .bad
theorem callD_at {T : Tab} {F : List FD} {n f : Nat} {vs : List EV} {h : EH} {d : FD} {b : ISs} {e : EEnv} (hF : F[f]? = some d) (hl : vs.length = d.np) (hb : d.body = b) (he : startE d vs = e) : callD T F (n + 1) f vs h = finV h.length (denSs T (callD T F n) b e h) := by
  subst hb he
  simp only [callD, hF, hl, if_true]
end
end G

set_option Elab.async false
set_option linter.all false
set_option maxRecDepth 100000
/-! GRel: how the data of GCore lie in the hand layer's heaps. -/
namespace G
open PySem L2

/-- a tuple of the written part -/
def WT (K : PySem.W.Frag) (a : Addr) (vs : List V) : Prop :=
  ∃ (o : Obj) (its : Array Value) (n : Nat), K.lookup a = some o ∧ o.cls = .type "tuple" ∧ o.data = .seq its n ∧ its.size ≤ sizeLine ∧ Vals vs its.toList
/-- a list of the written part -/
def WL (K : PySem.W.Frag) (a : Addr) (xs : List V) : Prop :=
  ∃ (o : Obj) (its : Array Value) (n : Nat), K.lookup a = some o ∧ o.cls = .type "list" ∧ o.dict = none ∧ o.data = .seq its n ∧ its.size ≤ sizeLine ∧ Vals xs its.toList

mutual
inductive RP (K : PySem.W.Frag) (L : Addr → Prop) (H : Hp) : PyData → V → Prop
  | non : RP K L H .none .non
  | bl (b : Bool) : RP K L H (.bool b) (.bl b)
  | int (i : Int) : RP K L H (.int i) (.int i)
  | str (x : Str) : RP K L H (.str x) (.str x)
  | tup {a : Addr} {vs : List V} {xs : List PyData} : ¬ L a → Rd H a (.tup vs) → RPs K L H xs vs → RP K L H (.tuple xs) (.ref a)
  | tupK {a : Addr} {vs : List V} {xs : List PyData} : WT K a vs → RPs K L H xs vs → RP K L H (.tuple xs) (.ref a)
  | lst {a : Addr} {vs : List V} {xs : List PyData} : ¬ L a → H a = some (.lst vs) → RPs K L H xs vs → RP K L H (.list xs) (.ref a)
inductive RPs (K : PySem.W.Frag) (L : Addr → Prop) (H : Hp) : List PyData → List V → Prop
  | nil : RPs K L H [] []
  | cons {x : PyData} {v : V} {xs : List PyData} {vs : List V} : RP K L H x v → RPs K L H xs vs → RPs K L H (x :: xs) (v :: vs)
end

/-- what is not alive stays, and does not come alive -/
def Ext (L : Addr → Prop) (H : Hp) (L' : Addr → Prop) (H' : Hp) : Prop := ∀ a o, ¬ L a → H a = some o → ¬ L' a ∧ H' a = some o
theorem Ext.refl {L : Addr → Prop} {H : Hp} : Ext L H L H := fun _ _ h e => ⟨h, e⟩
theorem Ext.trans {L L1 L2 : Addr → Prop} {H H1 H2 : Hp} (a : Ext L H L1 H1) (b : Ext L1 H1 L2 H2) : Ext L H L2 H2 := fun x o h e =>
  let ⟨h1, e1⟩ := a x o h e
  b x o h1 e1
theorem Ext.rd {L L' : Addr → Prop} {H H' : Hp} (e : Ext L H L' H') {a : Addr} {u : HO} (h : ¬ L a) (r : Rd H a u) : ¬ L' a ∧ Rd H' a u := by
  rcases r with r | ⟨o, r⟩
  · exact ⟨(e a _ h r).1, .inl (e a _ h r).2⟩
  · exact ⟨(e a _ h r).1, .inr ⟨o, (e a _ h r).2⟩⟩

section
variable {K : PySem.W.Frag} {L L' : Addr → Prop} {H H' : Hp}
mutual
theorem RP.mono (e : Ext L H L' H') : ∀ (p : PyData) (v : V), RP K L H p v → RP K L' H' p v
  | .none, _, h => by cases h; exact .non
  | .bool b, _, h => by cases h; exact .bl b
  | .int i, _, h => by cases h; exact .int i
  | .str x, _, h => by cases h; exact .str x
  | .tuple xs, _, h => by
    cases h with
    | tup h1 h2 h3 =>
      obtain ⟨k1, k2⟩ := e.rd h1 h2
      exact .tup k1 k2 (RPs.mono e xs _ h3)
    | tupK h1 h2 => exact .tupK h1 (RPs.mono e xs _ h2)
  | .list xs, _, h => by
    cases h with
    | lst h1 h2 h3 =>
      obtain ⟨k1, k2⟩ := e _ _ h1 h2
      exact .lst k1 k2 (RPs.mono e xs _ h3)
  | .dict _, _, h => by cases h
theorem RPs.mono (e : Ext L H L' H') : ∀ (ps : List PyData) (vs : List V), RPs K L H ps vs → RPs K L' H' ps vs
  | [], _, h => by cases h; exact .nil
  | p :: ps, _, h => by
    cases h with
    | cons h1 h2 => exact .cons (RP.mono e p _ h1) (RPs.mono e ps _ h2)
end
mutual
theorem RP.dp : ∀ (p : PyData) (v : V), RP K L H p v → Dp K H v p
  | .none, _, h => by cases h; exact .non
  | .bool b, _, h => by cases h; exact .bl b
  | .int i, _, h => by cases h; exact .int i
  | .str x, _, h => by cases h; exact .str x
  | .tuple xs, _, h => by
    cases h with
    | tup h1 h2 h3 => exact .tup (.inl h2) (RPs.dp xs _ h3)
    | tupK h1 h2 => exact .tup (.inr h1) (RPs.dp xs _ h2)
  | .list xs, _, h => by
    cases h with
    | lst h1 h2 h3 => exact .lst (.inl (.inl h2)) (RPs.dp xs _ h3)
  | .dict _, _, h => by cases h
theorem RPs.dp : ∀ (ps : List PyData) (vs : List V), RPs K L H ps vs → DpAll K H vs ps
  | [], _, h => by cases h; exact .nil
  | p :: ps, _, h => by
    cases h with
    | cons h1 h2 => exact .cons (RP.dp p _ h1) (RPs.dp ps _ h2)
end
theorem RP.seqT {xs : List PyData} {v : V} (h : RP K L H (.tuple xs) v) : ∃ a vs, v = .ref a ∧ SqT K H a vs ∧ RPs K L H xs vs := by
  cases h with
  | tup h1 h2 h3 => exact ⟨_, _, rfl, .inl h2, h3⟩
  | tupK h1 h2 => exact ⟨_, _, rfl, .inr h1, h2⟩
theorem RP.seqL {xs : List PyData} {v : V} (h : RP K L H (.list xs) v) : ∃ a vs, v = .ref a ∧ ¬ L a ∧ H a = some (.lst vs) ∧ RPs K L H xs vs := by
  cases h with
  | lst h1 h2 h3 => exact ⟨_, _, rfl, h1, h2, h3⟩
theorem RPs.length : ∀ {ps : List PyData} {vs : List V}, RPs K L H ps vs → ps.length = vs.length
  | [], _, h => by cases h; rfl
  | _ :: _, _, h => by
    cases h with
    | cons _ t => simp [t.length]
theorem RPs.append : ∀ {ps qs : List PyData} {vs us : List V}, RPs K L H ps vs → RPs K L H qs us → RPs K L H (ps ++ qs) (vs ++ us)
  | [], _, _, _, h, k => by cases h; exact k
  | _ :: _, _, _, _, h, k => by
    cases h with
    | cons r t => exact .cons r (t.append k)
theorem RPs.get : ∀ {ps : List PyData} {vs : List V} {i : Nat} {p : PyData}, RPs K L H ps vs → ps[i]? = some p → ∃ v, vs[i]? = some v ∧ RP K L H p v
  | [], _, _, _, _, e => by simp at e
  | _ :: _, _, 0, _, h, e => by
    cases h with
    | cons r t => simp at e; subst e; exact ⟨_, rfl, r⟩
  | _ :: _, _, i + 1, p, h, e => by
    cases h with
    | cons r t =>
      obtain ⟨v, h1, h2⟩ := t.get (i := i) (p := p) (by simpa using e)
      exact ⟨v, by simpa using h1, h2⟩
theorem RPs.drop : ∀ {ps : List PyData} {vs : List V} (n : Nat), RPs K L H ps vs → RPs K L H (ps.drop n) (vs.drop n)
  | [], _, n, h => by cases h; simp; exact .nil
  | _ :: _, _, 0, h => by simpa using h
  | _ :: _, _, n + 1, h => by
    cases h with
    | cons r t => simpa using t.drop n
theorem RPs.take : ∀ {ps : List PyData} {vs : List V} (n : Nat), RPs K L H ps vs → RPs K L H (ps.take n) (vs.take n)
  | [], _, n, h => by cases h; simp; exact .nil
  | _ :: _, _, 0, h => by simp; exact .nil
  | _ :: _, _, n + 1, h => by
    cases h with
    | cons r t => simpa using RPs.cons r (t.take n)
theorem RPs.reverse : ∀ {ps : List PyData} {vs : List V}, RPs K L H ps vs → RPs K L H ps.reverse vs.reverse
  | [], _, h => by cases h; exact .nil
  | _ :: _, _, h => by
    cases h with
    | cons r t => simp only [List.reverse_cons]; exact t.reverse.append (.cons r .nil)
theorem RPs.set : ∀ {ps : List PyData} {vs : List V} {p : PyData} {v : V} (i : Nat), RPs K L H ps vs → RP K L H p v → RPs K L H (ps.set i p) (vs.set i v)
  | [], _, _, _, _, h, _ => by cases h; exact .nil
  | _ :: _, _, _, _, 0, h, q => by
    cases h with
    | cons r t => exact .cons q t
  | _ :: _, _, _, _, i + 1, h, q => by
    cases h with
    | cons r t => exact .cons r (t.set i q)
theorem RPs.strs : ∀ {ps : List PyData} {vs : List V} {ys : List Str}, RPs K L H ps vs → strsOf ps = some ys → vs = ys.map V.str
  | [], _, _, h, e => by cases h; simp [strsOf] at e; subst e; rfl
  | .str x :: ps, _, ys, h, e => by
    cases h with
    | cons r t =>
      cases r
      simp only [strsOf, Option.map_eq_some_iff] at e
      obtain ⟨zs, h1, rfl⟩ := e
      rw [t.strs h1]; rfl
  | .none :: _, _, _, _, e => by simp [strsOf] at e
  | .bool _ :: _, _, _, _, e => by simp [strsOf] at e
  | .int _ :: _, _, _, _, e => by simp [strsOf] at e
  | .list _ :: _, _, _, _, e => by simp [strsOf] at e
  | .tuple _ :: _, _, _, _, e => by simp [strsOf] at e
  | .dict _ :: _, _, _, _, e => by simp [strsOf] at e
theorem RPs.ints : ∀ {ps : List PyData} {vs : List V} {ys : List Int}, RPs K L H ps vs → intsOf ps = some ys → vs = ys.map V.int
  | [], _, _, h, e => by cases h; simp [intsOf] at e; subst e; rfl
  | .int x :: ps, _, ys, h, e => by
    cases h with
    | cons r t =>
      cases r
      simp only [intsOf, Option.map_eq_some_iff] at e
      obtain ⟨zs, h1, rfl⟩ := e
      rw [t.ints h1]; rfl
  | .none :: _, _, _, _, e => by simp [intsOf] at e
  | .bool _ :: _, _, _, _, e => by simp [intsOf] at e
  | .str _ :: _, _, _, _, e => by simp [intsOf] at e
  | .list _ :: _, _, _, _, e => by simp [intsOf] at e
  | .tuple _ :: _, _, _, _, e => by simp [intsOf] at e
  | .dict _ :: _, _, _, _, e => by simp [intsOf] at e
/-- what allB tells: the truths -/
theorem RPs.bools : ∀ {ps : List PyData} {vs : List V} {b : Bool}, RPs K L H ps vs → allB ps = some b → ∃ bs : List Bool, vs = bs.map V.bl ∧ bs.all id = b
  | [], _, _, h, e => by cases h; simp [allB] at e; subst e; exact ⟨[], rfl, rfl⟩
  | .bool x :: ps, _, b, h, e => by
    cases h with
    | cons r t =>
      cases r
      simp only [allB, Option.map_eq_some_iff] at e
      obtain ⟨c, h1, rfl⟩ := e
      obtain ⟨bs, h2, h3⟩ := t.bools h1
      exact ⟨x :: bs, by rw [h2]; rfl, by simp [h3]⟩
  | .none :: _, _, _, _, e => by simp [allB] at e
  | .int _ :: _, _, _, _, e => by simp [allB] at e
  | .str _ :: _, _, _, _, e => by simp [allB] at e
  | .list _ :: _, _, _, _, e => by simp [allB] at e
  | .tuple _ :: _, _, _, _, e => by simp [allB] at e
  | .dict _ :: _, _, _, _, e => by simp [allB] at e
end

/-- alive: an address of a mutable object -/
def Live (ρ : List Addr) (h : EH) (a : Addr) : Prop := ∃ (i : Nat) (o : EO), ρ[i]? = some a ∧ h[i]? = some o ∧ o ≠ EO.dead
/-- what no data may lie at: the mutable objects, and what somebody else holds (A) -/
def LA (A : Addr → Prop) (ρ : List Addr) (h : EH) (a : Addr) : Prop := Live ρ h a ∨ A a

/-- a dict's pairs -/
def RKs (K : PySem.W.Frag) (L : Addr → Prop) (H : Hp) (kvs : List (Key × PyData)) (vs : List (Key × V)) : Prop := kvs.map (·.1) = vs.map (·.1) ∧ RPs K L H (kvs.map (·.2)) (vs.map (·.2))
/-- a mutable object lies at a -/
def OR (K : PySem.W.Frag) (L : Addr → Prop) (H : Hp) : EO → Addr → Prop
  | .lst xs, a => ∃ vs, H a = some (.lst vs) ∧ RPs K L H xs vs
  | .dct kvs, a => ∃ vs, H a = some (.dK vs) ∧ RKs K L H kvs vs
  | .ins _ _, _ => False
  | .dead, _ => True

/-- the mutable objects lie at ρ; their data lie apart from A too -/
structure Rel (K : PySem.W.Frag) (A : Addr → Prop) (ρ : List Addr) (h : EH) (H : Hp) : Prop where
  len : ρ.length = h.length
  inj : ∀ (i j : Nat) (a : Addr) (o o' : EO), ρ[i]? = some a → ρ[j]? = some a → h[i]? = some o → h[j]? = some o' → o ≠ EO.dead → o' ≠ EO.dead → i = j
  obj : ∀ (i : Nat) (o : EO) (a : Addr), h[i]? = some o → ρ[i]? = some a → OR K (LA A ρ h) H o a
  adm : ∀ a, A a → ∃ o, H a = some o
  apart : ∀ a, A a → ¬ Live ρ h a

/-- a value that stands in a name -/
def RV (K : PySem.W.Frag) (ρ : List Addr) (L : Addr → Prop) (H : Hp) : EV → V → Prop
  | .pv p, x => RP K L H p x
  | .fl xs, x => ∃ a vs, x = .ref a ∧ ((¬ L a ∧ Rd H a (.lst vs)) ∨ WL K a vs) ∧ RPs K L H xs vs
  | .ref n, x => ∃ a, x = .ref a ∧ ρ[n]? = some a
  | _, _ => False
/-- the names' values -/
def RE (K : PySem.W.Frag) (ρ : List Addr) (L : Addr → Prop) (H : Hp) (e : EEnv) (σ : St) : Prop :=
  e.length = σ.length ∧ ∀ (i : Nat) (v : EV), e[i]? = some (some v) → ∃ x, σ[i]? = some (some x) ∧ RV K ρ L H v x

theorem RV.mono {K : PySem.W.Frag} {ρ ρ' : List Addr} {L L' : Addr → Prop} {H H' : Hp} (e : Ext L H L' H') (p : ρ <+: ρ') {v : EV} {x : V} (r : RV K ρ L H v x) : RV K ρ' L' H' v x := by
  cases v with
  | pv q => exact RP.mono e q x r
  | tl _ => exact r
  | td _ => exact r
  | fl xs =>
    obtain ⟨a, vs, h1, h2, h3⟩ := r
    refine ⟨a, vs, h1, ?_, RPs.mono e _ _ h3⟩
    rcases h2 with ⟨k1, k2⟩ | k
    · exact .inl (e.rd k1 k2)
    · exact .inr k
  | ref n =>
    obtain ⟨a, h1, h2⟩ := r
    obtain ⟨t, rfl⟩ := p
    refine ⟨a, h1, ?_⟩
    rw [List.getElem?_append_left (List.getElem?_eq_some_iff.mp h2).1]
    exact h2
  | fn _ => exact r
theorem RE.mono {K : PySem.W.Frag} {ρ ρ' : List Addr} {L L' : Addr → Prop} {H H' : Hp} (e : Ext L H L' H') (p : ρ <+: ρ') {env : EEnv} {σ : St} (r : RE K ρ L H env σ) : RE K ρ' L' H' env σ :=
  ⟨r.1, fun i v h => let ⟨x, h1, h2⟩ := r.2 i v h; ⟨x, h1, h2.mono e p⟩⟩
theorem RE.set {K : PySem.W.Frag} {ρ : List Addr} {L : Addr → Prop} {H : Hp} {env : EEnv} {σ : St} {v : EV} {x : V} (r : RE K ρ L H env σ) (i : Nat) (q : RV K ρ L H v x) : RE K ρ L H (env.set i (some v)) (σ.set i (some x)) := by
  refine ⟨by simp [r.1], fun j w h => ?_⟩
  by_cases e : i = j
  · subst e
    rw [List.getElem?_set_self' ] at h
    cases hz : env[i]? with
    | none => rw [hz] at h; simp at h
    | some z =>
      rw [hz] at h
      simp at h
      subst h
      have : i < σ.length := by rw [← r.1]; exact (List.getElem?_eq_some_iff.mp hz).1
      exact ⟨x, by simp [this], q⟩
  · rw [List.getElem?_set_ne e] at h
    obtain ⟨y, h1, h2⟩ := r.2 j w h
    exact ⟨y, by rw [List.getElem?_set_ne e]; exact h1, h2⟩

/-- what has come of an expression -/
def RR (K : PySem.W.Frag) (A : Addr → Prop) (H : Hp) (ρ' : List Addr) (h' : EH) (H' : Hp) : EV → V → Prop
  | .tl xs, x => ∃ a vs, x = .ref a ∧ H a = none ∧ ¬ LA A ρ' h' a ∧ H' a = some (.lst vs) ∧ RPs K (fun b => LA A ρ' h' b ∨ b = a) H' xs vs ∧ Rel K (fun b => A b ∨ b = a) ρ' h' H' ∧ Rel K A ρ' h' H'
  | .td _, _ => False
  | v, x => RV K ρ' (LA A ρ' h') H' v x ∧ Rel K A ρ' h' H'
/-- from a state to a later one -/
structure Stp (A : Addr → Prop) (ρ : List Addr) (h : EH) (H : Hp) (ρ' : List Addr) (h' : EH) (H' : Hp) : Prop where
  pre : ρ <+: ρ'
  ext : Ext (LA A ρ h) H (LA A ρ' h') H'
  new : ∀ (i : Nat) (a : Addr), ρ.length ≤ i → ρ'[i]? = some a → H a = none
  dom : ∀ x o, H x = some o → ∃ o', H' x = some o'
  keep : ∀ a o, A a → H a = some o → H' a = some o
section
variable {K : PySem.W.Frag} {A A' : Addr → Prop} {ρ ρ' ρ1 ρ2 : List Addr} {h h' h1 h2 : EH} {H H' H1 H2 : Hp}
theorem Stp.refl : Stp A ρ h H ρ h H := ⟨List.prefix_refl _, Ext.refl, fun i a hi e => by
  have := (List.getElem?_eq_some_iff.mp e).1
  omega, fun x o e => ⟨o, e⟩, fun _ _ _ e => e⟩
theorem Stp.trans (a : Stp A ρ h H ρ1 h1 H1) (b : Stp A ρ1 h1 H1 ρ2 h2 H2) : Stp A ρ h H ρ2 h2 H2 :=
  ⟨a.pre.trans b.pre, a.ext.trans b.ext, fun i x hi e => by
    by_cases c : ρ1.length ≤ i
    · cases z : H x with
      | none => rfl
      | some o =>
        obtain ⟨o', z'⟩ := a.dom x o z
        rw [b.new i x c e] at z'
        cases z'
    · have hlt : i < ρ1.length := by omega
      obtain ⟨t, rfl⟩ := b.pre
      rw [List.getElem?_append_left hlt] at e
      exact a.new i x hi e, fun x o e => let ⟨o1, e1⟩ := a.dom x o e; b.dom x o1 e1, fun x o ha e => b.keep x o ha (a.keep x o ha e)⟩
theorem Stp.le (s : Stp A ρ h H ρ' h' H') : ρ.length ≤ ρ'.length := s.pre.length_le
theorem Stp.free (s : Stp A ρ h H ρ' h' H') {a : Addr} (e : H' a = none) : H a = none := by
  cases z : H a with
  | none => rfl
  | some o =>
    obtain ⟨o', e'⟩ := s.dom a o z
    rw [e] at e'
    cases e'
theorem RE.step {env : EEnv} {σ : St} (s : Stp A ρ h H ρ' h' H') (r : RE K ρ (LA A ρ h) H env σ) : RE K ρ' (LA A ρ' h') H' env σ := r.mono s.ext s.pre
theorem RP.step {p : PyData} {x : V} (s : Stp A ρ h H ρ' h' H') (r : RP K (LA A ρ h) H p x) : RP K (LA A ρ' h') H' p x := RP.mono s.ext p x r
theorem RPs.step {p : List PyData} {x : List V} (s : Stp A ρ h H ρ' h' H') (r : RPs K (LA A ρ h) H p x) : RPs K (LA A ρ' h') H' p x := RPs.mono s.ext p x r
theorem RV.step {v : EV} {x : V} (s : Stp A ρ h H ρ' h' H') (r : RV K ρ (LA A ρ h) H v x) : RV K ρ' (LA A ρ' h') H' v x := r.mono s.ext s.pre
/-- the same heap, other bounds -/
theorem RPs.weak {L L' : Addr → Prop} {ps : List PyData} {vs : List V} (r : RPs K L H ps vs) (hw : ∀ a, L' a → L a) : RPs K L' H ps vs := RPs.mono (fun a o h e => ⟨fun z => h (hw a z), e⟩) ps vs r
theorem RP.weak {L L' : Addr → Prop} {p : PyData} {v : V} (r : RP K L H p v) (hw : ∀ a, L' a → L a) : RP K L' H p v := RP.mono (fun a o h e => ⟨fun z => h (hw a z), e⟩) p v r
theorem OR.weak {L L' : Addr → Prop} {o : EO} {a : Addr} (r : OR K L H o a) (hw : ∀ a, L' a → L a) : OR K L' H o a := by
  cases o with
  | lst xs =>
    obtain ⟨vs, h1, h2⟩ := r
    exact ⟨vs, h1, h2.weak hw⟩
  | dct kvs =>
    obtain ⟨vs, h1, h2⟩ := r
    exact ⟨vs, h1, h2.1, h2.2.weak hw⟩
  | ins _ _ => exact r
  | dead => trivial
theorem Rel.weak (r : Rel K A ρ h H) (hw : ∀ a, A' a → A a) : Rel K A' ρ h H :=
  ⟨r.len, r.inj, fun i o a h1 h2 => (r.obj i o a h1 h2).weak fun b q => q.elim .inl fun z => .inr (hw b z), fun a z => r.adm a (hw a z), fun a z => r.apart a (hw a z)⟩
theorem Rel.at (r : Rel K A ρ h H) {n : Nat} {xs : List PyData} {a : Addr} (e : h[n]? = some (.lst xs)) (ea : ρ[n]? = some a) : ∃ vs, H a = some (.lst vs) ∧ RPs K (LA A ρ h) H xs vs := r.obj n _ a e ea
/-- what is free is not alive, and nobody's -/
theorem Rel.fresh (r : Rel K A ρ h H) {p : Addr} (np : H p = none) : ¬ LA A ρ h p := by
  rintro (⟨i, o, h1, h2, h3⟩ | q)
  · have q := r.obj i o p h2 h1
    cases o with
    | lst xs =>
      obtain ⟨vs, e, _⟩ := q
      rw [np] at e; cases e
    | dct kvs =>
      obtain ⟨vs, e, _⟩ := q
      rw [np] at e; cases e
    | ins _ _ => exact q
    | dead => exact h3 rfl
  · obtain ⟨o, e⟩ := r.adm p q
    rw [np] at e; cases e
/-- a new object that is not ours, tracked: all stays -/
theorem Stp.upd {p : Addr} {o : HO} (np : H p = none) : Stp A ρ h H ρ h (upd H p o) :=
  ⟨List.prefix_refl _, fun a u h1 h2 => ⟨h1, by rw [upd_ne (ne_of_none h2 np)]; exact h2⟩, (Stp.refl (A := A) (h := h) (H := H)).new, fun x u e => ⟨u, by rw [upd_ne (ne_of_none e np)]; exact e⟩,
    fun x u _ e => by rw [upd_ne (ne_of_none e np)]; exact e⟩
/-- .. and held apart -/
theorem Rel.upd (r : Rel K A ρ h H) {p : Addr} {o : HO} (np : H p = none) : Rel K (fun b => A b ∨ b = p) ρ h (L2.upd H p o) := by
  have nl := r.fresh np
  refine ⟨r.len, r.inj, fun i ob a e1 e2 => ?_, fun a z => ?_, fun a z => ?_⟩
  · have z := r.obj i ob a e1 e2
    cases ob with
    | lst xs =>
      obtain ⟨us, k1, k2⟩ := z
      refine ⟨us, by rw [upd_ne (ne_of_none k1 np)]; exact k1, ?_⟩
      refine RPs.mono (fun b u k3 k4 => ⟨?_, by rw [upd_ne (ne_of_none k4 np)]; exact k4⟩) _ _ k2
      rintro (k5 | k5 | k5)
      · exact k3 (.inl k5)
      · exact k3 (.inr k5)
      · exact ne_of_none k4 np k5
    | dct kvs =>
      obtain ⟨us, k1, k0, k2⟩ := z
      refine ⟨us, by rw [upd_ne (ne_of_none k1 np)]; exact k1, k0, ?_⟩
      refine RPs.mono (fun b u k3 k4 => ⟨?_, by rw [upd_ne (ne_of_none k4 np)]; exact k4⟩) _ _ k2
      rintro (k5 | k5 | k5)
      · exact k3 (.inl k5)
      · exact k3 (.inr k5)
      · exact ne_of_none k4 np k5
    | ins _ _ => exact z
    | dead => trivial
  · by_cases c : a = p
    · subst c; exact ⟨o, upd_same⟩
    · obtain ⟨u, k⟩ := r.adm a (z.resolve_right c)
      exact ⟨u, by rw [upd_ne c]; exact k⟩
  · rcases z with z | z
    · exact r.apart a z
    · subst z; exact fun k => nl (.inl k)
theorem Rel.upd0 (r : Rel K A ρ h H) {p : Addr} {o : HO} (np : H p = none) : Rel K A ρ h (L2.upd H p o) := (r.upd np).weak fun _ z => .inl z
end
end G

set_option Elab.async false
set_option linter.all false
set_option maxRecDepth 100000
/-! GExp: the hand layer's judgements for the terms of GCore: names, constants, operators. -/
namespace G
open PySem L2

/-- what is wanted behind a result -/
def Out (K : PySem.W.Frag) (A : Addr → Prop) (ρ : List Addr) (h : EH) (H : Hp) (r : R EV) (Q : VK) : Prop :=
  match r with
  | .ok v h' => ∀ ρ' x H', Stp A ρ h H ρ' h' H' → RR K A H ρ' h' H' v x → Q x H'
  | _ => False
/-- an expression's reading by what it does on data -/
def tI (K : PySem.W.Frag) (d : EEnv → EH → R EV) : TE := fun σ H Q => ∃ A ρ h e, Rel K A ρ h H ∧ RE K ρ (LA A ρ h) H e σ ∧ Out K A ρ h H (d e h) Q
def OutB (K : PySem.W.Frag) (A : Addr → Prop) (ρ : List Addr) (h : EH) (H : Hp) (r : R Bool) (Q : Bool → Hp → Prop) : Prop :=
  match r with
  | .ok b h' => ∀ ρ' H', Stp A ρ h H ρ' h' H' → Rel K A ρ' h' H' → Q b H'
  | _ => False
def tT (K : PySem.W.Frag) (d : EEnv → EH → R Bool) : TT := fun σ H Q => ∃ A ρ h e, Rel K A ρ h H ∧ RE K ρ (LA A ρ h) H e σ ∧ OutB K A ρ h H (d e h) Q
def RVs (K : PySem.W.Frag) (ρ : List Addr) (L : Addr → Prop) (H : Hp) : List EV → List V → Prop
  | [], [] => True
  | v :: vs, x :: xs => RV K ρ L H v x ∧ RVs K ρ L H vs xs
  | _, _ => False
theorem RVs.length {K : PySem.W.Frag} {ρ : List Addr} {L : Addr → Prop} {H : Hp} : ∀ {vs : List EV} {xs : List V}, RVs K ρ L H vs xs → vs.length = xs.length
  | [], [], _ => rfl
  | _ :: _, _ :: _, h => by simp [RVs.length h.2]
  | [], _ :: _, h => h.elim
  | _ :: _, [], h => h.elim
theorem RVs.step {K : PySem.W.Frag} {A : Addr → Prop} {ρ ρ' : List Addr} {h h' : EH} {H H' : Hp} (s : Stp A ρ h H ρ' h' H') : ∀ {vs : List EV} {xs : List V}, RVs K ρ (LA A ρ h) H vs xs → RVs K ρ' (LA A ρ' h') H' vs xs
  | [], [], _ => trivial
  | _ :: _, _ :: _, q => ⟨q.1.step s, RVs.step s q.2⟩
  | [], _ :: _, h => h.elim
  | _ :: _, [], h => h.elim
def OutA (K : PySem.W.Frag) (A : Addr → Prop) (ρ : List Addr) (h : EH) (H : Hp) (r : R (List EV)) (Q : List V → Hp → Prop) : Prop :=
  match r with
  | .ok vs h' => ∀ ρ' xs H', Stp A ρ h H ρ' h' H' → Rel K A ρ' h' H' → RVs K ρ' (LA A ρ' h') H' vs xs → Q xs H'
  | _ => False
def tA (K : PySem.W.Frag) (d : EEnv → EH → R (List EV)) : TA := fun σ H Q => ∃ A ρ h e, Rel K A ρ h H ∧ RE K ρ (LA A ρ h) H e σ ∧ OutA K A ρ h H (d e h) Q
def OutP (K : PySem.W.Frag) (A : Addr → Prop) (ρ : List Addr) (h : EH) (H : Hp) (r : R (List PyData)) (Q : List V → Hp → Prop) : Prop :=
  match r with
  | .ok ps h' => ∀ ρ' xs H', Stp A ρ h H ρ' h' H' → Rel K A ρ' h' H' → RPs K (LA A ρ' h') H' ps xs → Q xs H'
  | _ => False
def tP (K : PySem.W.Frag) (d : EEnv → EH → R (List PyData)) : TA := fun σ H Q => ∃ A ρ h e, Rel K A ρ h H ∧ RE K ρ (LA A ρ h) H e σ ∧ OutP K A ρ h H (d e h) Q

theorem PE.imp {X : Cx} {e : Expr} {t t' : TE} (h : PE X e t) (hi : ∀ σ H Q, t' σ H Q → t σ H Q) : PE X e t' := ⟨fun pins s σ H Q I q => h.run pins s σ H Q I (hi σ H Q q)⟩
theorem PT.imp {X : Cx} {e : Expr} {t t' : TT} (h : PT X e t) (hi : ∀ σ H Q, t' σ H Q → t σ H Q) : PT X e t' := ⟨fun pins s σ H Q I q => h.run pins s σ H Q I (hi σ H Q q)⟩
theorem PW.imp {X : Cx} {e : Expr} {t t' : TT} (h : PW X e t) (hi : ∀ σ H Q, t' σ H Q → t σ H Q) : PW X e t' := ⟨fun wh pins s σ H Q I q => h.run wh pins s σ H Q I (hi σ H Q q)⟩
theorem PA.imp {X : Cx} {es : List Expr} {t t' : TA} (h : PA X es t) (hi : ∀ σ H Q, t' σ H Q → t σ H Q) : PA X es t' := ⟨fun pos pins s σ H Q I q => h.run pos pins s σ H Q I (hi σ H Q q)⟩
theorem PE.or {X : Cx} {e : Expr} {t t' : TE} (h : PE X e t) (h' : PE X e t') : PE X e (fun σ H Q => t σ H Q ∨ t' σ H Q) := ⟨fun pins s σ H Q I q => q.elim (h.run pins s σ H Q I) (h'.run pins s σ H Q I)⟩

section
variable {K : PySem.W.Frag} {A : Addr → Prop} {ρ ρ1 : List Addr} {h h1 : EH} {H H1 : Hp} {Q : VK}

/-- a settled value is one that may stand in a name -/
theorem RR.settle {v : EV} {x : V} (r : RR K A H ρ1 h1 H1 v x) : RV K ρ1 (LA A ρ1 h1) H1 v.settle x ∧ Rel K A ρ1 h1 H1 := by
  cases v with
  | tl xs =>
    obtain ⟨a, vs, rfl, h1, h2, h3, h4, h5, h6⟩ := r
    exact ⟨.lst h2 h3 (h4.weak fun b q => .inl q), h6⟩
  | td _ => exact r.elim
  | pv p => exact r
  | fl xs => exact r
  | ref n => exact r
  | fn i => exact r
theorem RR.rel {v : EV} {x : V} (r : RR K A H ρ1 h1 H1 v x) : Rel K A ρ1 h1 H1 := r.settle.2
theorem RR.pv {p : PyData} {x : V} (r : RR K A H ρ1 h1 H1 (.pv p) x) : RP K (LA A ρ1 h1) H1 p x := r.1
theorem Out.val {p : PyData} {x : V} (o : Out K A ρ h H (.ok (.pv p) h1) Q) (s : Stp A ρ h H ρ1 h1 H1) (r : Rel K A ρ1 h1 H1) (q : RP K (LA A ρ1 h1) H1 p x) : Q x H1 := o ρ1 x H1 s ⟨q, r⟩
/-- a new tuple -/
theorem Out.newT {ps : List PyData} {vs : List V} (o : Out K A ρ h H (.ok (.pv (.tuple ps)) h1) Q) (s : Stp A ρ h H ρ1 h1 H1) (r : Rel K A ρ1 h1 H1) (q : RPs K (LA A ρ1 h1) H1 ps vs) {p : Addr} (np : H1 p = none) :
    Q (.ref p) (upd H1 p (.tup vs)) := by
  have nl := r.fresh np
  have s1 : Stp A ρ1 h1 H1 ρ1 h1 (upd H1 p (.tup vs)) := Stp.upd np
  exact o ρ1 _ _ (s.trans s1) ⟨.tup nl (.inl upd_same) (q.step s1), r.upd0 np⟩
/-- a new list -/
theorem Out.newL {ps : List PyData} {vs : List V} (o : Out K A ρ h H (.ok (.tl ps) h1) Q) (s : Stp A ρ h H ρ1 h1 H1) (r : Rel K A ρ1 h1 H1) (q : RPs K (LA A ρ1 h1) H1 ps vs) {p : Addr} (np : H1 p = none) :
    Q (.ref p) (upd H1 p (.lst vs)) := by
  have nl := r.fresh np
  have s1 : Stp A ρ1 h1 H1 ρ1 h1 (upd H1 p (.lst vs)) := Stp.upd np
  refine o ρ1 _ _ (s.trans s1) ⟨p, vs, rfl, s.free np, nl, upd_same, ?_, r.upd np, r.upd0 np⟩
  refine RPs.mono (fun b u k3 k4 => ⟨?_, by rw [upd_ne (ne_of_none k4 np)]; exact k4⟩) _ _ q
  rintro (k5 | k5)
  · exact k3 k5
  · exact ne_of_none k4 np k5

/-- two in a row -/
theorem tI_op {da db : EEnv → EH → R EV} {f : EV → EV → EH → R EV} {r : R2}
    (hr : ∀ (A : Addr → Prop) (ρ0 : List Addr) (h0 : EH) (H0 : Hp) (ρ : List Addr) (h : EH) (H : Hp) (v w : EV) (x y : V) (Q : VK), Stp A ρ0 h0 H0 ρ h H → Rel K A ρ h H → RV K ρ (LA A ρ h) H v x → RV K ρ (LA A ρ h) H w y → Out K A ρ0 h0 H0 (f v w h) Q → r x y H Q) :
    ∀ σ H Q, tI K (fun e h => (da e h).bind fun x h => (db e h).bind fun y h => f x.settle y.settle h) σ H Q → tOp r (tI K da) (tI K db) σ H Q := by
  rintro σ H Q ⟨A, ρ, h, e, rel, re, out⟩
  refine ⟨A, ρ, h, e, rel, re, ?_⟩
  revert out
  show Out K A ρ h H ((da e h).bind _) Q → _
  cases da e h with
  | ok v h1 =>
    intro out ρ1 x H1 s1 r1
    obtain ⟨rv1, rel1⟩ := r1.settle
    refine ⟨A, ρ1, h1, e, rel1, re.step s1, ?_⟩
    revert out
    show Out K A ρ h H ((db e h1).bind _) Q → _
    cases db e h1 with
    | ok w h2 =>
      intro out ρ2 y H2 s2 r2
      obtain ⟨rv2, rel2⟩ := r2.settle
      exact hr A ρ h H ρ2 h2 H2 v.settle w.settle x y Q (s1.trans s2) rel2 (rv1.step s2) rv2 out
    | exc _ _ => intro out; exact out
    | bad => intro out; exact out
  | exc _ _ => intro out; exact out
  | bad => intro out; exact out
theorem tI_un {da : EEnv → EH → R EV} {f : EV → EH → R EV} {r : V → Hp → VK → Prop}
    (hr : ∀ (A : Addr → Prop) (ρ0 : List Addr) (h0 : EH) (H0 : Hp) (ρ : List Addr) (h : EH) (H : Hp) (v : EV) (x : V) (Q : VK), Stp A ρ0 h0 H0 ρ h H → RR K A H0 ρ h H v x → Out K A ρ0 h0 H0 (f v h) Q → r x H Q) :
    ∀ σ H Q, tI K (fun e h => (da e h).bind fun x h => f x h) σ H Q → tUn r (tI K da) σ H Q := by
  rintro σ H Q ⟨A, ρ, h, e, rel, re, out⟩
  refine ⟨A, ρ, h, e, rel, re, ?_⟩
  revert out
  show Out K A ρ h H ((da e h).bind _) Q → _
  cases da e h with
  | ok v h1 =>
    intro out ρ1 x H1 s1 r1
    exact hr A ρ h H ρ1 h1 H1 v x Q s1 r1 out
  | exc _ _ => intro out; exact out
  | bad => intro out; exact out
end

section
variable {X : Cx} {pos : Pos} {a b c : Expr} {da db dc : EEnv → EH → R EV}

theorem s_var {i : Nat} {x : Str} (hN : X.N[i]? = some x) (hv : Vis X.env.scope x) (hd : (x == ("__debug__" : Str)) = false) (hcd : (x == ("__classdict__" : Str)) = false) :
    PE X (.Name x pos) (tI X.K fun e h => varV e i h) := by
  refine PE.imp (pe_var hN hv hd hcd) ?_
  rintro σ H Q ⟨A, ρ, h, e, rel, re, out⟩
  have out : Out X.K A ρ h H (varV e i h) Q := out
  unfold varV at out
  split at out
  · rename_i v z
    obtain ⟨y, k1, k2⟩ := re.2 i v z
    refine ⟨y, k1, out ρ y H Stp.refl ?_⟩
    cases v with
    | tl _ => exact k2.elim
    | td _ => exact k2.elim
    | pv _ => exact ⟨k2, rel⟩
    | fl _ => exact ⟨k2, rel⟩
    | ref _ => exact ⟨k2, rel⟩
    | fn _ => exact ⟨k2, rel⟩
  · exact out.elim
theorem s_const {v : V} {p : PyData} (hp : PE X a (tC v)) (hr : ∀ L H, RP X.K L H p v) : PE X a (tI X.K fun _ h => .ok (.pv p) h) := by
  refine PE.imp hp ?_
  rintro σ H Q ⟨A, ρ, h, e, rel, re, out⟩
  exact Out.val out Stp.refl rel (hr _ _)

/-! ### binary operators -/
def BOp.py : BOp → Operator
  | .add => .Add | .sub => .Sub | .mul => .Mult | .fdiv => .FloorDiv | .mod => .Mod | .pow => .Pow
theorem lstOf_pv {h : EH} {v : EV} {xs : List PyData} (e : lstOf h v = some xs) : (v = .pv (.list xs)) ∨ (v = .tl xs) ∨ ∃ n, v = .ref n ∧ h[n]? = some (.lst xs) := by
  cases v with
  | pv p => cases p <;> simp [lstOf] at e; exact .inl (by rw [e])
  | tl ys => simp [lstOf] at e; exact .inr (.inl (by rw [e]))
  | td _ => simp [lstOf] at e
  | fl _ => simp [lstOf] at e
  | ref n =>
    simp only [lstOf] at e
    cases z : h[n]? with
    | none => rw [z] at e; simp at e
    | some o => rw [z] at e; cases o <;> simp at e; exact .inr (.inr ⟨n, rfl, by rw [e] at z; exact z⟩)
  | fn _ => simp [lstOf] at e
/-- a list that stands: its object -/
theorem RV.lst {K : PySem.W.Frag} {A : Addr → Prop} {ρ : List Addr} {h : EH} {H : Hp} {v : EV} {x : V} {xs : List PyData} (r : RV K ρ (LA A ρ h) H v x) (rel : Rel K A ρ h H) (e : lstOf h v = some xs) :
    ∃ a vs, x = .ref a ∧ H a = some (.lst vs) ∧ RPs K (LA A ρ h) H xs vs := by
  rcases lstOf_pv e with rfl | rfl | ⟨n, rfl, k⟩
  · obtain ⟨a, vs, h1, _, h2, h3⟩ := RP.seqL r
    exact ⟨a, vs, h1, h2, h3⟩
  · exact r.elim
  · obtain ⟨a, h1, h2⟩ := r
    obtain ⟨vs, k1, k2⟩ := rel.at k h2
    exact ⟨a, vs, h1, k1, k2⟩
/-- a list or a tuple that stands -/
theorem RV.seq {K : PySem.W.Frag} {A : Addr → Prop} {ρ : List Addr} {h : EH} {H : Hp} {v : EV} {x : V} {xs : List PyData} (r : RV K ρ (LA A ρ h) H v x) (rel : Rel K A ρ h H) (e : seqOf h v = some xs) :
    ∃ a vs, x = .ref a ∧ ((SqL K H a vs ∧ v ≠ .pv (.tuple xs)) ∨ (SqT K H a vs ∧ v = .pv (.tuple xs))) ∧ RPs K (LA A ρ h) H xs vs := by
  cases v with
  | pv p =>
    cases p <;> simp [seqOf] at e
    · subst e
      obtain ⟨a, vs, h1, _, h2, h3⟩ := RP.seqL r
      exact ⟨a, vs, h1, .inl ⟨.inl (.inl h2), by simp⟩, h3⟩
    · subst e
      obtain ⟨a, vs, h1, h2, h3⟩ := RP.seqT r
      exact ⟨a, vs, h1, .inr ⟨h2, rfl⟩, h3⟩
  | tl _ => exact r.elim
  | td _ => exact r.elim
  | fl ys =>
    simp [seqOf] at e; subst e
    obtain ⟨a, vs, h1, h2, h3⟩ := r
    rcases h2 with ⟨_, k⟩ | k
    · exact ⟨a, vs, h1, .inl ⟨.inl k, by simp⟩, h3⟩
    · exact ⟨a, vs, h1, .inl ⟨.inr k, by simp⟩, h3⟩
  | ref n =>
    obtain ⟨a, vs, h1, h2, h3⟩ := RV.lst (v := .ref n) r rel (by simpa [lstOf, seqOf] using e)
    exact ⟨a, vs, h1, .inl ⟨.inl (.inl h2), by simp⟩, h3⟩
  | fn _ => exact r.elim

theorem rv_int {K : PySem.W.Frag} {ρ : List Addr} {L : Addr → Prop} {H : Hp} {i : Int} {x : V} (r : RV K ρ L H (.pv (.int i)) x) : x = .int i := by cases r; rfl
theorem rv_str {K : PySem.W.Frag} {ρ : List Addr} {L : Addr → Prop} {H : Hp} {i : Str} {x : V} (r : RV K ρ L H (.pv (.str i)) x) : x = .str i := by cases r; rfl
theorem rv_bl {K : PySem.W.Frag} {ρ : List Addr} {L : Addr → Prop} {H : Hp} {i : Bool} {x : V} (r : RV K ρ L H (.pv (.bool i)) x) : x = .bl i := by cases r; rfl

/-- str * int -/
theorem op_mul_str01 : OpR X (binaryOp .Mult) (fun x y H Q => ∃ a j, x = .str a ∧ y = .int j ∧ (0 ≤ j ∧ j ≤ 1) ∧ Q (.str (if j = 0 then S [] else a)) H) := by
  intro pins s σ H x y v u Q I rx ry h
  obtain ⟨i, j, rfl, rfl, hz, q⟩ := h
  obtain ⟨t, rfl⟩ := rx
  obtain ⟨t', rfl⟩ := ry
  by_cases c : j = 0
  · subst c
    rw [if_pos rfl] at q
    exact P.mul_str_none (by decide) (by decide) ⟨.str (S []), H, I.tok _, ⟨_, rfl⟩, q⟩
  · have c1 : j = 1 := by omega
    subst c1
    rw [if_neg c] at q
    refine P.mul_str (by decide) (fun _ h2 => ?_) (fun _ h2 => ?_) ?_
    · rw [show ((1 : Int) == 1) = true from rfl, Bool.true_or] at h2; cases h2
    · rw [show ((1 : Int) == 1) = true from rfl, Bool.true_or] at h2; cases h2
    · rw [if_neg (by decide), if_pos (by simp)]
      exact ⟨.str i, H, I, ⟨_, rfl⟩, q⟩
theorem s_bin {o : BOp} (ha : PE X a (tI X.K da)) (hb : PE X b (tI X.K db)) : PE X (.BinOp a o.py b pos) (tI X.K fun e h => (da e h).bind fun x h => (db e h).bind fun y h => binV o x.settle y.settle h) := by
  cases o with
  | add =>
    refine PE.imp (pe_op (OpR.or (OpR.or op_add op_add_str) (OpR.or op_catA op_cat)) ha hb) (tI_op fun A ρ0 h0 H0 ρ h H v w x y Q s rel rv rw out => ?_)
    simp only [binV] at out
    unfold addV at out
    split at out
    · cases rv_int rv; cases rv_int rw
      exact .inl (.inl ⟨_, _, rfl, rfl, Out.val out s rel (.int _)⟩)
    · cases rv_str rv; cases rv_str rw
      split at out
      · exact .inl (.inr ⟨_, _, rfl, rfl, by assumption, Out.val out s rel (.str _)⟩)
      · exact out.elim
    · rename_i xs ys
      split at out
      · rename_i hz
        obtain ⟨p, us, rfl, h1, h2⟩ := RP.seqT rv
        obtain ⟨q, ws, rfl, k1, k2⟩ := RP.seqT rw
        have hl := h2.length
        have kl := k2.length
        refine .inr (.inl ⟨p, q, us, ws, rfl, rfl, h1, k1, by omega, fun e => ?_, fun _ e => ?_, fun _ _ r np => ?_⟩)
        · have : xs = [] := List.length_eq_zero_iff.mp (by rw [hl, e]; rfl)
          subst this
          exact Out.val out s rel rw
        · have : ys = [] := List.length_eq_zero_iff.mp (by rw [kl, e]; rfl)
          subst this
          rw [List.append_nil] at out
          exact Out.val out s rel rv
        · exact Out.newT out s rel (h2.append k2) np
      · exact out.elim
    · split at out
      · rename_i xs ys e1 e2
        split at out
        · rename_i hz
          obtain ⟨p, us, rfl, h1, h2⟩ := rv.lst rel e1
          obtain ⟨q, ws, rfl, k1, k2⟩ := rw.lst rel e2
          have hl := h2.length
          have kl := k2.length
          exact .inr (.inr ⟨p, q, us, ws, rfl, rfl, h1, k1, by omega, fun r np => Out.newL out s rel (h2.append k2) np⟩)
        · exact out.elim
      · exact out.elim
  | sub =>
    refine PE.imp (pe_op op_sub ha hb) (tI_op fun A ρ0 h0 H0 ρ h H v w x y Q s rel rv rw out => ?_)
    simp only [binV] at out
    unfold subV at out
    split at out
    · cases rv_int rv; cases rv_int rw
      exact ⟨_, _, rfl, rfl, Out.val out s rel (.int _)⟩
    · exact out.elim
  | mul =>
    refine PE.imp (pe_op (OpR.or op_mul op_mul_str01) ha hb) (tI_op fun A ρ0 h0 H0 ρ h H v w x y Q s rel rv rw out => ?_)
    simp only [binV] at out
    unfold mulV at out
    split at out
    · cases rv_int rv; cases rv_int rw
      split at out
      · exact .inl ⟨_, _, rfl, rfl, by assumption, Out.val out s rel (.int _)⟩
      · exact out.elim
    · cases rv_str rv; cases rv_int rw
      split at out
      · exact .inr ⟨_, _, rfl, rfl, by assumption, Out.val out s rel (.str _)⟩
      · exact out.elim
    · exact out.elim
  | fdiv =>
    refine PE.imp (pe_op op_fdiv ha hb) (tI_op fun A ρ0 h0 H0 ρ h H v w x y Q s rel rv rw out => ?_)
    simp only [binV] at out
    unfold fdivV at out
    split at out
    · cases rv_int rv; cases rv_int rw
      split at out
      · exact ⟨_, _, rfl, rfl, by assumption, Out.val out s rel (.int _)⟩
      · exact out.elim
    · exact out.elim
  | mod =>
    refine PE.imp (pe_op op_mod ha hb) (tI_op fun A ρ0 h0 H0 ρ h H v w x y Q s rel rv rw out => ?_)
    simp only [binV] at out
    unfold modV at out
    split at out
    · cases rv_int rv; cases rv_int rw
      split at out
      · exact ⟨_, _, rfl, rfl, by assumption, Out.val out s rel (.int _)⟩
      · exact out.elim
    · exact out.elim
  | pow =>
    refine PE.imp (pe_op op_pow ha hb) (tI_op fun A ρ0 h0 H0 ρ h H v w x y Q s rel rv rw out => ?_)
    simp only [binV] at out
    unfold powV at out
    split at out
    · cases rv_int rv; cases rv_int rw
      split at out
      · exact ⟨_, _, rfl, rfl, by assumption, Out.val out s rel (.int _)⟩
      · exact out.elim
    · exact out.elim

/-! ### comparisons -/
def COp.py : COp → CmpOp
  | .eq => .Eq | .ne => .NotEq | .lt => .Lt | .le => .LtE | .gt => .Gt | .ge => .GtE | .isin => .In | .notin => .NotIn
theorem dataOf_dp {K : PySem.W.Frag} {A : Addr → Prop} {ρ : List Addr} {h : EH} {H : Hp} {v : EV} {x : V} {d : PyData} (r : RV K ρ (LA A ρ h) H v x) (rel : Rel K A ρ h H) (e : dataOf h v = some d) : Dp K H x d := by
  cases v with
  | pv p => simp [dataOf] at e; subst e; exact RP.dp _ _ r
  | tl _ => exact r.elim
  | td _ => exact r.elim
  | fl ys =>
    simp [dataOf] at e; subst e
    obtain ⟨a, vs, rfl, h2, h3⟩ := r
    rcases h2 with ⟨_, k⟩ | k
    · exact .lst (.inl k) (RPs.dp _ _ h3)
    · exact .lst (.inr k) (RPs.dp _ _ h3)
  | ref n =>
    simp only [dataOf] at e
    cases z : h[n]? with
    | none => rw [z] at e; simp at e
    | some o =>
      rw [z] at e
      cases o <;> simp at e
      subst e
      obtain ⟨a, rfl, h2⟩ := r
      obtain ⟨vs, k1, k2⟩ := rel.at z h2
      exact .lst (.inl (.inl k1)) (RPs.dp _ _ k2)
  | fn _ => exact r.elim
/-- a scalar as a value -/
def scV : PyData → Option V
  | .none => some .non | .bool b => some (.bl b) | .int i => some (.int i) | .str x => some (.str x)
  | _ => none
theorem dp_sc {K : PySem.W.Frag} {H : Hp} {x : V} {d : PyData} (h : Dp K H x d) (f : flatP d = true) : scV d = some x := by
  cases h <;> first | rfl | (simp [flatP] at f)
theorem scal_eq : ∀ {d e : PyData} {x y : V}, scV d = some x → scV e = some y → scalP d e = true → scal x y = true ∧ decide (x = y) = PyData.eqv d e := by
  intro d e x y h1 h2 h3
  cases d <;> cases e <;> simp [scV, scalP] at h1 h2 h3 <;> subst h1 <;> subst h2 <;> simp [scal, PyData.eqv] <;> (try rfl)
theorem scal_flat {d e : PyData} (h : scalP d e = true) : flatP d = true ∧ flatP e = true := by
  cases d <;> cases e <;> simp [scalP] at h <;> simp [flatP]
theorem eqV_flat : ∀ {d e : PyData} {x y : V}, scV d = some x → scV e = some y → L2.eqV x y = PyData.eqv d e := by
  intro d e x y h1 h2
  cases d <;> cases e <;> simp [scV] at h1 h2 <;> subst h1 <;> subst h2 <;> simp [L2.eqV, PyData.eqv]
theorem out_okb {K : PySem.W.Frag} {A : Addr → Prop} {ρ ρ1 : List Addr} {h h1 : EH} {H H1 : Hp} {Q : VK} {b : Bool} (o : Out K A ρ h H (okb b h1) Q) (s : Stp A ρ h H ρ1 h1 H1) (r : Rel K A ρ1 h1 H1) : Q (.bl b) H1 := Out.val o s r (.bl b)
theorem out_oki {K : PySem.W.Frag} {A : Addr → Prop} {ρ ρ1 : List Addr} {h h1 : EH} {H H1 : Hp} {Q : VK} {b : Int} (o : Out K A ρ h H (oki b h1) Q) (s : Stp A ρ h H ρ1 h1 H1) (r : Rel K A ρ1 h1 H1) : Q (.int b) H1 := Out.val o s r (.int b)
theorem out_oks {K : PySem.W.Frag} {A : Addr → Prop} {ρ ρ1 : List Addr} {h h1 : EH} {H H1 : Hp} {Q : VK} {b : Str} (o : Out K A ρ h H (oks b h1) Q) (s : Stp A ρ h H ρ1 h1 H1) (r : Rel K A ρ1 h1 H1) : Q (.str b) H1 := Out.val o s r (.str b)

def rEq2 (K : PySem.W.Frag) : R2 := fun x y H Q => rEq x y H Q ∨ rEqD K x y H Q
def rNe2 (K : PySem.W.Frag) : R2 := fun x y H Q => rNe x y H Q ∨ rNeD K x y H Q
theorem r_eq {K : PySem.W.Frag} {A : Addr → Prop} {ρ0 ρ : List Addr} {h0 h : EH} {H0 H : Hp} {v w : EV} {x y : V} {Q : VK} (s : Stp A ρ0 h0 H0 ρ h H) (rel : Rel K A ρ h H) (rv : RV K ρ (LA A ρ h) H v x) (rw : RV K ρ (LA A ρ h) H w y)
    (out : Out K A ρ0 h0 H0 (eqV v w h id) Q) : rEq2 K x y H Q := by
  unfold eqV at out
  split at out
  · rename_i d e h1 h2
    have dx := dataOf_dp rv rel h1
    have dy := dataOf_dp rw rel h2
    split at out
    · rename_i c
      by_cases c1 : scalP d e = true
      · obtain ⟨f1, f2⟩ := scal_flat c1
        obtain ⟨k1, k2⟩ := scal_eq (dp_sc dx f1) (dp_sc dy f2) c1
        refine .inl ⟨k1, ?_⟩
        rw [k2]
        exact out_okb out s rel
      · obtain ⟨c2, c3⟩ := c.resolve_left c1
        exact .inr ⟨d, e, dx, dy, c2, c3, out_okb out s rel⟩
    · exact out.elim
  · exact out.elim
theorem r_ne {K : PySem.W.Frag} {A : Addr → Prop} {ρ0 ρ : List Addr} {h0 h : EH} {H0 H : Hp} {v w : EV} {x y : V} {Q : VK} (s : Stp A ρ0 h0 H0 ρ h H) (rel : Rel K A ρ h H) (rv : RV K ρ (LA A ρ h) H v x) (rw : RV K ρ (LA A ρ h) H w y)
    (out : Out K A ρ0 h0 H0 (eqV v w h not) Q) : rNe2 K x y H Q := by
  unfold eqV at out
  split at out
  · rename_i d e h1 h2
    have dx := dataOf_dp rv rel h1
    have dy := dataOf_dp rw rel h2
    split at out
    · rename_i c
      by_cases c1 : scalP d e = true
      · obtain ⟨f1, f2⟩ := scal_flat c1
        obtain ⟨k1, k2⟩ := scal_eq (dp_sc dx f1) (dp_sc dy f2) c1
        refine .inl ⟨k1, ?_⟩
        rw [k2]
        exact out_okb out s rel
      · obtain ⟨c2, c3⟩ := c.resolve_left c1
        exact .inr ⟨d, e, dx, dy, c2, c3, out_okb out s rel⟩
    · exact out.elim
  · exact out.elim
theorem flat_all {K : PySem.W.Frag} {L : Addr → Prop} {H : Hp} : ∀ {ps : List PyData} {vs : List V}, RPs K L H ps vs → ps.all flatP = true → vs.all L2.flatV = true
  | [], _, h, _ => by cases h; rfl
  | p :: ps, _, h, f => by
    cases h with
    | cons r t =>
      rw [List.all_cons, Bool.and_eq_true] at f ⊢
      refine ⟨?_, flat_all t f.2⟩
      have f1 := f.1
      cases r <;> first | rfl | (simp [flatP] at f1)
theorem flat_v {K : PySem.W.Frag} {H : Hp} {x : V} {d : PyData} (h : Dp K H x d) (f : flatP d = true) : L2.flatV x = true := by
  cases h <;> first | rfl | (simp [flatP] at f)
theorem any_eqv {K : PySem.W.Frag} {L : Addr → Prop} {H : Hp} {d : PyData} {x : V} (hd : scV d = some x) : ∀ {ps : List PyData} {vs : List V}, RPs K L H ps vs → ps.all flatP = true → L2.inV x vs = ps.any fun z => PyData.eqv z d
  | [], _, h, _ => by cases h; rfl
  | p :: ps, _, h, f => by
    cases h with
    | @cons _ v _ vs r t =>
      rw [List.all_cons, Bool.and_eq_true] at f
      have e := any_eqv hd t f.2
      unfold L2.inV at e ⊢
      rw [List.any_cons, List.any_cons, e, eqV_flat (dp_sc (RP.dp _ _ r) f.1) hd]
def rIn2 (K : PySem.W.Frag) (neg : Bool) : R2 := fun x y H Q => (∃ (c : Nat) (z : Str), x = .str ⟨#[c]⟩ ∧ y = .str z ∧ Q (.bl (if neg then !decide (c ∈ z.cps.toList) else decide (c ∈ z.cps.toList))) H) ∨ rIn K neg x y H Q
theorem one_sign {a : Str} (h : a.length = 1) : a = ⟨#[a.cps.getD 0 0]⟩ := by
  obtain ⟨⟨l⟩⟩ := a
  have : l.length = 1 := h
  match l, this with
  | [c], _ => rfl
theorem r_in {K : PySem.W.Frag} {neg : Bool} {A : Addr → Prop} {ρ0 ρ : List Addr} {h0 h : EH} {H0 H : Hp} {v w : EV} {x y : V} {Q : VK} (s : Stp A ρ0 h0 H0 ρ h H) (rel : Rel K A ρ h H) (rv : RV K ρ (LA A ρ h) H v x) (rw : RV K ρ (LA A ρ h) H w y)
    (out : Out K A ρ0 h0 H0 (inV v w h (if neg then not else id)) Q) : rIn2 K neg x y H Q := by
  unfold inV at out
  split at out
  · rename_i a z
    cases rv_str rv; cases rv_str rw
    split at out
    · rename_i hl
      refine .inl ⟨a.cps.getD 0 0, z, by rw [← one_sign hl], rfl, ?_⟩
      have q := out_okb out s rel
      cases neg
      · exact q
      · exact q
    · exact out.elim
  · split at out
    · rename_i ys d e1 e2
      have dx := dataOf_dp rv rel e2
      obtain ⟨p, us, rfl, h1, h2⟩ := rw.seq rel e1
      split at out
      · rename_i c
        refine .inr ⟨p, us, rfl, h1.elim (fun q => .inl q.1) (fun q => .inr q.1), flat_v dx c.1, flat_all h2 c.2, ?_⟩
        rw [any_eqv (dp_sc dx c.1) h2 c.2]
        have q := out_okb out s rel
        cases neg
        · exact q
        · exact q
      · exact out.elim
    · exact out.elim
theorem r_ord {K : PySem.W.Frag} {f : Int → Int → Bool} {A : Addr → Prop} {ρ0 ρ : List Addr} {h0 h : EH} {H0 H : Hp} {v w : EV} {x y : V} {Q : VK} (s : Stp A ρ0 h0 H0 ρ h H) (rel : Rel K A ρ h H) (rv : RV K ρ (LA A ρ h) H v x) (rw : RV K ρ (LA A ρ h) H w y)
    (out : Out K A ρ0 h0 H0 (ordV f v w h) Q) : rI0 (fun i j => .bl (f i j)) x y H Q := by
  unfold ordV at out
  split at out
  · cases rv_int rv; cases rv_int rw
    exact ⟨_, _, rfl, rfl, out_okb out s rel⟩
  · exact out.elim
/-- each comparison's rule -/
def rCmp (K : PySem.W.Frag) : COp → R2
  | .eq => rEq2 K
  | .ne => rNe2 K
  | .isin => rIn2 K false
  | .notin => rIn2 K true
  | .lt => rI0 fun i j => .bl (decide (i < j))
  | .le => rI0 fun i j => .bl (decide (i ≤ j))
  | .gt => rI0 fun i j => .bl (decide (j < i))
  | .ge => rI0 fun i j => .bl (decide (j ≤ i))
theorem op_cmp (hu : X.A.units + 64 < cLine) (o : COp) : OpR X (compareOp o.py) (rCmp X.K o) := by
  cases o with
  | eq => exact OpR.or op_eq (op_eqD hu)
  | ne => exact OpR.or op_ne (op_neD hu)
  | lt => exact op_lt
  | le => exact op_le
  | gt => exact op_gt
  | ge => exact op_ge
  | isin => exact OpR.or op_in_sign op_in_seq
  | notin => exact OpR.or op_notIn_sign op_notIn_seq
theorem r_cmp {K : PySem.W.Frag} {o : COp} {A : Addr → Prop} {ρ0 ρ : List Addr} {h0 h : EH} {H0 H : Hp} {v w : EV} {x y : V} {Q : VK} (s : Stp A ρ0 h0 H0 ρ h H) (rel : Rel K A ρ h H) (rv : RV K ρ (LA A ρ h) H v x) (rw : RV K ρ (LA A ρ h) H w y)
    (out : Out K A ρ0 h0 H0 (cmpV o v w h) Q) : rCmp K o x y H Q := by
  cases o with
  | eq => exact r_eq s rel rv rw out
  | ne => exact r_ne s rel rv rw out
  | isin => exact r_in (neg := false) s rel rv rw out
  | notin => exact r_in (neg := true) s rel rv rw out
  | lt => exact r_ord s rel rv rw out
  | le => exact r_ord s rel rv rw out
  | gt => exact r_ord s rel rv rw out
  | ge => exact r_ord s rel rv rw out
theorem s_cmp {o : COp} (hu : X.A.units + 64 < cLine) (hm : behindInMarks o.py b = false) (ha : PE X a (tI X.K da)) (hb : PE X b (tI X.K db)) :
    PE X (.Compare a [o.py] [b] pos) (tI X.K fun e h => (da e h).bind fun x h => (db e h).bind fun y h => cmpV o x.settle y.settle h) :=
  PE.imp (pe_cmpR (op_cmp hu o) ha hb hm) (tI_op fun _ _ _ _ _ _ _ _ _ _ _ _ s rel rv rw out => r_cmp s rel rv rw out)
theorem cmpV_b {o : COp} {v w : EV} {h : EH} : (∃ b, cmpV o v w h = okb b h) ∨ cmpV o v w h = .bad := by
  cases o <;> simp only [cmpV]
  all_goals first
    | (unfold eqV; split; (split; exact .inl ⟨_, rfl⟩; exact .inr rfl); exact .inr rfl)
    | (unfold ordV; split; exact .inl ⟨_, rfl⟩; exact .inr rfl)
    | (unfold inV; split; (split; exact .inl ⟨_, rfl⟩; exact .inr rfl); (split; (split; exact .inl ⟨_, rfl⟩; exact .inr rfl); exact .inr rfl))

/-! ### one-place -/
theorem s_neg (ha : PE X a (tI X.K da)) : PE X (.UnaryOp .USub a pos) (tI X.K fun e h => (da e h).bind fun x h => negV x h) := by
  refine PE.imp (pe_un un_neg ha) (tI_un fun A ρ0 h0 H0 ρ h H v x Q s r out => ?_)
  unfold negV at out
  split at out
  · cases rv_int r.1
    exact ⟨_, rfl, out_oki out s r.2⟩
  · exact out.elim
theorem s_not (ha : PE X a (tI X.K da)) : PE X (.UnaryOp .Not a pos) (tI X.K fun e h => (da e h).bind fun x h => notV x h) := by
  refine PE.imp (pe_not ha) (tI_un (r := fun x H1 Q => ∃ c, x = .bl c ∧ Q (.bl (!c)) H1) fun A ρ0 h0 H0 ρ h H v x Q s r out => ?_)
  unfold notV at out
  split at out
  · cases rv_bl r.1
    exact ⟨_, rfl, out_okb out s r.2⟩
  · exact out.elim
theorem non_iff {K : PySem.W.Frag} {A : Addr → Prop} {ρ : List Addr} {h : EH} {H0 H : Hp} {v : EV} {x : V} (r : RR K A H0 ρ h H v x) : (v = .pv .none ∧ x = .non) ∨ ((∀ f h, isNV f v h = okb (f false) h) ∧ x ≠ .non) := by
  cases v with
  | pv p =>
    obtain ⟨r, _⟩ := r
    cases p with
    | none => cases r; exact .inl ⟨rfl, rfl⟩
    | bool b => cases r; exact .inr ⟨fun _ _ => rfl, by simp⟩
    | int b => cases r; exact .inr ⟨fun _ _ => rfl, by simp⟩
    | str b => cases r; exact .inr ⟨fun _ _ => rfl, by simp⟩
    | list xs => obtain ⟨a, vs, rfl, _⟩ := RP.seqL r; exact .inr ⟨fun _ _ => rfl, by simp⟩
    | tuple xs => obtain ⟨a, vs, rfl, _⟩ := RP.seqT r; exact .inr ⟨fun _ _ => rfl, by simp⟩
    | dict kvs => cases r
  | tl xs => obtain ⟨a, vs, rfl, _⟩ := r; exact .inr ⟨fun _ _ => rfl, by simp⟩
  | td _ => exact r.elim
  | fl xs => obtain ⟨⟨a, vs, rfl, _⟩, _⟩ := r; exact .inr ⟨fun _ _ => rfl, by simp⟩
  | ref n => obtain ⟨⟨a, rfl, _⟩, _⟩ := r; exact .inr ⟨fun _ _ => rfl, by simp⟩
  | fn _ => exact r.1.elim
theorem s_isN {j : Nat} {p2 : Pos} (ha : PE X a (tI X.K da)) : PE X (.Compare a [.Is] [.Constant .none j p2] pos) (tI X.K fun e h => (da e h).bind fun x h => isNV id x h) := by
  refine PE.imp (pe_cmp (pc_isN ha)) (tI_un (r := fun x H1 Q => Q (.bl (decide (x = .non))) H1) fun A ρ0 h0 H0 ρ h H v x Q s r out => ?_)
  rcases non_iff r with ⟨rfl, rfl⟩ | ⟨k, n⟩
  · exact out_okb out s r.rel
  · rw [k] at out
    have : decide (x = V.non) = false := decide_eq_false n
    rw [this]
    exact out_okb out s r.rel
theorem s_notN {j : Nat} {p2 : Pos} (ha : PE X a (tI X.K da)) : PE X (.Compare a [.IsNot] [.Constant .none j p2] pos) (tI X.K fun e h => (da e h).bind fun x h => isNV not x h) := by
  refine PE.imp (pe_cmp (pc_notN ha)) (tI_un (r := fun x H1 Q => Q (.bl (!decide (x = .non))) H1) fun A ρ0 h0 H0 ρ h H v x Q s r out => ?_)
  rcases non_iff r with ⟨rfl, rfl⟩ | ⟨k, n⟩
  · exact out_okb out s r.rel
  · rw [k] at out
    have : decide (x = V.non) = false := decide_eq_false n
    rw [this]
    exact out_okb out s r.rel

/-! ### subscripts, slices -/
theorem atI_rel {K : PySem.W.Frag} {L : Addr → Prop} {H : Hp} {ps : List PyData} {vs : List V} {i : Int} {p : PyData} (r : RPs K L H ps vs) (e : atI ps i = some p) : ∃ v, atI vs i = some v ∧ RP K L H p v := by
  unfold atI at e ⊢
  rw [← r.length]
  cases z : ixN ps.length i with
  | none => rw [z] at e; cases e
  | some j =>
    rw [z] at e
    obtain ⟨v, h1, h2⟩ := r.get (i := j) (p := p) e
    exact ⟨v, h1, h2⟩
theorem s_ix (hs : PlainIx b) (ha : PE X a (tI X.K da)) (hb : PE X b (tI X.K db)) : PE X (.Subscript a b pos) (tI X.K fun e h => (da e h).bind fun x h => (db e h).bind fun y h => ixV x.settle y.settle h) := by
  refine PE.imp (pe_ix ix_seq ha hb hs) (tI_op fun A ρ0 h0 H0 ρ h H v w x y Q s rel rv rw out => ?_)
  unfold ixV at out
  split at out
  · cases rv_str rv; cases rv_int rw
    split at out
    · split at out
      · exact .inr (.inr ⟨_, _, _, rfl, rfl, by assumption, by assumption, out_oks out s rel⟩)
      · exact out.elim
    · exact out.elim
  · cases rv_int rw
    split at out
    · rename_i e1
      split at out
      · rename_i p e2
        obtain ⟨q, us, rfl, h1, h2⟩ := rv.seq rel e1
        obtain ⟨z, k1, k2⟩ := atI_rel h2 e2
        rcases h1 with ⟨h1, _⟩ | ⟨h1, _⟩
        · exact .inl ⟨q, us, _, z, rfl, rfl, h1, k1, Out.val out s rel k2⟩
        · exact .inr (.inl ⟨q, us, _, z, rfl, rfl, h1, k1, Out.val out s rel k2⟩)
      · exact out.elim
    · exact out.elim
  · exact out.elim

/-- a slice's part -/
def OutO (K : PySem.W.Frag) (A : Addr → Prop) (ρ : List Addr) (h : EH) (H : Hp) (r : R (Option Int)) (Q : Option Int → Hp → Prop) : Prop :=
  match r with
  | .ok v h' => ∀ ρ' H', Stp A ρ h H ρ' h' H' → Rel K A ρ' h' H' → Q v H'
  | _ => False
def tO (K : PySem.W.Frag) (d : EEnv → EH → R (Option Int)) : TO := fun σ H Q => ∃ A ρ h e, Rel K A ρ h H ∧ RE K ρ (LA A ρ h) H e σ ∧ OutO K A ρ h H (d e h) Q
theorem PO.imp {oe : Option Expr} {t t' : TO} (h : PO X oe t) (hi : ∀ σ H Q, t' σ H Q → t σ H Q) : PO X oe t' := ⟨fun pins s σ H Q I q => h.run pins s σ H Q I (hi σ H Q q)⟩
theorem s_partN : PO X none (tO X.K fun _ h => .ok none h) := by
  refine PO.imp po_none ?_
  rintro σ H Q ⟨A, ρ, h, e, rel, re, out⟩
  exact out ρ H Stp.refl rel
theorem s_part (ha : PE X a (tI X.K da)) : PO X (some a) (tO X.K fun e h => (da e h).bind fun x h => partV x h) := by
  refine PO.imp (po_some ha) ?_
  rintro σ H Q ⟨A, ρ, h, e, rel, re, out⟩
  refine ⟨A, ρ, h, e, rel, re, ?_⟩
  revert out
  show OutO X.K A ρ h H ((da e h).bind _) Q → _
  cases da e h with
  | ok v h1 =>
    intro out ρ1 x H1 s1 r1
    have out : OutO X.K A ρ h H (partV v h1) Q := out
    unfold partV at out
    split at out
    · cases rv_int r1.1
      exact ⟨_, rfl, out ρ1 H1 s1 r1.2⟩
    · exact out.elim
  | exc _ _ => intro out; exact out
  | bad => intro out; exact out
theorem cut_rel {K : PySem.W.Frag} {L : Addr → Prop} {H : Hp} {ps : List PyData} {vs : List V} {lo hi : Option Int} (r : RPs K L H ps vs) : RPs K L H (cutP ps lo hi) (cutV vs lo hi) := by
  unfold cutP cutV
  rw [← r.length]
  exact (r.drop _).take _
theorem cut_whole {ps : List PyData} {lo hi : Option Int} (h : HT.sIx ps.length 0 lo = 0 ∧ HT.sIx ps.length ps.length hi = ps.length) : cutP ps lo hi = ps := by
  unfold cutP
  rw [h.1, h.2]
  simp
theorem SlR.or3 {r r' : V → Option Int → Option Int → Hp → VK → Prop} (h : SlR X r) (h' : SlR X r') : SlR X (fun x lo hi H Q => r x lo hi H Q ∨ r' x lo hi H Q) := SlR.or h h'
theorem s_sl {lo hi : Option Expr} {dl dh : EEnv → EH → R (Option Int)} {p2 : Pos} (ha : PE X a (tI X.K da)) (hl : PO X lo (tO X.K dl)) (hh : PO X hi (tO X.K dh)) :
    PE X (.Subscript a (.Slice lo hi none p2) pos) (tI X.K fun e h => (da e h).bind fun x h => (dl e h).bind fun l h => (dh e h).bind fun u h => slV x.settle l u h) := by
  refine PE.imp (pe_slice (SlR.or (SlR.or sl_str sl_tupA) sl_list) ha hl hh) ?_
  rintro σ H Q ⟨A, ρ, h, e, rel, re, out⟩
  refine ⟨A, ρ, h, e, rel, re, ?_⟩
  revert out
  show Out X.K A ρ h H ((da e h).bind _) Q → _
  cases da e h with
  | exc _ _ => intro out; exact out
  | bad => intro out; exact out
  | ok v h1 =>
    intro out ρ1 x H1 s1 r1
    obtain ⟨rv1, rel1⟩ := r1.settle
    refine ⟨A, ρ1, h1, e, rel1, re.step s1, ?_⟩
    revert out
    show Out X.K A ρ h H ((dl e h1).bind _) Q → _
    cases dl e h1 with
    | exc _ _ => intro out; exact out
    | bad => intro out; exact out
    | ok l h2 =>
      intro out ρ2 H2 s2 rel2
      refine ⟨A, ρ2, h2, e, rel2, (re.step s1).step s2, ?_⟩
      revert out
      show Out X.K A ρ h H ((dh e h2).bind _) Q → _
      cases dh e h2 with
      | exc _ _ => intro out; exact out
      | bad => intro out; exact out
      | ok u h3 =>
        intro out ρ3 H3 s3 rel3
        have out : Out X.K A ρ h H (slV v.settle l u h3) Q := out
        have rv := (rv1.step s2).step s3
        have s := (s1.trans s2).trans s3
        revert out rv
        generalize v.settle = v'
        intro out rv
        unfold slV at out
        split at out
        · cases rv_str rv
          split at out
          · exact .inl (.inl ⟨_, rfl, by assumption, out_oks out s rel3⟩)
          · exact out.elim
        · obtain ⟨p, us, rfl, h4, h5⟩ := RP.seqT rv
          refine .inl (.inr ⟨p, us, rfl, h4, fun hw => ?_, fun _ q np => Out.newT out s rel3 (cut_rel h5) np⟩)
          rw [← h5.length] at hw
          rw [cut_whole hw] at out
          exact Out.val out s rel3 rv
        · obtain ⟨p, us, rfl, _, h4, h5⟩ := RP.seqL rv
          exact .inr ⟨p, us, rfl, .inl (.inl h4), fun q np => Out.newL out s rel3 (cut_rel h5) np⟩
        · exact rv.elim
        · obtain ⟨p, us, rfl, h4, h5⟩ := rv
          have : SqL X.K H3 p us := by
            rcases h4 with ⟨_, k⟩ | k
            · exact .inl k
            · exact .inr k
          exact .inr ⟨p, us, rfl, this, fun q np => Out.newL out s rel3 (cut_rel h5) np⟩
        · split at out
          · rename_i e1
            obtain ⟨p, rfl, k⟩ := rv
            obtain ⟨us, h4, h5⟩ := rel3.at e1 k
            exact .inr ⟨p, us, rfl, .inl (.inl h4), fun q np => Out.newL out s rel3 (cut_rel h5) np⟩
          · exact out.elim
        · exact out.elim
end
end G

set_option Elab.async false
set_option linter.all false
set_option maxRecDepth 100000
/-! GExp2: arguments, displays, calls, built-ins, tests. -/
namespace G
open PySem L2

def nst : Expr → Bool
  | .Starred _ _ => false
  | _ => true
def nsts : List Expr → Bool
  | [] => true
  | e :: es => nst e && nsts es
theorem star_cons {e : Expr} {es : List Expr} {env : Env} (h : nst e = true) : starEach (e :: es) env = (false, eval e env) :: starEach es env := by
  cases e <;> first | rfl | (simp [nst] at h)
theorem star_any {pos : Pos} {env : Env} : ∀ {es : List Expr}, nsts es = true → (backTo pos (starEach es env)).any (·.1) = false
  | [], _ => rfl
  | e :: es, h => by
    simp only [nsts, Bool.and_eq_true] at h
    rw [star_cons h.1]
    show (false || _) = false
    rw [Bool.false_or]
    exact star_any h.2
theorem star_all {pos : Pos} {env : Env} : ∀ {es : List Expr}, nsts es = true → (backTo pos (starEach es env)).all (fun x => !x.1) = true
  | [], _ => rfl
  | e :: es, h => by
    simp only [nsts, Bool.and_eq_true] at h
    rw [star_cons h.1]
    show (true && _) = true
    rw [Bool.true_and]
    exact star_all h.2

section
variable {K : PySem.W.Frag} {A : Addr → Prop} {ρ ρ1 : List Addr} {h h1 h2 : EH} {H H1 : Hp} {Q : VK}
theorem live_set {n : Nat} {a : Addr} (l : Live ρ (h.set n .dead) a) : Live ρ h a := by
  obtain ⟨i, o, e1, e2, e3⟩ := l
  by_cases c : n = i
  · subst c
    rw [List.getElem?_set_self'] at e2
    cases z : h[n]? with
    | none => rw [z] at e2; simp at e2
    | some o' => rw [z] at e2; simp at e2; exact absurd e2.symm e3
  · rw [List.getElem?_set_ne c] at e2
    exact ⟨i, o, e1, e2, e3⟩
theorem la_set {A : Addr → Prop} {n : Nat} {a : Addr} (l : LA A ρ (h.set n .dead) a) : LA A ρ h a := l.elim (fun z => .inl (live_set z)) .inr
theorem Rel.kill {A : Addr → Prop} {n : Nat} (r : Rel K A ρ h H) : Rel K A ρ (h.set n .dead) H := by
  refine ⟨by rw [List.length_set]; exact r.len, fun i j a o o' e1 e2 k1 k2 n1 n2 => ?_, fun i o a e1 e2 => ?_, r.adm, fun a z k => r.apart a z (live_set k)⟩
  · have g : ∀ {i : Nat} {o : EO}, (h.set n .dead)[i]? = some o → o ≠ EO.dead → h[i]? = some o := fun {i o} e c => by
      by_cases q : n = i
      · subst q
        rw [List.getElem?_set_self'] at e
        cases z : h[n]? with
        | none => rw [z] at e; simp at e
        | some o' => rw [z] at e; simp at e; exact absurd e.symm c
      · rw [List.getElem?_set_ne q] at e; exact e
    exact r.inj i j a o o' e1 e2 (g k1 n1) (g k2 n2) n1 n2
  · by_cases q : n = i
    · subst q
      rw [List.getElem?_set_self'] at e1
      cases z : h[n]? with
      | none => rw [z] at e1; simp at e1
      | some o' => rw [z] at e1; simp at e1; subst e1; trivial
    · rw [List.getElem?_set_ne q] at e1
      exact (r.obj i o a e1 e2).weak fun b z => la_set z
theorem Stp.kill {A : Addr → Prop} {n : Nat} : Stp A ρ h H ρ (h.set n .dead) H :=
  ⟨List.prefix_refl _, fun a o k e => ⟨fun z => k (la_set z), e⟩, (Stp.refl (A := A) (h := h) (H := H)).new, fun x o e => ⟨o, e⟩, fun _ _ _ e => e⟩
/-- a value that is kept as data -/
theorem data_ok {v : EV} {x : V} {p : PyData} (r : RR K A H ρ1 h1 H1 v x) (e : dataV v h1 = .ok p h2) : RP K (LA A ρ1 h2) H1 p x ∧ Rel K A ρ1 h2 H1 ∧ Stp A ρ1 h1 H1 ρ1 h2 H1 := by
  unfold dataV at e
  cases v with
  | pv q => simp [toP] at e; obtain ⟨rfl, rfl⟩ := e; exact ⟨r.1, r.2, Stp.refl⟩
  | tl xs => simp [toP] at e; obtain ⟨rfl, rfl⟩ := e; exact ⟨r.settle.1, r.settle.2, Stp.refl⟩
  | td _ => exact r.elim
  | fl _ => simp [toP] at e
  | ref n =>
    obtain ⟨⟨a, rfl, ha⟩, rel⟩ := r
    simp only [toP] at e
    cases z : h1[n]? with
    | none => rw [z] at e; simp at e
    | some o =>
      rw [z] at e
      cases o with
      | lst xs =>
        simp at e
        obtain ⟨rfl, rfl⟩ := e
        obtain ⟨vs, k1, k2⟩ := rel.at z ha
        refine ⟨.lst ?_ k1 (k2.weak fun b q => la_set q), rel.kill, Stp.kill⟩
        rintro (⟨i, o, e1, e2, e3⟩ | q)
        case inr => exact rel.apart a q ⟨n, _, ha, z, by simp⟩
        have c : n ≠ i := fun c => by
          subst c
          rw [List.getElem?_set_self', z] at e2
          simp at e2
          exact e3 e2.symm
        rw [List.getElem?_set_ne c] at e2
        exact c (rel.inj n i a _ o ha e1 z e2 (by simp) e3)
      | dct kvs => simp at e
      | ins _ _ => simp at e
      | dead => simp at e
  | fn _ => simp [toP] at e
end

section
variable {X : Cx} {pos : Pos} {a b c : Expr} {es : List Expr} {da db dc : EEnv → EH → R EV}

/-! ### arguments, displays -/
theorem s_args0 : PA X [] (tA X.K fun _ h => .ok [] h) := by
  refine PA.imp pa_nil ?_
  rintro σ H Q ⟨A, ρ, h, e, rel, re, out⟩
  exact out ρ [] H Stp.refl rel trivial
theorem s_args {ds : EEnv → EH → R (List EV)} (ns : nst a = true) (ha : PE X a (tI X.K da)) (hs : PA X es (tA X.K ds)) :
    PA X (a :: es) (tA X.K fun e h => (da e h).bind fun x h => (ds e h).bind fun xs h => .ok (x.settle :: xs) h) := by
  refine PA.imp (pa_cons ha hs (star_cons ns)) ?_
  rintro σ H Q ⟨A, ρ, h, e, rel, re, out⟩
  refine ⟨A, ρ, h, e, rel, re, ?_⟩
  revert out
  show OutA X.K A ρ h H ((da e h).bind _) Q → _
  cases da e h with
  | exc _ _ => intro out; exact out
  | bad => intro out; exact out
  | ok v h1 =>
    intro out ρ1 x H1 s1 r1
    obtain ⟨rv1, rel1⟩ := r1.settle
    refine ⟨A, ρ1, h1, e, rel1, re.step s1, ?_⟩
    revert out
    show OutA X.K A ρ h H ((ds e h1).bind _) Q → _
    cases ds e h1 with
    | exc _ _ => intro out; exact out
    | bad => intro out; exact out
    | ok vs h2 =>
      intro out ρ2 xs H2 s2 rel2 rvs
      exact out ρ2 (x :: xs) H2 (s1.trans s2) rel2 ⟨rv1.step s2, rvs⟩
theorem s_disp0 : PA X [] (tP X.K fun _ h => .ok [] h) := by
  refine PA.imp pa_nil ?_
  rintro σ H Q ⟨A, ρ, h, e, rel, re, out⟩
  exact out ρ [] H Stp.refl rel .nil
theorem s_disp {ds : EEnv → EH → R (List PyData)} (ns : nst a = true) (ha : PE X a (tI X.K da)) (hs : PA X es (tP X.K ds)) :
    PA X (a :: es) (tP X.K fun e h => (da e h).bind fun x h => (dataV x h).bind fun p h => (ds e h).bind fun ps h => .ok (p :: ps) h) := by
  refine PA.imp (pa_cons ha hs (star_cons ns)) ?_
  rintro σ H Q ⟨A, ρ, h, e, rel, re, out⟩
  refine ⟨A, ρ, h, e, rel, re, ?_⟩
  revert out
  show OutP X.K A ρ h H ((da e h).bind _) Q → _
  cases da e h with
  | exc _ _ => intro out; exact out
  | bad => intro out; exact out
  | ok v h1 =>
    intro out ρ1 x H1 s1 r1
    revert out
    show OutP X.K A ρ h H ((dataV v h1).bind _) Q → _
    cases ed : dataV v h1 with
    | exc _ _ => intro out; exact out.elim
    | bad => intro out; exact out.elim
    | ok p h1' =>
      obtain ⟨rp, rel1, s1'⟩ := data_ok r1 ed
      intro out
      have s1 := s1.trans s1'
      refine ⟨A, ρ1, h1', e, rel1, re.step s1, ?_⟩
      revert out
      show OutP X.K A ρ h H ((ds e h1').bind _) Q → _
      cases ds e h1' with
      | exc _ _ => intro out; exact out
      | bad => intro out; exact out
      | ok ps h2 =>
        intro out ρ2 xs H2 s2 rel2 rvs
        exact out ρ2 (x :: xs) H2 (s1.trans s2) rel2 (.cons (rp.step s2) rvs)
theorem s_tup {k : Nat} {ds : EEnv → EH → R (List PyData)} (hs : PA X es (tP X.K ds)) : PE X (.Tuple es k pos) (tI X.K fun e h => (ds e h).bind fun ps h => tupV ps h) := by
  refine PE.imp (pe_tup hs) ?_
  rintro σ H Q ⟨A, ρ, h, e, rel, re, out⟩
  refine ⟨A, ρ, h, e, rel, re, ?_⟩
  revert out
  show Out X.K A ρ h H ((ds e h).bind _) Q → _
  cases ds e h with
  | exc _ _ => intro out; exact out
  | bad => intro out; exact out
  | ok ps h1 =>
    intro out ρ1 xs H1 s1 rel1 r1
    have out : Out X.K A ρ h H (tupV ps h1) Q := out
    unfold tupV at out
    split at out
    · exact ⟨by rw [← r1.length]; assumption, fun p np => Out.newT out s1 rel1 r1 np⟩
    · exact out.elim
theorem s_lst {ds : EEnv → EH → R (List PyData)} (hs : PA X es (tP X.K ds)) : PE X (.List es pos) (tI X.K fun e h => (ds e h).bind fun ps h => newLV ps h) := by
  refine PE.imp (pe_lst hs) ?_
  rintro σ H Q ⟨A, ρ, h, e, rel, re, out⟩
  refine ⟨A, ρ, h, e, rel, re, ?_⟩
  revert out
  show Out X.K A ρ h H ((ds e h).bind _) Q → _
  cases ds e h with
  | exc _ _ => intro out; exact out
  | bad => intro out; exact out
  | ok ps h1 =>
    intro out ρ1 xs H1 s1 rel1 r1
    have out : Out X.K A ρ h H (newLV ps h1) Q := out
    unfold newLV at out
    split at out
    · exact ⟨by rw [← r1.length]; assumption, fun p np => Out.newL out s1 rel1 r1 np⟩
    · exact out.elim

/-! ### tests -/
theorem out_b {A : Addr → Prop} {ρ ρ1 : List Addr} {h h1 : EH} {H H1 : Hp} {K : PySem.W.Frag} {v : EV} {x : V} {Q : Bool → Hp → Prop} (s : Stp A ρ h H ρ1 h1 H1) (r : RR K A H ρ1 h1 H1 v x) (out : OutB K A ρ h H (asB v h1) Q) : ∃ c, x = .bl c ∧ Q c H1 := by
  unfold asB at out
  split at out
  · cases rv_bl r.1
    exact ⟨_, rfl, out ρ1 H1 s r.2⟩
  · exact out.elim
theorem t_val (ha : PE X a (tI X.K da)) (he : ∀ whole, isTrue a X.env whole = (do let v ← whole; standAt a.pos; holding [v] (truthy v))) : PT X a (tT X.K fun e h => (da e h).bind fun x h => asB x h) := by
  refine PT.imp (pt_val ha he) ?_
  rintro σ H Q ⟨A, ρ, h, e, rel, re, out⟩
  refine ⟨A, ρ, h, e, rel, re, ?_⟩
  revert out
  show OutB X.K A ρ h H ((da e h).bind _) Q → _
  cases da e h with
  | exc _ _ => intro out; exact out
  | bad => intro out; exact out
  | ok v h1 => intro out ρ1 x H1 s1 r1; exact out_b s1 r1 out
/-- a reading as a test, from one as a value -/
theorem tTest_of {d : EEnv → EH → R EV} {t : TE} (hi : ∀ σ H Q, tI X.K d σ H Q → t σ H Q) : ∀ σ H Q, tT X.K (fun e h => (d e h).bind fun x h => asB x h) σ H Q → tTest t σ H Q := by
  rintro σ H Q ⟨A, ρ, h, e, rel, re, out⟩
  refine hi σ H _ ⟨A, ρ, h, e, rel, re, ?_⟩
  revert out
  show OutB X.K A ρ h H ((d e h).bind _) Q → _
  cases d e h with
  | exc _ _ => intro out; exact out
  | bad => intro out; exact out
  | ok v h1 => intro out ρ1 x H1 s1 r1; exact out_b s1 r1 out
theorem tB_of {d : EEnv → EH → R EV} {t : TE} (hi : ∀ σ H Q, tI X.K d σ H Q → t σ H Q) : ∀ σ H Q, tT X.K (fun e h => (d e h).bind fun x h => asB x h) σ H Q → tB t σ H Q := tTest_of hi
theorem t_cmp {o : COp} (hu : X.A.units + 64 < cLine) (hm : behindInMarks o.py b = false) (ha : PE X a (tI X.K da)) (hb : PE X b (tI X.K db)) :
    PT X (.Compare a [o.py] [b] pos) (tT X.K fun e h => ((da e h).bind fun x h => (db e h).bind fun y h => cmpV o x.settle y.settle h).bind fun x h => asB x h) :=
  PT.imp (pt_cmpR (op_cmp hu o) ha hb hm) (tTest_of (tI_op fun _ _ _ _ _ _ _ _ _ _ _ _ s rel rv rw out => r_cmp s rel rv rw out))
theorem t_isN {j : Nat} {p2 : Pos} (ha : PE X a (tI X.K da)) : PT X (.Compare a [.Is] [.Constant .none j p2] pos) (tT X.K fun e h => ((da e h).bind fun x h => isNV id x h).bind fun x h => asB x h) := by
  refine PT.imp (pt_cmp (pc_isN ha)) (tB_of (tI_un (r := fun x H1 Q => Q (.bl (decide (x = .non))) H1) fun A ρ0 h0 H0 ρ h H v x Q s r out => ?_))
  rcases non_iff r with ⟨rfl, rfl⟩ | ⟨k, n⟩
  · exact out_okb out s r.rel
  · rw [k] at out
    have : decide (x = V.non) = false := decide_eq_false n
    rw [this]
    exact out_okb out s r.rel
theorem t_notN {j : Nat} {p2 : Pos} (ha : PE X a (tI X.K da)) : PT X (.Compare a [.IsNot] [.Constant .none j p2] pos) (tT X.K fun e h => ((da e h).bind fun x h => isNV not x h).bind fun x h => asB x h) := by
  refine PT.imp (pt_cmp (pc_notN ha)) (tB_of (tI_un (r := fun x H1 Q => Q (.bl (!decide (x = .non))) H1) fun A ρ0 h0 H0 ρ h H v x Q s r out => ?_))
  rcases non_iff r with ⟨rfl, rfl⟩ | ⟨k, n⟩
  · exact out_okb out s r.rel
  · rw [k] at out
    have : decide (x = V.non) = false := decide_eq_false n
    rw [this]
    exact out_okb out s r.rel
theorem OutB.weak {K : PySem.W.Frag} {A : Addr → Prop} {ρ ρ1 : List Addr} {h h1 : EH} {H H1 : Hp} {r : R Bool} {Q : Bool → Hp → Prop} (s : Stp A ρ h H ρ1 h1 H1) (o : OutB K A ρ h H r Q) : OutB K A ρ1 h1 H1 r Q := by
  cases r with
  | ok b h2 => intro ρ2 H2 s2 r2; exact o ρ2 H2 (s.trans s2) r2
  | exc _ _ => exact o
  | bad => exact o
theorem Out.weakS {K : PySem.W.Frag} {A : Addr → Prop} {ρ ρ1 : List Addr} {h h1 : EH} {H H1 : Hp} {r : R EV} {Q : VK} (s : Stp A ρ h H ρ1 h1 H1) (o : Out K A ρ h H r Q) : Out K A ρ1 h1 H1 r Q := by
  cases r with
  | ok v h2 =>
    intro ρ2 x H2 s2 r2
    refine o ρ2 x H2 (s.trans s2) ?_
    cases v with
    | tl xs =>
      obtain ⟨a, vs, k1, k2, k3⟩ := r2
      exact ⟨a, vs, k1, s.free k2, k3⟩
    | td _ => exact r2
    | pv _ => exact r2
    | fl _ => exact r2
    | ref _ => exact r2
    | fn _ => exact r2
  | exc _ _ => exact o
  | bad => exact o
variable {dt du : EEnv → EH → R Bool}
theorem t_not (ha : PT X a (tT X.K dt)) : PT X (.UnaryOp .Not a pos) (tT X.K fun e h => (dt e h).bind fun b h => .ok (!b) h) := by
  refine PT.imp (pt_not ha) ?_
  rintro σ H Q ⟨A, ρ, h, e, rel, re, out⟩
  refine ⟨A, ρ, h, e, rel, re, ?_⟩
  revert out
  show OutB X.K A ρ h H ((dt e h).bind _) Q → _
  cases dt e h with
  | exc _ _ => exact id
  | bad => exact id
  | ok b h1 => intro out ρ1 H1 s1 rel1; exact out ρ1 H1 s1 rel1
theorem t_and1 (ha : PT X a (tT X.K dt)) : PW X (.BoolOp .And [a] pos) (tT X.K dt) := pw_and1 ha
theorem t_or1 (ha : PT X a (tT X.K dt)) : PW X (.BoolOp .Or [a] pos) (tT X.K dt) := pw_or1 ha
theorem t_and (ha : PT X a (tT X.K dt)) (hb : PW X (.BoolOp .And (b :: es) pos) (tT X.K du)) : PW X (.BoolOp .And (a :: b :: es) pos) (tT X.K fun e h => (dt e h).bind fun t h => if t = true then du e h else .ok false h) := by
  refine PW.imp (pw_and ha hb) ?_
  rintro σ H Q ⟨A, ρ, h, e, rel, re, out⟩
  refine ⟨A, ρ, h, e, rel, re, ?_⟩
  revert out
  show OutB X.K A ρ h H ((dt e h).bind _) Q → _
  cases dt e h with
  | exc _ _ => exact id
  | bad => exact id
  | ok t h1 =>
    intro out ρ1 H1 s1 rel1
    cases t with
    | true =>
      rw [if_pos rfl]
      exact ⟨A, ρ1, h1, e, rel1, re.step s1, OutB.weak s1 out⟩
    | false =>
      rw [if_neg (by decide)]
      exact out ρ1 H1 s1 rel1
theorem t_or (ha : PT X a (tT X.K dt)) (hb : PW X (.BoolOp .Or (b :: es) pos) (tT X.K du)) : PW X (.BoolOp .Or (a :: b :: es) pos) (tT X.K fun e h => (dt e h).bind fun t h => if t = true then .ok true h else du e h) := by
  refine PW.imp (pw_or ha hb) ?_
  rintro σ H Q ⟨A, ρ, h, e, rel, re, out⟩
  refine ⟨A, ρ, h, e, rel, re, ?_⟩
  revert out
  show OutB X.K A ρ h H ((dt e h).bind _) Q → _
  cases dt e h with
  | exc _ _ => exact id
  | bad => exact id
  | ok t h1 =>
    intro out ρ1 H1 s1 rel1
    cases t with
    | true =>
      rw [if_pos rfl]
      exact out ρ1 H1 s1 rel1
    | false =>
      rw [if_neg (by decide)]
      exact ⟨A, ρ1, h1, e, rel1, re.step s1, OutB.weak s1 out⟩

/-! ### and, or, chains, choices as values -/
theorem asB_bl {K : PySem.W.Frag} {A : Addr → Prop} {ρ ρ1 : List Addr} {h h1 : EH} {H H1 : Hp} {Q : VK} {v : EV} {x : V} {f : Bool → EH → R EV} (r : RR K A H ρ1 h1 H1 v x) (out : Out K A ρ h H ((asB v h1).bind f) Q) : ∃ c, v = .pv (.bool c) ∧ x = .bl c ∧ Out K A ρ h H (f c h1) Q := by
  unfold asB at out
  split at out
  · cases rv_bl r.1
    exact ⟨_, rfl, rfl, out⟩
  · exact out.elim
theorem s_and (ha : PE X a (tI X.K da)) (hb : PE X (.BoolOp .And (b :: es) pos) (tI X.K db)) :
    PE X (.BoolOp .And (a :: b :: es) pos) (tI X.K fun e h => (da e h).bind fun x h => (asB x h).bind fun t h => if t = true then db e h else okb false h) := by
  refine PE.imp (pe_and ha hb) ?_
  rintro σ H Q ⟨A, ρ, h, e, rel, re, out⟩
  refine ⟨A, ρ, h, e, rel, re, ?_⟩
  revert out
  show Out X.K A ρ h H ((da e h).bind _) Q → _
  cases da e h with
  | exc _ _ => exact id
  | bad => exact id
  | ok v h1 =>
    intro out ρ1 x H1 s1 r1
    obtain ⟨c, rfl, rfl, out⟩ := asB_bl r1 out
    refine ⟨c, rfl, ?_⟩
    cases c with
    | true =>
      rw [if_pos rfl] at out ⊢
      exact ⟨A, ρ1, h1, e, r1.rel, re.step s1, Out.weakS s1 out⟩
    | false =>
      rw [if_neg (by decide)] at out ⊢
      exact out_okb out s1 r1.rel
theorem s_or (ha : PE X a (tI X.K da)) (hb : PE X (.BoolOp .Or (b :: es) pos) (tI X.K db)) :
    PE X (.BoolOp .Or (a :: b :: es) pos) (tI X.K fun e h => (da e h).bind fun x h => (asB x h).bind fun t h => if t = true then okb true h else db e h) := by
  refine PE.imp (pe_or ha hb) ?_
  rintro σ H Q ⟨A, ρ, h, e, rel, re, out⟩
  refine ⟨A, ρ, h, e, rel, re, ?_⟩
  revert out
  show Out X.K A ρ h H ((da e h).bind _) Q → _
  cases da e h with
  | exc _ _ => exact id
  | bad => exact id
  | ok v h1 =>
    intro out ρ1 x H1 s1 r1
    obtain ⟨c, rfl, rfl, out⟩ := asB_bl r1 out
    refine ⟨c, rfl, ?_⟩
    cases c with
    | true =>
      rw [if_pos rfl] at out ⊢
      exact out_okb out s1 r1.rel
    | false =>
      rw [if_neg (by decide)] at out ⊢
      exact ⟨A, ρ1, h1, e, r1.rel, re.step s1, Out.weakS s1 out⟩
theorem s_ife (hc : PT X c (tT X.K fun e h => (dc e h).bind fun x h => asB x h)) (ha : PE X a (tI X.K da)) (hb : PE X b (tI X.K db)) :
    PE X (.IfExp c a b pos) (tI X.K fun e h => (dc e h).bind fun x h => (asB x h).bind fun t h => if t = true then da e h else db e h) := by
  refine PE.imp (pe_ifExp hc ha hb) ?_
  rintro σ H Q ⟨A, ρ, h, e, rel, re, out⟩
  refine ⟨A, ρ, h, e, rel, re, ?_⟩
  revert out
  show Out X.K A ρ h H ((dc e h).bind _) Q → OutB X.K A ρ h H ((dc e h).bind _) _
  cases dc e h with
  | exc _ _ => exact id
  | bad => exact id
  | ok v h1 =>
    show Out X.K A ρ h H ((asB v h1).bind _) Q → OutB X.K A ρ h H (asB v h1) _
    unfold asB
    split
    · rename_i t
      intro out ρ1 H1 s1 rel1
      have out : Out X.K A ρ h H (if t = true then da e h1 else db e h1) Q := out
      cases t with
      | true =>
        rw [if_pos rfl] at out ⊢
        exact ⟨A, ρ1, h1, e, rel1, re.step s1, Out.weakS s1 out⟩
      | false =>
        rw [if_neg (by decide)] at out ⊢
        exact ⟨A, ρ1, h1, e, rel1, re.step s1, Out.weakS s1 out⟩
    · exact id
theorem i_chain {o p : COp} : ∀ σ H Q, tI X.K (fun e h => (da e h).bind fun x h => (db e h).bind fun y h => (cmpV o x.settle y.settle h).bind fun z h => (asB z h).bind fun t h =>
      if t = true then (dc e h).bind fun w h => cmpV p y.settle w.settle h else okb false h) σ H Q → tChain (rCmp X.K o) (rCmp X.K p) (tI X.K da) (tI X.K db) (tI X.K dc) σ H Q := by
  rintro σ H Q ⟨A, ρ, h, e, rel, re, out⟩
  refine ⟨A, ρ, h, e, rel, re, ?_⟩
  revert out
  show Out X.K A ρ h H ((da e h).bind _) Q → _
  cases da e h with
  | exc _ _ => exact id
  | bad => exact id
  | ok v h1 =>
    intro out ρ1 x H1 s1 r1
    obtain ⟨rv1, rel1⟩ := r1.settle
    refine ⟨A, ρ1, h1, e, rel1, re.step s1, ?_⟩
    revert out
    show Out X.K A ρ h H ((db e h1).bind _) Q → _
    cases db e h1 with
    | exc _ _ => exact id
    | bad => exact id
    | ok w h2 =>
      intro out ρ2 y H2 s2 r2
      obtain ⟨rv2, rel2⟩ := r2.settle
      have out : Out X.K A ρ h H ((cmpV o v.settle w.settle h2).bind _) Q := out
      have rv1 := rv1.step s2
      refine r_cmp (ρ0 := ρ2) (h0 := h2) (H0 := H2) Stp.refl rel2 rv1 rv2 ?_
      rcases cmpV_b (o := o) (v := v.settle) (w := w.settle) (h := h2) with ⟨t, et⟩ | et
      · rw [et] at out ⊢
        intro ρ3 z H3 s3 r3
        cases rv_bl r3.1
        refine ⟨t, rfl, ?_⟩
        have out : Out X.K A ρ h H (if t = true then (dc e h2).bind fun u h => cmpV p w.settle u.settle h else okb false h2) Q := out
        cases t with
        | true =>
          rw [if_pos rfl] at out ⊢
          have s := (s1.trans s2).trans s3
          refine ⟨A, ρ3, h2, e, r3.2, re.step s, ?_⟩
          revert out
          cases dc e h2 with
          | exc _ _ => exact id
          | bad => exact id
          | ok u h4 =>
            intro out ρ4 q H4 s4 r4
            obtain ⟨rv4, rel4⟩ := r4.settle
            exact r_cmp (s.trans s4) rel4 ((rv2.step s3).step s4) rv4 out
        | false =>
          rw [if_neg (by decide)] at out ⊢
          exact out_okb out ((s1.trans s2).trans s3) r3.2
      · rw [et] at out
        exact out.elim
theorem lastMarks2 {o p : CmpOp} {b c : Expr} (h : behindInMarks p c = false) : lastMarks [o, p] [b, c] = false := h
theorem s_chain {o p : COp} (hu : X.A.units + 64 < cLine) (hm : behindInMarks p.py c = false) (ha : PE X a (tI X.K da)) (hb : PE X b (tI X.K db)) (hc : PE X c (tI X.K dc)) :
    PE X (.Compare a [o.py, p.py] [b, c] pos) (tI X.K fun e h => (da e h).bind fun x h => (db e h).bind fun y h => (cmpV o x.settle y.settle h).bind fun z h => (asB z h).bind fun t h =>
      if t = true then (dc e h).bind fun w h => cmpV p y.settle w.settle h else okb false h) :=
  PE.imp (pe_chain (op_cmp hu o) (op_cmp hu p) ha hb hc (lastMarks2 hm)) i_chain
theorem t_chain {o p : COp} (hu : X.A.units + 64 < cLine) (hm : behindInMarks p.py c = false) (ha : PE X a (tI X.K da)) (hb : PE X b (tI X.K db)) (hc : PE X c (tI X.K dc)) :
    PT X (.Compare a [o.py, p.py] [b, c] pos) (tT X.K fun e h => ((da e h).bind fun x h => (db e h).bind fun y h => (cmpV o x.settle y.settle h).bind fun z h => (asB z h).bind fun t h =>
      if t = true then (dc e h).bind fun w h => cmpV p y.settle w.settle h else okb false h).bind fun x h => asB x h) :=
  PT.imp (pt_chain (op_cmp hu o) (op_cmp hu p) ha hb hc (lastMarks2 hm)) (tTest_of i_chain)
end
end G

set_option Elab.async false
set_option linter.all false
set_option maxRecDepth 100000
/-! GExp3: built-ins, methods, isinstance, calls of defs. -/
namespace G
open PySem L2

section
variable {K : PySem.W.Frag} {A : Addr → Prop} {ρ ρ1 : List Addr} {h h1 h2 : EH} {H H1 : Hp} {Q : VK}
/-- a list is written -/
theorem live_put {n : Nat} {xs ys : List PyData} {a : Addr} (e : h[n]? = some (.lst xs)) : Live ρ (h.set n (.lst ys)) a ↔ Live ρ h a := by
  constructor
  · rintro ⟨i, o, e1, e2, e3⟩
    by_cases c : n = i
    · subst c
      exact ⟨n, _, e1, e, by simp⟩
    · rw [List.getElem?_set_ne c] at e2
      exact ⟨i, o, e1, e2, e3⟩
  · rintro ⟨i, o, e1, e2, e3⟩
    by_cases c : n = i
    · subst c
      exact ⟨n, .lst ys, e1, by rw [List.getElem?_set_self', e]; rfl, by simp⟩
    · exact ⟨i, o, e1, by rw [List.getElem?_set_ne c]; exact e2, e3⟩
theorem la_put {n : Nat} {xs ys : List PyData} {a : Addr} (e : h[n]? = some (.lst xs)) (l : LA A ρ (h.set n (.lst ys)) a) : LA A ρ h a := l.elim (fun z => .inl ((live_put e).mp z)) .inr
theorem put_ok {n : Nat} {xs ys : List PyData} {us ws : List V} {a : Addr} (r : Rel K A ρ h H) (e : h[n]? = some (.lst xs)) (ea : ρ[n]? = some a) (hH : H a = some (.lst us)) (q : RPs K (LA A ρ h) H ys ws) :
    Rel K A ρ (h.set n (.lst ys)) (upd H a (.lst ws)) ∧ Stp A ρ h H ρ (h.set n (.lst ys)) (upd H a (.lst ws)) := by
  have la : Live ρ h a := ⟨n, _, ea, e, by simp⟩
  have ext : Ext (LA A ρ h) H (LA A ρ h) (upd H a (.lst ws)) := fun b o k e' => ⟨k, by rw [upd_ne (fun z => k (by rw [z]; exact .inl la))]; exact e'⟩
  have get : ∀ {i : Nat} {o : EO}, (h.set n (.lst ys))[i]? = some o → (i = n ∧ o = .lst ys) ∨ (i ≠ n ∧ h[i]? = some o) := fun {i o} k => by
    by_cases c : n = i
    · subst c
      rw [List.getElem?_set_self', e] at k
      simp at k
      exact .inl ⟨rfl, k.symm⟩
    · rw [List.getElem?_set_ne c] at k
      exact .inr ⟨fun z => c z.symm, k⟩
  have nA : ∀ b, A b → b ≠ a := fun b z c => r.apart b z (c ▸ la)
  refine ⟨⟨by rw [List.length_set]; exact r.len, fun i j b o o' e1 e2 k1 k2 n1 n2 => ?_, fun i o b e1 e2 => ?_, fun b z => ?_, fun b z k => r.apart b z ((live_put e).mp k)⟩,
    List.prefix_refl _, fun b o k e' => ⟨fun z => k (la_put e z), ?_⟩, (Stp.refl (A := A) (h := h) (H := H)).new, fun b o e' => ?_, fun b o z e' => by rw [upd_ne (nA b z)]; exact e'⟩
  · rcases get k1 with ⟨q1, _⟩ | ⟨c1, q1⟩ <;> rcases get k2 with ⟨q2, _⟩ | ⟨c2, q2⟩
    · rw [q1, q2]
    · subst q1; exact r.inj i j b _ o' e1 e2 e q2 (by simp) n2
    · subst q2; exact r.inj i j b o _ e1 e2 q1 e n1 (by simp)
    · exact r.inj i j b o o' e1 e2 q1 q2 n1 n2
  · rcases get e1 with ⟨rfl, rfl⟩ | ⟨c, e1⟩
    · rw [ea] at e2
      cases e2
      exact ⟨ws, upd_same, RPs.weak (RPs.mono ext _ _ q) fun b z => la_put e z⟩
    · cases o with
      | dead => trivial
      | dct zs =>
        obtain ⟨vs, h3, h0, h4⟩ := r.obj i _ b e1 e2
        have nab : b ≠ a := fun z => c (r.inj i n b _ _ e2 (by rw [z]; exact ea) e1 e (by simp) (by simp))
        exact ⟨vs, by rw [upd_ne nab]; exact h3, h0, RPs.weak (RPs.mono ext _ _ h4) fun b z => la_put e z⟩
      | ins _ _ => exact r.obj i _ b e1 e2
      | lst zs =>
        obtain ⟨vs, h3, h4⟩ := r.obj i _ b e1 e2
        have nab : b ≠ a := fun z => c (r.inj i n b _ _ e2 (by rw [z]; exact ea) e1 e (by simp) (by simp))
        exact ⟨vs, by rw [upd_ne nab]; exact h3, RPs.weak (RPs.mono ext _ _ h4) fun b z => la_put e z⟩
  · obtain ⟨o, k⟩ := r.adm b z
    exact ⟨o, by rw [upd_ne (nA b z)]; exact k⟩
  · rw [upd_ne (fun z => k (by rw [z]; exact .inl la))]; exact e'
  · by_cases c : b = a
    · subst c; exact ⟨_, upd_same⟩
    · exact ⟨o, by rw [upd_ne c]; exact e'⟩
end

section
variable {X : Cx} {pos p apos : Pos} {a b c : Expr} {es : List Expr} {da db dc : EEnv → EH → R EV} {ds : EEnv → EH → R (List EV)}
def BI.name : BI → Str
  | .len => "len" | .int => "int" | .str => "str" | .list => "list" | .tuple => "tuple" | .all => "all" | .max2 => "max" | .min2 => "min" | .maxl => "max" | .sum => "sum"
theorem tI_bi {f : List EV → EH → R EV} {r : List V → Hp → VK → Prop}
    (hr : ∀ (A : Addr → Prop) (ρ0 : List Addr) (h0 : EH) (H0 : Hp) (ρ : List Addr) (h : EH) (H : Hp) (vs : List EV) (xs : List V) (Q : VK), Stp A ρ0 h0 H0 ρ h H → Rel X.K A ρ h H → RVs X.K ρ (LA A ρ h) H vs xs → Out X.K A ρ0 h0 H0 (f vs h) Q → r xs H Q) :
    ∀ σ H Q, tI X.K (fun e h => (ds e h).bind fun vs h => f vs h) σ H Q → tCB r (tA X.K ds) σ H Q := by
  rintro σ H Q ⟨A, ρ, h, e, rel, re, out⟩
  refine ⟨A, ρ, h, e, rel, re, ?_⟩
  revert out
  show Out X.K A ρ h H ((ds e h).bind _) Q → _
  cases ds e h with
  | exc _ _ => exact id
  | bad => exact id
  | ok vs h1 => intro out ρ1 xs H1 s1 rel1 r1; exact hr A ρ h H ρ1 h1 H1 vs xs Q s1 rel1 r1 out
theorem rvs1 {K : PySem.W.Frag} {ρ : List Addr} {L : Addr → Prop} {H : Hp} {v : EV} {xs : List V} (r : RVs K ρ L H [v] xs) : ∃ x, xs = [x] ∧ RV K ρ L H v x := by
  match xs, r with
  | [x], r => exact ⟨x, rfl, r.1⟩
theorem rvs2 {K : PySem.W.Frag} {ρ : List Addr} {L : Addr → Prop} {H : Hp} {v w : EV} {xs : List V} (r : RVs K ρ L H [v, w] xs) : ∃ x y, xs = [x, y] ∧ RV K ρ L H v x ∧ RV K ρ L H w y := by
  match xs, r with
  | [x, y], r => exact ⟨x, y, rfl, r.1, r.2.1⟩
theorem rvs0 {K : PySem.W.Frag} {ρ : List Addr} {L : Addr → Prop} {H : Hp} {xs : List V} (r : RVs K ρ L H [] xs) : xs = [] := by
  match xs, r with
  | [], _ => rfl
theorem maxL_mem : ∀ {ns : List Int}, 0 < ns.length → maxL ns ∈ ns
  | [x], _ => by simp [maxL]
  | x :: y :: r, _ => by
    have ih := maxL_mem (ns := y :: r) (by simp)
    show max x (maxL (y :: r)) ∈ _
    rcases Int.le_total x (maxL (y :: r)) with q | q
    · rw [Int.max_eq_right q]; exact List.mem_cons_of_mem _ ih
    · rw [Int.max_eq_left q]; exact List.mem_cons_self
theorem maxL_le : ∀ {ns : List Int}, ∀ y ∈ ns, y ≤ maxL ns
  | [x], y, h => by simp at h; subst h; exact Int.le_refl _
  | x :: z :: r, y, h => by
    show y ≤ max x (maxL (z :: r))
    rcases List.mem_cons.mp h with rfl | h
    · exact Int.le_max_left _ _
    · exact Int.le_trans (maxL_le y h) (Int.le_max_right _ _)
theorem maxL_uniq {ns : List Int} {m : Int} (h : m ∈ ns) (hm : ∀ y ∈ ns, y ≤ m) : maxL ns = m :=
  Int.le_antisymm (hm _ (maxL_mem (List.length_pos_of_mem h))) (maxL_le m h)
theorem gl_of {x : Str} (h : X.env.scope.names.lookup x = some .globalImplicit) : Gl X x := h

theorem s_bi {B : BI} (hc : X.calm = true) (hg : X.env.scope.names.lookup B.name = some .globalImplicit) (hm : X.mg B.name = none) (ns : nsts (a :: es) = true) (hs : PA X (a :: es) (tA X.K ds)) :
    PE X (.Call (.Name B.name p) (a :: es) [] pos) (tI X.K fun e h => (ds e h).bind fun vs h => biV B vs h) := by
  have ns' := ns
  simp only [nsts, Bool.and_eq_true] at ns'
  have st := star_cons (es := es) (env := X.env) ns'.1
  have pl := star_any (pos := pos) (env := X.env) ns'.2
  cases B with
  | len =>
    refine PE.imp (pe_callB call_len (gl_of hg) hm PySem.boot_len hs (by decide) (by decide) st pl) (tI_bi fun A ρ0 h0 H0 ρ h H vs xs Q s rel rv out => ?_)
    simp only [biV] at out
    unfold lenV at out
    split at out
    · obtain ⟨x, rfl, rx⟩ := rvs1 rv
      cases rv_str rx
      split at out
      · exact ⟨_, _, rfl, ⟨by assumption, rfl⟩, out_oki out s rel⟩
      · exact out.elim
    · split at out
      · rename_i ys e1
        obtain ⟨x, rfl, rx⟩ := rvs1 rv
        obtain ⟨q, us, rfl, h1, h2⟩ := rx.seq rel e1
        refine ⟨_, _, rfl, h1.elim (fun k => .inl ⟨us, k.1, rfl⟩) (fun k => .inr ⟨us, k.1, rfl⟩), ?_⟩
        rw [← h2.length]
        exact out_oki out s rel
      · exact out.elim
    · exact out.elim
  | int =>
    refine PE.imp (pe_callTy (CallR.or call_int1 call_int_str) (gl_of hg) hm (by decide +kernel) hs (by decide) (by decide) st pl) (tI_bi fun A ρ0 h0 H0 ρ h H vs xs Q s rel rv out => ?_)
    simp only [biV] at out
    unfold intV at out
    split at out
    · obtain ⟨x, rfl, rx⟩ := rvs1 rv
      cases rv_int rx
      exact .inl (.inl ⟨_, rfl, out_oki out s rel⟩)
    · obtain ⟨x, rfl, rx⟩ := rvs1 rv
      cases rv_bl rx
      exact .inl (.inr ⟨_, rfl, out_oki out s rel⟩)
    · obtain ⟨x, rfl, rx⟩ := rvs1 rv
      cases rv_str rx
      split at out
      · split at out
        · exact .inr ⟨_, _, rfl, by assumption, by assumption, out_oki out s rel⟩
        · exact out.elim
      · exact out.elim
    · exact out.elim
  | str =>
    refine PE.imp (pe_callTy (CallR.or call_str_int SkE.call_str_str) (gl_of hg) hm (by decide +kernel) hs (by decide) (by decide) st pl) (tI_bi fun A ρ0 h0 H0 ρ h H vs xs Q s rel rv out => ?_)
    simp only [biV] at out
    unfold strV at out
    split at out
    · obtain ⟨x, rfl, rx⟩ := rvs1 rv
      cases rv_int rx
      split at out
      · exact .inl ⟨_, rfl, by assumption, out_oks out s rel⟩
      · exact out.elim
    · obtain ⟨x, rfl, rx⟩ := rvs1 rv
      cases rv_str rx
      exact .inr ⟨_, rfl, out_oks out s rel⟩
    · exact out.elim
  | list =>
    refine PE.imp (pe_callTy call_list_of (gl_of hg) hm (by decide +kernel) hs (by decide) (by decide) st pl) (tI_bi fun A ρ0 h0 H0 ρ h H vs xs Q s rel rv out => ?_)
    simp only [biV] at out
    unfold listV at out
    split at out
    · split at out
      · rename_i ys e1
        obtain ⟨x, rfl, rx⟩ := rvs1 rv
        obtain ⟨q, us, rfl, h1, h2⟩ := rx.seq rel e1
        exact ⟨_, us, rfl, h1.elim (fun k => .inl k.1) (fun k => .inr k.1), fun l nl => Out.newL out s rel h2 nl⟩
      · exact out.elim
    · exact out.elim
  | tuple =>
    refine PE.imp (pe_callTy call_tuple_of (gl_of hg) hm (by decide +kernel) hs (by decide) (by decide) st pl) (tI_bi fun A ρ0 h0 H0 ρ h H vs xs Q s rel rv out => ?_)
    simp only [biV] at out
    unfold tupleV at out
    split at out
    · split at out
      · rename_i ys e1
        obtain ⟨x, rfl, rx⟩ := rvs1 rv
        obtain ⟨q, us, rfl, h1, h2⟩ := rx.seq rel e1
        rcases h1 with ⟨k, _⟩ | ⟨k, e2⟩
        · exact ⟨_, us, rfl, .inl ⟨k, fun l nl => Out.newT out s rel h2 nl⟩⟩
        · subst e2
          exact ⟨_, us, rfl, .inr ⟨k, Out.val out s rel rx⟩⟩
      · exact out.elim
    · exact out.elim
  | all =>
    refine PE.imp (pe_callB (cr_all hc) (gl_of hg) hm (by decide +kernel) hs (by decide) (by decide) st pl) (tI_bi fun A ρ0 h0 H0 ρ h H vs xs Q s rel rv out => ?_)
    simp only [biV] at out
    unfold allV at out
    split at out
    · split at out
      · rename_i ys e1
        split at out
        · rename_i b e2
          obtain ⟨x, rfl, rx⟩ := rvs1 rv
          obtain ⟨q, us, rfl, h1, h2⟩ := rx.lst rel e1
          obtain ⟨bs, rfl, h3⟩ := h2.bools e2
          refine ⟨q, bs, rfl, .inl (.inl h1), ?_⟩
          rw [h3]
          exact out_okb out s rel
        · exact out.elim
      · exact out.elim
    · exact out.elim
  | max2 =>
    refine PE.imp (pe_callB (call_max2 hc) (gl_of hg) hm (by decide +kernel) hs (by decide) (by decide) st pl) (tI_bi fun A ρ0 h0 H0 ρ h H vs xs Q s rel rv out => ?_)
    simp only [biV] at out
    unfold int2V at out
    split at out
    · obtain ⟨x, y, rfl, rx, ry⟩ := rvs2 rv
      cases rv_int rx; cases rv_int ry
      exact ⟨_, _, rfl, out_oki out s rel⟩
    · exact out.elim
  | min2 =>
    refine PE.imp (pe_callB (call_min2 hc) (gl_of hg) hm (by decide +kernel) hs (by decide) (by decide) st pl) (tI_bi fun A ρ0 h0 H0 ρ h H vs xs Q s rel rv out => ?_)
    simp only [biV] at out
    unfold int2V at out
    split at out
    · obtain ⟨x, y, rfl, rx, ry⟩ := rvs2 rv
      cases rv_int rx; cases rv_int ry
      exact ⟨_, _, rfl, out_oki out s rel⟩
    · exact out.elim
  | maxl =>
    refine PE.imp (pe_callB (cr_max hc) (gl_of hg) hm (by decide +kernel) hs (by decide) (by decide) st pl) (tI_bi fun A ρ0 h0 H0 ρ h H vs xs Q s rel rv out => ?_)
    simp only [biV] at out
    unfold maxlV at out
    split at out
    · split at out
      · rename_i ys e1
        split at out
        · rename_i ns e2
          split at out
          · obtain ⟨x, rfl, rx⟩ := rvs1 rv
            obtain ⟨q, us, rfl, h1, h2⟩ := rx.lst rel e1
            cases h2.ints e2
            refine ⟨q, ns, rfl, .inl (.inl h1), by assumption, fun m k1 k2 => ?_⟩
            rw [← maxL_uniq k1 k2]
            exact out_oki out s rel
          · exact out.elim
        · exact out.elim
      · exact out.elim
    · exact out.elim
  | sum =>
    refine PE.imp (pe_callB (cr_sum hc) (gl_of hg) hm (by decide +kernel) hs (by decide) (by decide) st pl) (tI_bi fun A ρ0 h0 H0 ρ h H vs xs Q s rel rv out => ?_)
    simp only [biV] at out
    unfold sumV at out
    split at out
    · split at out
      · rename_i ys e1
        split at out
        · rename_i ns e2
          obtain ⟨x, rfl, rx⟩ := rvs1 rv
          obtain ⟨q, us, rfl, h1, h2⟩ := rx.lst rel e1
          cases h2.ints e2
          exact ⟨q, ns, rfl, .inl (.inl h1), out_oki out s rel⟩
        · exact out.elim
      · exact out.elim
    · exact out.elim

/-! ### methods of built-in types -/
def BM.name : BM → Str
  | .append => "append" | .extend => "extend" | .join => "join" | .split => "split"
def BM0.name : BM0 → Str
  | .upper => "upper" | .pop => "pop" | .clear => "clear"
theorem strs_rps {K : PySem.W.Frag} {L : Addr → Prop} {H : Hp} : ∀ l : List Str, RPs K L H (l.map .str) (l.map V.str)
  | [] => .nil
  | x :: l => .cons (.str x) (strs_rps l)
theorem tI_bm {T : String} {g : EV → EH → Bool} {f : EV → List EV → EH → R EV} {r : V → List V → Hp → VK → Prop}
    (ht : ∀ (A : Addr → Prop) (ρ : List Addr) (h : EH) (H : Hp) (v : EV) (x : V), Rel X.K A ρ h H → RV X.K ρ (LA A ρ h) H v x → g v h = true → tyV X.K T x H)
    (hr : ∀ (A : Addr → Prop) (ρ0 : List Addr) (h0 : EH) (H0 : Hp) (ρ : List Addr) (h : EH) (H : Hp) (v : EV) (x : V) (vs : List EV) (xs : List V) (Q : VK), Stp A ρ0 h0 H0 ρ h H → Rel X.K A ρ h H → RV X.K ρ (LA A ρ h) H v x → RVs X.K ρ (LA A ρ h) H vs xs → Out X.K A ρ0 h0 H0 (f v vs h) Q → r x xs H Q) :
    ∀ σ H Q, tI X.K (fun e h => (da e h).bind fun x h => if g x.settle h = true then (ds e h).bind fun vs h => f x.settle vs h else .bad) σ H Q → tBM X.K T r (tI X.K da) (tA X.K ds) σ H Q := by
  rintro σ H Q ⟨A, ρ, h, e, rel, re, out⟩
  refine ⟨A, ρ, h, e, rel, re, ?_⟩
  revert out
  show Out X.K A ρ h H ((da e h).bind _) Q → _
  cases da e h with
  | exc _ _ => exact id
  | bad => exact id
  | ok v h1 =>
    intro out ρ1 x H1 s1 r1
    obtain ⟨rv1, rel1⟩ := r1.settle
    have out : Out X.K A ρ h H (if g v.settle h1 = true then (ds e h1).bind fun vs h => f v.settle vs h else .bad) Q := out
    split at out
    · rename_i hg
      refine ⟨ht A ρ1 h1 H1 v.settle x rel1 rv1 hg, A, ρ1, h1, e, rel1, re.step s1, ?_⟩
      revert out
      cases ds e h1 with
      | exc _ _ => exact id
      | bad => exact id
      | ok vs h2 =>
        intro out ρ2 xs H2 s2 rel2 r2
        exact hr A ρ h H ρ2 h2 H2 v.settle x vs xs Q (s1.trans s2) rel2 (rv1.step s2) r2 out
    · exact out.elim
theorem tI_bm0 {T : String} {g : EV → EH → Bool} {f : EV → List EV → EH → R EV} {r : V → List V → Hp → VK → Prop}
    (ht : ∀ (A : Addr → Prop) (ρ : List Addr) (h : EH) (H : Hp) (v : EV) (x : V), Rel X.K A ρ h H → RV X.K ρ (LA A ρ h) H v x → g v h = true → tyV X.K T x H)
    (hr : ∀ (A : Addr → Prop) (ρ0 : List Addr) (h0 : EH) (H0 : Hp) (ρ : List Addr) (h : EH) (H : Hp) (v : EV) (x : V) (vs : List EV) (xs : List V) (Q : VK), Stp A ρ0 h0 H0 ρ h H → Rel X.K A ρ h H → RV X.K ρ (LA A ρ h) H v x → RVs X.K ρ (LA A ρ h) H vs xs → Out X.K A ρ0 h0 H0 (f v vs h) Q → r x xs H Q) :
    ∀ σ H Q, tI X.K (fun e h => (da e h).bind fun x h => if g x.settle h = true then ((R.ok [] h : R (List EV))).bind fun vs h => f x.settle vs h else .bad) σ H Q → tBM0 X.K T r (tI X.K da) σ H Q := by
  rintro σ H Q ⟨A, ρ, h, e, rel, re, out⟩
  refine ⟨A, ρ, h, e, rel, re, ?_⟩
  revert out
  show Out X.K A ρ h H ((da e h).bind _) Q → _
  cases da e h with
  | exc _ _ => exact id
  | bad => exact id
  | ok v h1 =>
    intro out ρ1 x H1 s1 r1
    obtain ⟨rv1, rel1⟩ := r1.settle
    have out : Out X.K A ρ h H (if g v.settle h1 = true then ((R.ok [] h1 : R (List EV))).bind fun vs h => f v.settle vs h else .bad) Q := out
    split at out
    · rename_i hg
      exact ⟨ht A ρ1 h1 H1 v.settle x rel1 rv1 hg, hr A ρ h H ρ1 h1 H1 v.settle x [] [] Q s1 rel1 rv1 trivial out⟩
    · exact out.elim
theorem recv_lst {A : Addr → Prop} {ρ : List Addr} {h : EH} {H : Hp} {v : EV} {x : V} (rel : Rel X.K A ρ h H) (rv : RV X.K ρ (LA A ρ h) H v x) (g : isLstB v h = true) : tyV X.K "list" x H := by
  unfold isLstB at g
  split at g
  · split at g
    · rename_i e
      obtain ⟨a, rfl, k⟩ := rv
      obtain ⟨us, k1, _⟩ := rel.at e k
      exact .inl ⟨rfl, us, .inl (.inl k1)⟩
    · cases g
  · cases g
theorem recv_str {A : Addr → Prop} {ρ : List Addr} {h : EH} {H : Hp} {v : EV} {x : V} (rel : Rel X.K A ρ h H) (rv : RV X.K ρ (LA A ρ h) H v x) (g : isStrB v h = true) : tyV X.K "str" x H := by
  unfold isStrB at g
  split at g
  · cases rv_str rv; rfl
  · cases g
theorem few_of {cpos : Pos} {env : Env} (ns : nsts (a :: es) = true) (hl : es.length < 20) : ((backTo cpos (starEach (a :: es) env)).all (fun x => !x.1) && (backToKw cpos (keywordEach [] env)).all (fun x => x.1.isSome)
      && decide ((a :: es).length + ([] : List Keyword).length + (if ([] : List Keyword).isEmpty then 0 else 1) < 30)) = true := by
  rw [star_all ns, show (backToKw cpos (keywordEach [] env)).all (fun x => x.1.isSome) = true from rfl]
  have : (a :: es).length + ([] : List Keyword).length + (if ([] : List Keyword).isEmpty then 0 else 1) < 30 := by
    simp
    omega
  rw [decide_eq_true this]
  rfl
theorem line_of {x y : Pos} (h : x.endLine = y.line) : (x.endLine == y.line) = true := by simpa using h
theorem s_bm {M : BM} (hbase : attributeBase a M.name X.env (eval a X.env) = eval a X.env) (hline : (apos.endLine == pos.line) = true) (ns : nsts (b :: es) = true) (hl : es.length < 20) (ha : PE X a (tI X.K da)) (hs : PA X (b :: es) (tA X.K ds)) :
    PE X (.Call (.Attribute a M.name apos) (b :: es) [] pos) (tI X.K fun e h => (da e h).bind fun x h => if recvB M x.settle h = true then (ds e h).bind fun vs h => bmV M x.settle vs h else .bad) := by
  have ns' := ns
  simp only [nsts, Bool.and_eq_true] at ns'
  have st := star_cons (es := es) (env := X.env) ns'.1
  have pl := star_any (pos := pos) (env := X.env) ns'.2
  have few := few_of (cpos := pos) (env := X.env) ns hl
  cases M with
  | append =>
    refine PE.imp (pe_bm PySem.F.plainAttrs_list PySem.F.slot_list_append PySem.F.type_list_append mt_append ha hs hbase few hline st pl) (tI_bm (fun A ρ h H v x rel rv g => recv_lst rel rv g) fun A ρ0 h0 H0 ρ h H v x vs xs Q s rel rv rvs out => ?_)
    simp only [bmV] at out
    unfold appendV at out
    split at out
    · rename_i n w
      obtain ⟨y, rfl, ry⟩ := rvs1 rvs
      obtain ⟨q, rfl, kq⟩ := rv
      cases ed : dataV w h with
      | exc _ _ => rw [ed] at out; exact out.elim
      | bad => rw [ed] at out; exact out.elim
      | ok p h2 =>
        rw [ed] at out
        have rw' : RR X.K A H ρ h H w y := by
          cases w with
          | tl _ => exact ry.elim
          | td _ => exact ry.elim
          | pv _ => exact ⟨ry, rel⟩
          | fl _ => exact ⟨ry, rel⟩
          | ref _ => exact ⟨ry, rel⟩
          | fn _ => exact ⟨ry, rel⟩
        obtain ⟨rp, rel2, s2⟩ := data_ok rw' ed
        have out : Out X.K A ρ0 h0 H0 (match h2[n]? with
          | some (.lst xs) => if xs.length < sizeLine then .ok (.pv .none) (h2.set n (.lst (xs ++ [p]))) else .bad
          | _ => .bad) Q := out
        split at out
        · rename_i zs e2
          split at out
          · rename_i hz
            obtain ⟨us, k1, k2⟩ := rel2.at e2 kq
            refine ⟨q, us, y, rfl, rfl, k1, by rw [← k2.length]; exact hz, ?_⟩
            obtain ⟨rel3, s3⟩ := put_ok rel2 e2 kq k1 (k2.append (.cons rp .nil))
            exact Out.val out ((s.trans s2).trans s3) rel3 .non
          · exact out.elim
        · exact out.elim
    · exact out.elim
  | extend =>
    refine PE.imp (pe_bm PySem.F.plainAttrs_list PySem.F.slot_list_extend PySem.F.type_list_extend mt_extend ha hs hbase few hline st pl) (tI_bm (fun A ρ h H v x rel rv g => recv_lst rel rv g) fun A ρ0 h0 H0 ρ h H v x vs xs Q s rel rv rvs out => ?_)
    simp only [bmV] at out
    unfold extendV at out
    split at out
    · rename_i n w
      obtain ⟨y, rfl, ry⟩ := rvs1 rvs
      obtain ⟨q, rfl, kq⟩ := rv
      split at out
      · rename_i zs xs e1 e2
        split at out
        · rename_i hz
          obtain ⟨us, k1, k2⟩ := rel.at e2 kq
          obtain ⟨c, ws, rfl, k3, k4⟩ := ry.lst rel e1
          refine ⟨q, c, us, ws, rfl, rfl, k1, k3, by rw [← k2.length, ← k4.length]; exact hz, ?_⟩
          obtain ⟨rel3, s3⟩ := put_ok rel e2 kq k1 (k2.append k4)
          exact Out.val out (s.trans s3) rel3 .non
        · exact out.elim
      · exact out.elim
    · exact out.elim
  | join =>
    refine PE.imp (pe_bm PySem.F.plainAttrs_str PySem.F.slot_str_join PySem.F.type_str_join mt_join ha hs hbase few hline st pl) (tI_bm (fun A ρ h H v x rel rv g => recv_str rel rv g) fun A ρ0 h0 H0 ρ h H v x vs xs Q s rel rv rvs out => ?_)
    simp only [bmV] at out
    unfold joinV at out
    split at out
    · obtain ⟨y, rfl, ry⟩ := rvs1 rvs
      cases rv_str rv
      split at out
      · rename_i ps e1
        split at out
        · rename_i ys e2
          split at out
          · obtain ⟨q, us, rfl, h1, h2⟩ := ry.seq rel e1
            cases h2.strs e2
            exact ⟨_, q, ys, rfl, rfl, h1.elim (fun k => .inl k.1) (fun k => .inr k.1), by assumption, out_oks out s rel⟩
          · exact out.elim
        · exact out.elim
      · exact out.elim
    · exact out.elim
  | split =>
    refine PE.imp (pe_bm PySem.F.plainAttrs_str PySem.F.slot_str_split PySem.F.type_str_split mt_split ha hs hbase few hline st pl) (tI_bm (fun A ρ h H v x rel rv g => recv_str rel rv g) fun A ρ0 h0 H0 ρ h H v x vs xs Q s rel rv rvs out => ?_)
    simp only [bmV] at out
    unfold splitV at out
    split at out
    · obtain ⟨y, rfl, ry⟩ := rvs1 rvs
      cases rv_str rv
      cases rv_str ry
      split at out
      · rename_i hz
        refine ⟨_, _, rfl, rfl, hz.1, hz.2, fun p np => ?_⟩
        exact Out.newL out s rel (strs_rps _) np
      · exact out.elim
    · exact out.elim
theorem s_bm0 {M : BM0} (hbase : attributeBase a M.name X.env (eval a X.env) = eval a X.env) (hline : (apos.endLine == pos.line) = true) (ha : PE X a (tI X.K da)) :
    PE X (.Call (.Attribute a M.name apos) [] [] pos) (tI X.K fun e h => (da e h).bind fun x h => bm0V M x.settle h) := by
  have key : ∀ {T : String} {r : V → List V → Hp → VK → Prop},
      (∀ (A : Addr → Prop) (ρ0 : List Addr) (h0 : EH) (H0 : Hp) (ρ : List Addr) (h : EH) (H : Hp) (v : EV) (x : V) (Q : VK), Stp A ρ0 h0 H0 ρ h H → Rel X.K A ρ h H → RV X.K ρ (LA A ρ h) H v x → Out X.K A ρ0 h0 H0 (bm0V M v h) Q → tyV X.K T x H ∧ r x [] H Q) →
      ∀ σ H Q, tI X.K (fun e h => (da e h).bind fun x h => bm0V M x.settle h) σ H Q → tBM0 X.K T r (tI X.K da) σ H Q := by
    rintro T r hr σ H Q ⟨A, ρ, h, e, rel, re, out⟩
    refine ⟨A, ρ, h, e, rel, re, ?_⟩
    revert out
    show Out X.K A ρ h H ((da e h).bind _) Q → _
    cases da e h with
    | exc _ _ => exact id
    | bad => exact id
    | ok v h1 =>
      intro out ρ1 x H1 s1 r1
      obtain ⟨rv1, rel1⟩ := r1.settle
      exact hr A ρ h H ρ1 h1 H1 v.settle x Q s1 rel1 rv1 out
  cases M with
  | upper =>
    refine PE.imp (pe_bm0 PySem.F.plainAttrs_str PySem.F.slot_str_upper PySem.F.type_str_upper mt_upper ha hbase hline) (key fun A ρ0 h0 H0 ρ h H v x Q s rel rv out => ?_)
    simp only [bm0V] at out
    unfold upperV at out
    split at out
    · cases rv_str rv
      split at out
      · exact ⟨rfl, _, rfl, rfl, by assumption, out_oks out s rel⟩
      · exact out.elim
    · exact out.elim
  | pop =>
    refine PE.imp (pe_bm0 PySem.F.plainAttrs_list PySem.F.slot_list_pop PySem.F.type_list_pop mt_pop ha hbase hline) (key fun A ρ0 h0 H0 ρ h H v x Q s rel rv out => ?_)
    simp only [bm0V] at out
    unfold popV at out
    split at out
    · split at out
      · rename_i n _ xs e
        split at out
        · rename_i p ep
          obtain ⟨q, rfl, kq⟩ := rv
          obtain ⟨us, k1, k2⟩ := rel.at e kq
          obtain ⟨y, k3, k4⟩ := k2.get ep
          have hl := k2.length
          refine ⟨.inl ⟨rfl, us, .inl (.inl k1)⟩, q, us, y, rfl, rfl, k1, by rw [← hl]; exact k3, ?_⟩
          have k5 : RPs X.K (LA A ρ h) H xs.dropLast us.dropLast := by
            rw [List.dropLast_eq_take, List.dropLast_eq_take, hl]
            exact k2.take _
          obtain ⟨rel3, s3⟩ := put_ok rel e kq k1 k5
          exact Out.val out (s.trans s3) rel3 (k4.step s3)
        · exact out.elim
      · exact out.elim
    · exact out.elim
  | clear =>
    refine PE.imp (pe_bm0 PySem.F.plainAttrs_list PySem.F.slot_list_clear PySem.F.type_list_clear mt_clear ha hbase hline) (key fun A ρ0 h0 H0 ρ h H v x Q s rel rv out => ?_)
    simp only [bm0V] at out
    unfold clearV at out
    split at out
    · split at out
      · rename_i n _ xs e
        obtain ⟨q, rfl, kq⟩ := rv
        obtain ⟨us, k1, k2⟩ := rel.at e kq
        refine ⟨.inl ⟨rfl, us, .inl (.inl k1)⟩, q, us, rfl, rfl, k1, ?_⟩
        obtain ⟨rel3, s3⟩ := put_ok rel e kq k1 (ys := []) (ws := []) .nil
        exact Out.val out (s.trans s3) rel3 .non
      · exact out.elim
    · exact out.elim

/-! ### isinstance -/
def Ty.name : Ty → String
  | .int => "int" | .str => "str" | .tup => "tuple" | .lst => "list" | .bool => "bool"
def Ty.py : Ty → Str
  | .int => "int" | .str => "str" | .tup => "tuple" | .lst => "list" | .bool => "bool"
def tyName : PyData → String
  | .none => "NoneType" | .bool _ => "bool" | .int _ => "int" | .str _ => "str" | .list _ => "list" | .tuple _ => "tuple" | .dict _ => "dict"
theorem dp_ty {K : PySem.W.Frag} {H : Hp} {x : V} {d : PyData} (h : Dp K H x d) : TyX K H x (.type (tyName d)) := by
  cases h with
  | non => exact .base .non
  | bl b => exact .base (.bl b)
  | int i => exact .base (.int i)
  | str x => exact .base (.str x)
  | lst hl _ =>
    rcases hl with (hl | ⟨o, hl⟩) | ⟨o, its, n, k1, k2, _⟩
    · exact .base (.lst hl)
    · exact .base (.frz hl)
    · exact .kList k1 k2
  | tup hl _ =>
    rcases hl with (hl | ⟨o, hl⟩) | ⟨o, its, n, k1, k2, _⟩
    · exact .base (.tup hl)
    · exact .fTuple hl
    · exact .kTuple k1 k2
theorem kit_all {K : PySem.W.Frag} (t : Ty) (d : PyData) : PySem.W.kitOne K (.type (tyName d)) (.type t.name) = some (tyIs t d) := by
  cases t <;> cases d <;> simp only [tyName, Ty.name, tyIs] <;> exact kit_ty (by decide +kernel)
theorem boot_ty (t : Ty) : bootBuiltins t.py = some (.type t.name) := by cases t <;> decide +kernel
theorem s_isi1 {t : Ty} {p1 p2 : Pos} (ns : nst a = true) (hg : X.env.scope.names.lookup ("isinstance" : Str) = some .globalImplicit) (hm : X.mg "isinstance" = none) (hgt : X.env.scope.names.lookup t.py = some .globalImplicit) (hmt : X.mg t.py = none) (ha : PE X a (tI X.K da)) :
    PE X (.Call (.Name "isinstance" p1) [a, .Name t.py p2] [] pos) (tI X.K fun e h => (da e h).bind fun x h => isiV [t] x.settle h) := by
  have hn : PE X (.Name t.py p2) (tC (.ty t.name)) := pe_bltn (gl_of hgt) hmt (boot_ty t) rfl (by cases t <;> decide) (by cases t <;> decide)
  refine PE.imp (pe_callB call_isi (gl_of hg) hm (by decide +kernel) (pa_cons ha (pa_cons hn pa_nil) (star_cons ns)) (by decide) (by decide) (star_cons ns) (by rfl)) ?_
  rintro σ H Q ⟨A, ρ, h, e, rel, re, out⟩
  refine ⟨A, ρ, h, e, rel, re, ?_⟩
  revert out
  show Out X.K A ρ h H ((da e h).bind _) Q → _
  cases da e h with
  | exc _ _ => exact id
  | bad => exact id
  | ok v h1 =>
    intro out ρ1 x H1 s1 r1
    obtain ⟨rv1, rel1⟩ := r1.settle
    have out : Out X.K A ρ h H (isiV [t] v.settle h1) Q := out
    unfold isiV at out
    split at out
    · rename_i d ed
      have dp := dataOf_dp rv1 rel1 ed
      refine ⟨x, .ty t.name, _, _, _, rfl, .ty _, dp_ty dp, kit_all t d, ?_⟩
      have q := out_okb out s1 rel1
      simpa using q
    · exact out.elim
end
end G

set_option Elab.async false
set_option linter.all false
set_option maxRecDepth 100000
/-! GExp4: targets, what is walked, comprehensions. -/
namespace G
open PySem L2

mutual
def IT.names : IT → List Nat
  | .nm i => [i]
  | .tp ts => ITs.names ts
def ITs.names : ITs → List Nat
  | .nil => []
  | .cons t ts => IT.names t ++ ITs.names ts
end
def ITs.len : ITs → Nat
  | .nil => 0
  | .cons _ ts => ts.len + 1

/-- behind a store: the names' values as they are now -/
def BQ (K : PySem.W.Frag) (A : Addr → Prop) (ρ : List Addr) (h : EH) (H : Hp) (ns : List Nat) (σ : St) (o : Option EEnv) (Q : St → Hp → Prop) : Prop :=
  match o with
  | some e' => ∀ σ', RE K ρ (LA A ρ h) H e' σ' → σ'.length = σ.length → (∀ i, i ∉ ns → σ'[i]? = σ[i]?) → Q σ' H
  | none => False
def gT (K : PySem.W.Frag) (tg : IT) : TG := fun v σ H Q => ∃ A ρ h e p, Rel K A ρ h H ∧ RE K ρ (LA A ρ h) H e σ ∧ RP K (LA A ρ h) H p v ∧ BQ K A ρ h H tg.names σ (bindT tg p e) Q
def gTs (K : PySem.W.Frag) (ts : ITs) : TGs := fun vs σ H Q => ∃ A ρ h e ps, Rel K A ρ h H ∧ RE K ρ (LA A ρ h) H e σ ∧ RPs K (LA A ρ h) H ps vs ∧ BQ K A ρ h H ts.names σ (bindTs ts ps e) Q
theorem PG.imp {X : Cx} {tg : Expr} {t t' : TG} (h : PG X tg t) (hi : ∀ v σ H Q, t' v σ H Q → t v σ H Q) : PG X tg t' := ⟨fun pins s σ H v u Q I r q => h.run pins s σ H v u Q I r (hi v σ H Q q)⟩
theorem PGs.imp {X : Cx} {tg : List Expr} {t t' : TGs} (h : PGs X tg t) (hi : ∀ v σ H Q, t' v σ H Q → t v σ H Q) : PGs X tg t' := ⟨fun pins s σ H v u Q I r q => h.run pins s σ H v u Q I r (hi v σ H Q q)⟩
theorem PG.or {X : Cx} {tg : Expr} {t t' : TG} (h : PG X tg t) (h' : PG X tg t') : PG X tg (fun v σ H Q => t v σ H Q ∨ t' v σ H Q) := ⟨fun pins s σ H v u Q I r q => q.elim (h.run pins s σ H v u Q I r) (h'.run pins s σ H v u Q I r)⟩
theorem PI.imp {X : Cx} {tg e : Expr} {t t' : TI} (h : PI X tg e t) (hi : ∀ σ H Q, t' σ H Q → t σ H Q) : PI X tg e t' := ⟨fun pins s σ H Q I q => h.run pins s σ H Q I (hi σ H Q q)⟩
theorem PI.or {X : Cx} {tg e : Expr} {t t' : TI} (h : PI X tg e t) (h' : PI X tg e t') : PI X tg e (fun σ H Q => t σ H Q ∨ t' σ H Q) := ⟨fun pins s σ H Q I q => q.elim (h.run pins s σ H Q I) (h'.run pins s σ H Q I)⟩

theorem assignEach_cons {e : Expr} {es : List Expr} {env : Env} (h : nst e = true) : assignEach (e :: es) env = (false, assign e env) :: assignEach es env := by
  cases e <;> first | rfl | (simp [nst] at h)
theorem assignEach_len {env : Env} : ∀ {es : List Expr}, nsts es = true → (assignEach es env).length = es.length
  | [], _ => rfl
  | e :: es, h => by
    simp only [nsts, Bool.and_eq_true] at h
    rw [assignEach_cons h.1, List.length_cons, List.length_cons, assignEach_len h.2]
theorem assignEach_star {env : Env} : ∀ {es : List Expr}, nsts es = true → (assignEach es env).findIdx? (·.1) = none
  | [], _ => rfl
  | e :: es, h => by
    simp only [nsts, Bool.and_eq_true] at h
    rw [assignEach_cons h.1, List.findIdx?_cons, assignEach_star h.2]
    rfl
theorem bindTs_len : ∀ {ts : ITs} {ps : List PyData} {e e' : EEnv}, bindTs ts ps e = some e' → ps.length = ts.len
  | .nil, [], _, _, _ => rfl
  | .cons t ts, x :: xs, e, e', h => by
    simp only [bindTs] at h
    cases z : bindT t x e with
    | none => rw [z] at h; cases h
    | some e1 =>
      rw [z] at h
      simp only [ITs.len, List.length_cons]
      rw [bindTs_len (ts := ts) (e := e1) (e' := e') h]
  | .nil, _ :: _, _, _, h => by simp [bindTs] at h
  | .cons _ _, [], _, _, h => by simp [bindTs] at h

section
variable {X : Cx} {pos p : Pos}
theorem g_name {i : Nat} {x : Str} (hN : X.N.Nodup) (hi : X.N[i]? = some x) (hx : Loc X.env.scope x) (hf : X.fn x = true ∨ X.env.scope.names.lookup x = some .local) : PG X (.Name x pos) (gT X.K (.nm i)) := by
  refine PG.imp (pg_name hN hi hx hf) ?_
  rintro v σ H Q ⟨A, ρ, h, e, p, rel, re, rp, q⟩
  have q : BQ X.K A ρ h H [i] σ (some (e.set i (some (.pv p)))) Q := q
  exact q _ (re.set i rp) (by simp) fun j hj => List.getElem?_set_ne (fun z => hj (by simp [z]))
theorem g_nil : PGs X [] (gTs X.K .nil) := by
  refine PGs.imp pgs_nil ?_
  rintro vs σ H Q ⟨A, ρ, h, e, ps, rel, re, rp, q⟩
  cases rp with
  | nil => exact ⟨rfl, q σ re rfl fun _ _ => rfl⟩
  | cons _ _ => exact q.elim
theorem g_cons {e : Expr} {es : List Expr} {t : IT} {ts : ITs} (ns : nst e = true) (h1 : PG X e (gT X.K t)) (h2 : PGs X es (gTs X.K ts)) : PGs X (e :: es) (gTs X.K (.cons t ts)) := by
  refine PGs.imp (pgs_cons h1 h2 (by rw [assignEach_cons ns]; rfl)) ?_
  rintro vs σ H Q ⟨A, ρ, h, e, ps, rel, re, rp, q⟩
  cases rp with
  | nil => exact q.elim
  | @cons x v xs vs r rr =>
    refine ⟨v, vs, rfl, A, ρ, h, e, x, rel, re, r, ?_⟩
    have q : BQ X.K A ρ h H (t.names ++ ts.names) σ ((bindT t x e).bind fun e => bindTs ts xs e) Q := q
    revert q
    cases bindT t x e with
    | none => exact id
    | some e1 =>
      intro q σ1 re1 hl1 hk1
      refine ⟨A, ρ, h, e1, xs, rel, re1, rr, ?_⟩
      have q : BQ X.K A ρ h H (t.names ++ ts.names) σ (bindTs ts xs e1) Q := q
      revert q
      cases bindTs ts xs e1 with
      | none => exact id
      | some e2 =>
        intro q σ2 re2 hl2 hk2
        refine q σ2 re2 (hl2.trans hl1) fun i hi => ?_
        rw [List.mem_append, not_or] at hi
        exact (hk2 i hi.2).trans (hk1 i hi.1)
theorem g_tup {es : List Expr} {k : Nat} {ts : ITs} (hc : X.calm = true) (ns : nsts es = true) (hl : es.length = ts.len) (h : PGs X es (gTs X.K ts)) : PG X (.Tuple es k pos) (gT X.K (.tp ts)) := by
  refine PG.imp (PG.or (pg_tup hc h (assignEach_len ns) (assignEach_star ns)) (pg_unl hc h (assignEach_len ns) (assignEach_star ns))) ?_
  rintro v σ H Q ⟨A, ρ, h, e, p, rel, re, rp, q⟩
  cases p with
  | tuple xs =>
    obtain ⟨a, vs, rfl, k1, k2⟩ := RP.seqT rp
    have q : BQ X.K A ρ h H ts.names σ (bindTs ts xs e) Q := q
    refine .inl ⟨a, vs, rfl, k1, ?_, A, ρ, h, e, xs, rel, re, k2, q⟩
    rw [← k2.length, hl]
    cases z : bindTs ts xs e with
    | none => rw [z] at q; exact q.elim
    | some e' => exact bindTs_len z
  | list xs =>
    obtain ⟨a, vs, rfl, _, k1, k2⟩ := RP.seqL rp
    have q : BQ X.K A ρ h H ts.names σ (bindTs ts xs e) Q := q
    refine .inr ⟨a, vs, rfl, .inl (.inl k1), ?_, A, ρ, h, e, xs, rel, re, k2, q⟩
    rw [← k2.length, hl]
    cases z : bindTs ts xs e with
    | none => rw [z] at q; exact q.elim
    | some e' => exact bindTs_len z
  | none => exact q.elim
  | bool _ => exact q.elim
  | int _ => exact q.elim
  | str _ => exact q.elim
  | dict _ => exact q.elim
end

/-! ### what is walked -/
theorem still_pv {items : List PyData} {h : EH} : (Walked.mk items none).still h := trivial
/-- the hand layer's iterator gives just the items -/
structure ItOk (K : PySem.W.Frag) (A : Addr → Prop) (ρ : List Addr) (h : EH) (H : Hp) (w : Walked) (J : It) : Prop where
  go : ∀ A2 ρ2 h2 H2 (i : Nat) (p : PyData), (∀ a, A2 a → A a ∨ H a = none) → Stp A ρ h H ρ2 h2 H2 → Rel K A2 ρ2 h2 H2 → w.still h2 → w.items[i]? = some p →
    J.go i H2 ∧ ∀ x H3, J.yld i H2 x H3 → Stp A2 ρ2 h2 H2 ρ2 h2 H3 ∧ Rel K A2 ρ2 h2 H3 ∧ RP K (LA A2 ρ2 h2) H3 p x
  stop : ∀ A2 ρ2 h2 H2, (∀ a, A2 a → A a ∨ H a = none) → Stp A ρ h H ρ2 h2 H2 → Rel K A2 ρ2 h2 H2 → w.still h2 → J.stop w.items.length H2
section
variable {K : PySem.W.Frag} {A A2 : Addr → Prop} {ρ ρ2 : List Addr} {h h2 : EH} {H H2 : Hp}
theorem Stp.lift (s : Stp A ρ h H ρ2 h2 H2) (hA : ∀ a, A2 a → A a ∨ H a = none) : Ext (LA A ρ h) H (LA A2 ρ2 h2) H2 := fun a o k e => by
  obtain ⟨k1, k2⟩ := s.ext a o k e
  refine ⟨?_, k2⟩
  rintro (z | z)
  · exact k1 (.inl z)
  · rcases hA a z with q | q
    · exact k (.inr q)
    · rw [q] at e; cases e
theorem get_vs {L : Addr → Prop} {ps : List PyData} {vs : List V} {i : Nat} {p : PyData} (r : RPs K L H ps vs) (e : ps[i]? = some p) : ∃ v, vs[i]? = some v ∧ RP K L H p v := r.get e
theorem it_list {a : Addr} {vs : List V} {xs : List PyData} (hl : (¬ LA A ρ h a ∧ Rd H a (.lst vs)) ∨ WL K a vs) (r : RPs K (LA A ρ h) H xs vs) : ItOk K A ρ h H ⟨xs, none⟩ (Itl K a) := by
  have sq : ∀ {A2 : Addr → Prop} {ρ2 : List Addr} {h2 : EH} {H2 : Hp}, (∀ a, A2 a → A a ∨ H a = none) → Stp A ρ h H ρ2 h2 H2 → SqL K H2 a vs := fun hA s => by
    rcases hl with ⟨k1, k2⟩ | k
    · exact .inl ((s.lift hA).rd k1 k2).2
    · exact .inr k
  refine ⟨fun A2 ρ2 h2 H2 i p hA s rel st e => ?_, fun A2 ρ2 h2 H2 hA s rel st => ⟨vs, sq hA s, by rw [← r.length]; exact Nat.le_refl _⟩⟩
  obtain ⟨v, k1, k2⟩ := r.get e
  refine ⟨⟨vs, v, sq hA s, k1⟩, fun x H3 hy => ?_⟩
  obtain ⟨rfl, hy⟩ := hy
  have := hy vs (sq hA s)
  rw [k1] at this
  cases this
  exact ⟨Stp.refl, rel, RP.mono (s.lift hA) _ _ k2⟩
theorem it_tup {a : Addr} {vs : List V} {xs : List PyData} (hl : (¬ LA A ρ h a ∧ Rd H a (.tup vs)) ∨ WT K a vs) (r : RPs K (LA A ρ h) H xs vs) : ItOk K A ρ h H ⟨xs, none⟩ (Itt K a) := by
  have sq : ∀ {A2 : Addr → Prop} {ρ2 : List Addr} {h2 : EH} {H2 : Hp}, (∀ a, A2 a → A a ∨ H a = none) → Stp A ρ h H ρ2 h2 H2 → SqT K H2 a vs := fun hA s => by
    rcases hl with ⟨k1, k2⟩ | k
    · exact .inl ((s.lift hA).rd k1 k2).2
    · exact .inr k
  refine ⟨fun A2 ρ2 h2 H2 i p hA s rel st e => ?_, fun A2 ρ2 h2 H2 hA s rel st => ⟨vs, sq hA s, by rw [← r.length]; exact Nat.le_refl _⟩⟩
  obtain ⟨v, k1, k2⟩ := r.get e
  refine ⟨⟨vs, v, sq hA s, k1⟩, fun x H3 hy => ?_⟩
  obtain ⟨rfl, hy⟩ := hy
  have := hy vs (sq hA s)
  rw [k1] at this
  cases this
  exact ⟨Stp.refl, rel, RP.mono (s.lift hA) _ _ k2⟩
theorem it_ref {n : Nat} {a : Addr} {xs : List PyData} (ha : ρ[n]? = some a) : ItOk K A ρ h H ⟨xs, some n⟩ (Itl K a) := by
  have at2 : ∀ {A2 : Addr → Prop} {ρ2 : List Addr} {h2 : EH} {H2 : Hp}, Stp A ρ h H ρ2 h2 H2 → Rel K A2 ρ2 h2 H2 → (Walked.mk xs (some n)).still h2 → ∃ vs, H2 a = some (.lst vs) ∧ RPs K (LA A2 ρ2 h2) H2 xs vs := fun {A2 ρ2 h2 H2} s rel st => by
    have ea : ρ2[n]? = some a := by
      obtain ⟨t, rfl⟩ := s.pre
      rw [List.getElem?_append_left (List.getElem?_eq_some_iff.mp ha).1]
      exact ha
    exact rel.at st ea
  refine ⟨fun A2 ρ2 h2 H2 i p hA s rel st e => ?_, fun A2 ρ2 h2 H2 hA s rel st => ?_⟩
  · obtain ⟨vs, k1, k2⟩ := at2 s rel st
    obtain ⟨v, k3, k4⟩ := k2.get e
    refine ⟨⟨vs, v, .inl (.inl k1), k3⟩, fun x H3 hy => ?_⟩
    obtain ⟨rfl, hy⟩ := hy
    have := hy vs (.inl (.inl k1))
    rw [k3] at this
    cases this
    exact ⟨Stp.refl, rel, k4⟩
  · obtain ⟨vs, k1, k2⟩ := at2 s rel st
    exact ⟨vs, .inl (.inl k1), by rw [← k2.length]; exact Nat.le_refl _⟩
theorem it_str (x : Str) : ItOk K A ρ h H ⟨x.cps.toList.map fun c => .str ⟨#[c]⟩, none⟩ (Its x) := by
  refine ⟨fun A2 ρ2 h2 H2 i p hA s rel st e => ?_, fun A2 ρ2 h2 H2 hA s rel st => ?_⟩
  · rw [List.getElem?_map] at e
    have hi : i < x.cps.size := by
      rcases Nat.lt_or_ge i x.cps.size with q | q
      · exact q
      · rw [List.getElem?_eq_none (by simpa using q)] at e
        cases e
    refine ⟨hi, fun y H3 hy => ?_⟩
    obtain ⟨rfl, c, hc, rfl⟩ := hy
    have : x.cps.toList[i]? = some c := by simpa using hc
    rw [this] at e
    cases e
    exact ⟨Stp.refl, rel, .str _⟩
  · show x.cps.size ≤ _
    simp
theorem it_range (lo : Int) (n : Nat) : ItOk K A ρ h H ⟨rangeP lo n, none⟩ (Itr lo n) := by
  refine ⟨fun A2 ρ2 h2 H2 i p hA s rel st e => ?_, fun A2 ρ2 h2 H2 hA s rel st => ?_⟩
  · have e : ((List.range n).map fun (i : Nat) => PyData.int (lo + i))[i]? = some p := e
    rw [List.getElem?_map] at e
    have hi : i < n := by
      rcases Nat.lt_or_ge i n with q | q
      · exact q
      · rw [List.getElem?_eq_none (by simpa using q)] at e
        cases e
    rw [List.getElem?_range hi] at e
    cases e
    refine ⟨hi, fun y H3 hy => ?_⟩
    obtain ⟨rfl, rfl⟩ := hy
    exact ⟨Stp.refl, rel, .int _⟩
  · show n ≤ (rangeP lo n).length
    simp [rangeP]
/-- a new pair -/
theorem new_pair {p q : PyData} {x y : V} {T : Addr} (rel : Rel K A ρ h H) (np : H T = none) (hp : RP K (LA A ρ h) H p x) (hq : RP K (LA A ρ h) H q y) :
    Stp A ρ h H ρ h (L2.upd H T (.tup [x, y])) ∧ Rel K A ρ h (L2.upd H T (.tup [x, y])) ∧ RP K (LA A ρ h) (L2.upd H T (.tup [x, y])) (.tuple [p, q]) (.ref T) := by
  have s1 : Stp A ρ h H ρ h (L2.upd H T (.tup [x, y])) := Stp.upd np
  exact ⟨s1, rel.upd0 np, .tup (rel.fresh np) (.inl upd_same) (.cons (hp.step s1) (.cons (hq.step s1) .nil))⟩
theorem zip_get {α β γ : Type} {f : α → β → γ} {xs : List α} {ys : List β} {i : Nat} {p : γ} (e : (List.zipWith f xs ys)[i]? = some p) : ∃ x y, xs[i]? = some x ∧ ys[i]? = some y ∧ p = f x y := by
  rw [List.getElem?_zipWith] at e
  cases h1 : xs[i]? with
  | none => rw [h1] at e; cases e
  | some x =>
    cases h2 : ys[i]? with
    | none => rw [h1, h2] at e; cases e
    | some y =>
      rw [h1, h2] at e
      cases e
      exact ⟨x, y, rfl, rfl, rfl⟩
theorem it_zipL {a b : Addr} {us vs : List V} {xs ys : List PyData} (ha : ¬ LA A ρ h a) (ha' : H a = some (.lst us)) (hb : ¬ LA A ρ h b) (hb' : H b = some (.lst vs)) (r : RPs K (LA A ρ h) H xs us) (q : RPs K (LA A ρ h) H ys vs) :
    ItOk K A ρ h H ⟨List.zipWith (fun x y => .tuple [x, y]) xs ys, none⟩ (Itz K a b) := by
  refine ⟨fun A2 ρ2 h2 H2 i p hA s rel st e => ?_, fun A2 ρ2 h2 H2 hA s rel st => ?_⟩
  · have ea : SqL K H2 a us := .inl (.inl ((s.lift hA) _ _ ha ha').2)
    have eb : SqL K H2 b vs := .inl (.inl ((s.lift hA) _ _ hb hb').2)
    obtain ⟨x, y, e1, e2, rfl⟩ := zip_get e
    obtain ⟨u, k1, k2⟩ := r.get e1
    obtain ⟨v, k3, k4⟩ := q.get e2
    refine ⟨⟨us, vs, u, v, ea, eb, k1, k3⟩, fun z H3 hy => ?_⟩
    obtain ⟨T, x1, y1, rfl, np, rfl, m1, m2⟩ := hy
    have m1 := m1 us ea
    have m2 := m2 vs eb
    rw [k1] at m1
    rw [k3] at m2
    cases m1; cases m2
    exact new_pair rel np (RP.mono (s.lift hA) _ _ k2) (RP.mono (s.lift hA) _ _ k4)
  · have ea : SqL K H2 a us := .inl (.inl ((s.lift hA) _ _ ha ha').2)
    have eb : SqL K H2 b vs := .inl (.inl ((s.lift hA) _ _ hb hb').2)
    refine ⟨us, vs, ea, eb, ?_⟩
    have := r.length
    have := q.length
    simp only [List.length_zipWith]
    omega
theorem it_zipT {a b : Addr} {us vs : List V} {xs ys : List PyData} (ha : (¬ LA A ρ h a ∧ Rd H a (.tup us)) ∨ WT K a us) (hb : (¬ LA A ρ h b ∧ Rd H b (.tup vs)) ∨ WT K b vs) (r : RPs K (LA A ρ h) H xs us) (q : RPs K (LA A ρ h) H ys vs) :
    ItOk K A ρ h H ⟨List.zipWith (fun x y => .tuple [x, y]) xs ys, none⟩ (RZ.ItzT K a b) := by
  have sq : ∀ {A2 : Addr → Prop} {ρ2 : List Addr} {h2 : EH} {H2 : Hp} {a : Addr} {us : List V}, ((¬ LA A ρ h a ∧ Rd H a (.tup us)) ∨ WT K a us) → (∀ a, A2 a → A a ∨ H a = none) → Stp A ρ h H ρ2 h2 H2 → SqT K H2 a us := fun hl hA s => by
    rcases hl with ⟨k1, k2⟩ | k
    · exact .inl ((s.lift hA).rd k1 k2).2
    · exact .inr k
  refine ⟨fun A2 ρ2 h2 H2 i p hA s rel st e => ?_, fun A2 ρ2 h2 H2 hA s rel st => ?_⟩
  · have ea := sq ha hA s
    have eb := sq hb hA s
    obtain ⟨x, y, e1, e2, rfl⟩ := zip_get e
    obtain ⟨u, k1, k2⟩ := r.get e1
    obtain ⟨v, k3, k4⟩ := q.get e2
    refine ⟨⟨us, vs, u, v, ea, eb, k1, k3⟩, fun z H3 hy => ?_⟩
    obtain ⟨T, x1, y1, rfl, np, rfl, m1, m2⟩ := hy
    have m1 := m1 us ea
    have m2 := m2 vs eb
    rw [k1] at m1
    rw [k3] at m2
    cases m1; cases m2
    exact new_pair rel np (RP.mono (s.lift hA) _ _ k2) (RP.mono (s.lift hA) _ _ k4)
  · refine ⟨us, vs, sq ha hA s, sq hb hA s, ?_⟩
    have := r.length
    have := q.length
    simp only [List.length_zipWith]
    omega
theorem enum_get : ∀ {k : Nat} {xs : List PyData} {i : Nat} {p : PyData}, (enumP k xs)[i]? = some p → ∃ x, xs[i]? = some x ∧ p = .tuple [.int ((k + i : Nat) : Int), x]
  | _, [], _, _, e => by simp [enumP] at e
  | k, x :: xs, 0, p, e => by simp [enumP] at e; exact ⟨x, rfl, by rw [← e]; rfl⟩
  | k, x :: xs, i + 1, p, e => by
    have e : (enumP (k + 1) xs)[i]? = some p := by simpa [enumP] using e
    obtain ⟨y, h1, h2⟩ := enum_get e
    exact ⟨y, by simpa using h1, by rw [h2]; congr 3; omega⟩
theorem enum_len : ∀ (k : Nat) (xs : List PyData), (enumP k xs).length = xs.length
  | _, [] => rfl
  | k, x :: xs => by simp [enumP, enum_len (k + 1) xs]
theorem it_enum {a : Addr} {us : List V} {xs : List PyData} (ha : ¬ LA A ρ h a) (ha' : H a = some (.lst us)) (r : RPs K (LA A ρ h) H xs us) : ItOk K A ρ h H ⟨enumP 0 xs, none⟩ (Ite K a) := by
  refine ⟨fun A2 ρ2 h2 H2 i p hA s rel st e => ?_, fun A2 ρ2 h2 H2 hA s rel st => ?_⟩
  · have ea : SqL K H2 a us := .inl (.inl ((s.lift hA) _ _ ha ha').2)
    obtain ⟨x, e1, rfl⟩ := enum_get e
    obtain ⟨u, k1, k2⟩ := r.get e1
    refine ⟨⟨us, u, ea, k1⟩, fun z H3 hy => ?_⟩
    obtain ⟨T, x1, rfl, np, rfl, m1⟩ := hy
    have m1 := m1 us ea
    rw [k1] at m1
    cases m1
    rw [Nat.zero_add]
    exact new_pair rel np (.int _) (RP.mono (s.lift hA) _ _ k2)
  · have ea : SqL K H2 a us := .inl (.inl ((s.lift hA) _ _ ha ha').2)
    refine ⟨us, ea, ?_⟩
    show us.length ≤ (enumP 0 xs).length
    rw [enum_len, r.length]
    exact Nat.le_refl _
end

def OutW (K : PySem.W.Frag) (A : Addr → Prop) (ρ : List Addr) (h : EH) (H : Hp) (r : R Walked) (Q : It → Hp → Prop) : Prop :=
  match r with
  | .ok w h' => ∀ ρ' H' J, Stp A ρ h H ρ' h' H' → Rel K A ρ' h' H' → ItOk K A ρ' h' H' w J → Q J H'
  | _ => False
def tW (K : PySem.W.Frag) (d : EEnv → EH → R Walked) : TI := fun σ H Q => ∃ A ρ h e, Rel K A ρ h H ∧ RE K ρ (LA A ρ h) H e σ ∧ OutW K A ρ h H (d e h) Q
theorem RP.seqT' {K : PySem.W.Frag} {L : Addr → Prop} {H : Hp} {xs : List PyData} {v : V} (h : RP K L H (.tuple xs) v) : ∃ a vs, v = .ref a ∧ ((¬ L a ∧ Rd H a (.tup vs)) ∨ WT K a vs) ∧ RPs K L H xs vs := by
  cases h with
  | tup h1 h2 h3 => exact ⟨_, _, rfl, .inl ⟨h1, h2⟩, h3⟩
  | tupK h1 h2 => exact ⟨_, _, rfl, .inr h1, h2⟩
section
variable {X : Cx} {pos p : Pos} {a b tg : Expr} {da db : EEnv → EH → R EV}
theorem w_seq (ha : PE X a (tI X.K da)) : PI X tg a (tW X.K fun e h => (da e h).bind fun x h => walkV x.settle h) := by
  refine PI.imp (PI.or (PI.or (pi_list ha) (pi_tup ha)) (pi_str ha)) ?_
  rintro σ H Q ⟨A, ρ, h, e, rel, re, out⟩
  have out : OutW X.K A ρ h H ((da e h).bind fun x h => walkV x.settle h) Q := out
  -- which of the three it is, by the value
  have key : ∀ {t : V → Hp → (It → Hp → Prop) → Prop}, (∀ ρ1 h1 H1 v x, da e h = .ok v h1 → Stp A ρ h H ρ1 h1 H1 → RV X.K ρ1 (LA A ρ1 h1) H1 v.settle x → Rel X.K A ρ1 h1 H1 → OutW X.K A ρ h H (walkV v.settle h1) Q → t x H1 Q) →
      tI X.K da σ H fun x H1 => t x H1 Q := by
    intro t ht
    refine ⟨A, ρ, h, e, rel, re, ?_⟩
    revert out
    cases ed : da e h with
    | exc _ _ => exact id
    | bad => exact id
    | ok v h1 =>
      intro out ρ1 x H1 s1 r1
      obtain ⟨rv, rel1⟩ := r1.settle
      exact ht ρ1 h1 H1 v x ed s1 rv rel1 out
  cases ed : da e h with
  | exc _ _ => rw [ed] at out; exact out.elim
  | bad => rw [ed] at out; exact out.elim
  | ok v h1 =>
    by_cases c1 : ∃ z, v.settle = .pv (.str z)
    · obtain ⟨z, ez⟩ := c1
      refine .inr (key (t := fun x H1 R => ∃ x', x = .str x' ∧ R (Its x') H1) fun ρ1 h1' H1 v' x ev s1 rv rel1 out => ?_)
      rw [ed] at ev; cases ev
      rw [ez] at rv out
      cases rv_str rv
      exact ⟨z, rfl, out ρ1 H1 _ s1 rel1 (it_str z)⟩
    · by_cases c2 : ∃ xs, v.settle = .pv (.tuple xs)
      · obtain ⟨xs, ez⟩ := c2
        refine .inl (.inr (key (t := fun x H1 R => ∃ a, x = .ref a ∧ (∃ xs, SqT X.K H1 a xs) ∧ R (Itt X.K a) H1) fun ρ1 h1' H1 v' x ev s1 rv rel1 out => ?_))
        rw [ed] at ev; cases ev
        rw [ez] at rv out
        obtain ⟨q, us, rfl, k1, k2⟩ := RP.seqT' rv
        refine ⟨q, rfl, ⟨us, ?_⟩, out ρ1 H1 _ s1 rel1 (it_tup k1 k2)⟩
        rcases k1 with ⟨_, k⟩ | k
        · exact .inl k
        · exact .inr k
      · refine .inl (.inl (key (t := fun x H1 R => ∃ a, x = .ref a ∧ (∃ xs, SqL X.K H1 a xs) ∧ R (Itl X.K a) H1) fun ρ1 h1' H1 v' x ev s1 rv rel1 out => ?_))
        rw [ed] at ev; cases ev
        have out : OutW X.K A ρ h H (walkV v.settle h1) Q := out
        unfold walkV at out
        split at out
        · rename_i w ew
          revert rv ew c1 c2
          generalize v.settle = u
          intro c1 c2 rv ew
          unfold walkOf at ew
          split at ew
          · cases ew
            obtain ⟨q, us, rfl, k1, k2, k3⟩ := RP.seqL rv
            exact ⟨q, rfl, ⟨us, .inl (.inl k2)⟩, out ρ1 H1 _ s1 rel1 (it_list (.inl ⟨k1, .inl k2⟩) k3)⟩
          · exact absurd ⟨_, rfl⟩ c2
          · exact absurd ⟨_, rfl⟩ c1
          · exact rv.elim
          · cases ew
            obtain ⟨q, us, rfl, k1, k2⟩ := rv
            refine ⟨q, rfl, ⟨us, ?_⟩, out ρ1 H1 _ s1 rel1 (it_list k1 k2)⟩
            rcases k1 with ⟨_, k⟩ | k
            · exact .inl k
            · exact .inr k
          · split at ew
            · rename_i e1
              cases ew
              obtain ⟨q, rfl, kq⟩ := rv
              obtain ⟨us, k1, k2⟩ := rel1.at e1 kq
              exact ⟨q, rfl, ⟨us, .inl (.inl k1)⟩, out ρ1 H1 _ s1 rel1 (it_ref kq)⟩
            · cases ew
          · cases ew
        · exact out.elim
theorem w_args1 {d : EEnv → EH → R Walked} {f : EV → EH → R Walked} {r : List V → Hp → (It → Hp → Prop) → Prop} (hd : ∀ e h, d e h = (da e h).bind fun x h => f x.settle h)
    (hr : ∀ A ρ0 h0 H0 ρ h H v x Q, Stp A ρ0 h0 H0 ρ h H → Rel X.K A ρ h H → RV X.K ρ (LA A ρ h) H v x → OutW X.K A ρ0 h0 H0 (f v h) Q → r [x] H Q) :
    ∀ σ H Q, tW X.K d σ H Q → tA X.K (fun e h => (da e h).bind fun x h => (R.ok [] h : R (List EV)).bind fun xs h => .ok (x.settle :: xs) h) σ H fun vs H1 => r vs H1 Q := by
  rintro σ H Q ⟨A, ρ, h, e, rel, re, out⟩
  refine ⟨A, ρ, h, e, rel, re, ?_⟩
  rw [hd] at out
  revert out
  show _ → OutA X.K A ρ h H ((da e h).bind fun x h => .ok [x.settle] h) _
  cases da e h with
  | exc _ _ => exact id
  | bad => exact id
  | ok v h1 =>
    intro out ρ1 xs H1 s1 rel1 rvs
    obtain ⟨x, rfl, rx⟩ := rvs1 rvs
    exact hr A ρ h H ρ1 h1 H1 v.settle x Q s1 rel1 rx out
theorem w_args2 {d : EEnv → EH → R Walked} {f : EV → EV → EH → R Walked} {r : List V → Hp → (It → Hp → Prop) → Prop} (hd : ∀ e h, d e h = (da e h).bind fun x h => (db e h).bind fun y h => f x.settle y.settle h)
    (hr : ∀ A ρ0 h0 H0 ρ h H v w x y Q, Stp A ρ0 h0 H0 ρ h H → Rel X.K A ρ h H → RV X.K ρ (LA A ρ h) H v x → RV X.K ρ (LA A ρ h) H w y → OutW X.K A ρ0 h0 H0 (f v w h) Q → r [x, y] H Q) :
    ∀ σ H Q, tW X.K d σ H Q → tA X.K (fun e h => (da e h).bind fun x h => ((db e h).bind fun y h => (R.ok [] h : R (List EV)).bind fun ys h => .ok (y.settle :: ys) h).bind fun xs h => .ok (x.settle :: xs) h) σ H fun vs H1 => r vs H1 Q := by
  rintro σ H Q ⟨A, ρ, h, e, rel, re, out⟩
  refine ⟨A, ρ, h, e, rel, re, ?_⟩
  rw [hd] at out
  revert out
  show _ → OutA X.K A ρ h H ((da e h).bind fun x h => ((db e h).bind fun y h => .ok [y.settle] h).bind fun xs h => .ok (x.settle :: xs) h) _
  cases da e h with
  | exc _ _ => exact id
  | bad => exact id
  | ok v h1 =>
    show OutW X.K A ρ h H ((db e h1).bind _) Q → OutA X.K A ρ h H (((db e h1).bind _).bind _) _
    cases db e h1 with
    | exc _ _ => exact id
    | bad => exact id
    | ok w h2 =>
      intro out ρ1 xs H1 s1 rel1 rvs
      obtain ⟨x, y, rfl, rx, ry⟩ := rvs2 rvs
      exact hr A ρ h H ρ1 h2 H1 v.settle w.settle x y Q s1 rel1 rx ry out
theorem w_range1 (hg : X.env.scope.names.lookup ("range" : Str) = some .globalImplicit) (hm : X.mg "range" = none) (ns : nst a = true) (ha : PE X a (tI X.K da)) :
    PI X tg (.Call (.Name "range" p) [a] [] pos) (tW X.K fun e h => (da e h).bind fun x h => range1V x.settle h) := by
  refine PI.imp (pi_range1 (gl_of hg) hm (s_args ns ha s_args0) (by rw [star_cons ns]; rfl)) (w_args1 (f := range1V) (r := fun vs H1 R => ∃ j : Int, vs = [.int j] ∧ -(2 ^ 62) ≤ j ∧ j < 2 ^ 62 ∧ R (Itr 0 j.toNat) H1) (fun _ _ => rfl) fun A ρ0 h0 H0 ρ h H v x Q s rel rv out => ?_)
  unfold range1V at out
  split at out
  · cases rv_int rv
    split at out
    · rename_i hz
      exact ⟨_, rfl, hz.1, hz.2, out ρ H _ s rel (it_range 0 _)⟩
    · exact out.elim
  · exact out.elim
theorem w_range2 (hg : X.env.scope.names.lookup ("range" : Str) = some .globalImplicit) (hm : X.mg "range" = none) (ns : nst a = true) (ns2 : nst b = true) (ha : PE X a (tI X.K da)) (hb : PE X b (tI X.K db)) :
    PI X tg (.Call (.Name "range" p) [a, b] [] pos) (tW X.K fun e h => (da e h).bind fun x h => (db e h).bind fun y h => range2V x.settle y.settle h) := by
  refine PI.imp (pi_range2 (gl_of hg) hm (s_args ns ha (s_args ns2 hb s_args0)) (by rw [star_cons ns, star_cons ns2]; rfl) (by rw [star_cons ns2]; rfl))
    (w_args2 (f := range2V) (r := fun vs H1 R => ∃ i j : Int, vs = [.int i, .int j] ∧ (-(2 ^ 62) ≤ i ∧ i < 2 ^ 62 ∧ -(2 ^ 62) ≤ j ∧ j < 2 ^ 62) ∧ R (Itr i (j - i).toNat) H1) (fun _ _ => rfl) fun A ρ0 h0 H0 ρ h H v w x y Q s rel rv rw out => ?_)
  unfold range2V at out
  split at out
  · cases rv_int rv; cases rv_int rw
    split at out
    · rename_i hz
      exact ⟨_, _, rfl, hz, out ρ H _ s rel (it_range _ _)⟩
    · exact out.elim
  · exact out.elim
theorem w_zip {elts : List Expr} {kk : Nat} {tpos : Pos} (hg : X.env.scope.names.lookup ("zip" : Str) = some .globalImplicit) (hm : X.mg "zip" = none) (ns : nst a = true) (ns2 : nst b = true) (ha : PE X a (tI X.K da)) (hb : PE X b (tI X.K db)) :
    PI X (.Tuple elts kk tpos) (.Call (.Name "zip" p) [a, b] [] pos) (tW X.K fun e h => (da e h).bind fun x h => (db e h).bind fun y h => zipV x.settle y.settle h) := by
  refine PI.imp (RZ.pi_zipA (gl_of hg) hm (s_args ns ha (s_args ns2 hb s_args0)) (by rw [star_cons ns]) (by rw [star_cons ns2]; rfl))
    (w_args2 (f := zipV) (r := fun vs H1 R => ∃ a b xs ys, vs = [.ref a, .ref b] ∧ ((SqL X.K H1 a xs ∧ SqL X.K H1 b ys ∧ R (Itz X.K a b) H1) ∨ (SqT X.K H1 a xs ∧ SqT X.K H1 b ys ∧ R (RZ.ItzT X.K a b) H1))) (fun _ _ => rfl) fun A ρ0 h0 H0 ρ h H v w x y Q s rel rv rw out => ?_)
  unfold zipV at out
  split at out
  · rename_i ps ez
    unfold zipOf at ez
    split at ez
    · cases ez
      obtain ⟨q, us, rfl, k1, k2, k3⟩ := RP.seqL rv
      obtain ⟨q', us', rfl, k1', k2', k3'⟩ := RP.seqL rw
      exact ⟨q, q', us, us', rfl, .inl ⟨.inl (.inl k2), .inl (.inl k2'), out ρ H _ s rel (it_zipL k1 k2 k1' k2' k3 k3')⟩⟩
    · cases ez
      obtain ⟨q, us, rfl, k1, k2⟩ := RP.seqT' rv
      obtain ⟨q', us', rfl, k1', k2'⟩ := RP.seqT' rw
      refine ⟨q, q', us, us', rfl, .inr ⟨?_, ?_, out ρ H _ s rel (it_zipT k1 k1' k2 k2')⟩⟩
      · exact k1.elim (fun k => .inl k.2) .inr
      · exact k1'.elim (fun k => .inl k.2) .inr
    · cases ez
  · exact out.elim
theorem w_enum {elts : List Expr} {kk : Nat} {tpos : Pos} (hg : X.env.scope.names.lookup ("enumerate" : Str) = some .globalImplicit) (hm : X.mg "enumerate" = none) (ns : nst a = true) (ha : PE X a (tI X.K da)) :
    PI X (.Tuple elts kk tpos) (.Call (.Name "enumerate" p) [a] [] pos) (tW X.K fun e h => (da e h).bind fun x h => enumV x.settle h) := by
  refine PI.imp (pi_enum (gl_of hg) hm (s_args ns ha s_args0) (by rw [star_cons ns]; rfl)) (w_args1 (f := enumV) (r := fun vs H1 R => ∃ a xs, vs = [.ref a] ∧ SqL X.K H1 a xs ∧ R (Ite X.K a) H1) (fun _ _ => rfl) fun A ρ0 h0 H0 ρ h H v x Q s rel rv out => ?_)
  unfold enumV at out
  split at out
  · obtain ⟨q, us, rfl, k1, k2, k3⟩ := RP.seqL rv
    exact ⟨q, us, rfl, .inl (.inl k2), out ρ H _ s rel (it_enum k1 k2 k3)⟩
  · exact out.elim
end
end G

set_option Elab.async false
set_option linter.all false
set_option maxRecDepth 100000
/-! GExp5: comprehensions. -/
namespace G
open PySem L2

theorem R.bind_assoc {α β γ : Type} (r : R α) (f : α → EH → R β) (g : β → EH → R γ) : (r.bind f).bind g = r.bind fun a h => (f a h).bind g := by cases r <;> rfl
theorem wipe_get {σ : St} {i : Nat} : ∀ {vs : List Nat}, i ∈ vs → (wipe σ vs)[i]? = if i < σ.length then some none else none
  | v :: vs, h => by
    unfold wipe
    by_cases c : v = i
    · subst c
      rw [List.getElem?_set_self']
      by_cases q : v < σ.length
      · rw [if_pos q]
        have : v < (wipe σ vs).length := by rw [wipe_length]; exact q
        rw [List.getElem?_eq_getElem this]
        rfl
      · rw [if_neg q]
        have : (wipe σ vs)[v]? = none := List.getElem?_eq_none (by rw [wipe_length]; omega)
        rw [this]
        rfl
    · rw [List.getElem?_set_ne c]
      exact wipe_get ((List.mem_cons.mp h).resolve_left fun z => c z.symm)
theorem wipe_same {σ σ' : St} {vs : List Nat} (hl : σ'.length = σ.length) (hk : ∀ i, i ∉ vs → σ'[i]? = σ[i]?) : wipe σ' vs = wipe σ vs := by
  apply List.ext_getElem?
  intro i
  by_cases c : i ∈ vs
  · rw [wipe_get c, wipe_get c, hl]
  · rw [wipe_out c, wipe_out c]
    exact hk i c
theorem wipeE_len (e : EEnv) : ∀ vs : List Nat, (wipeE e vs).length = e.length
  | [] => rfl
  | v :: vs => by unfold wipeE; rw [List.length_set, wipeE_len e vs]
theorem wipeE_some {e : EEnv} {i : Nat} {x : EV} : ∀ {vs : List Nat}, (wipeE e vs)[i]? = some (some x) → e[i]? = some (some x) ∧ i ∉ vs
  | [], h => ⟨h, by simp⟩
  | v :: vs, h => by
    unfold wipeE at h
    by_cases c : v = i
    · subst c
      rw [List.getElem?_set_self'] at h
      cases z : (wipeE e vs)[v]? with
      | none => rw [z] at h; cases h
      | some o => rw [z] at h; cases h
    · rw [List.getElem?_set_ne c] at h
      obtain ⟨h1, h2⟩ := wipeE_some h
      exact ⟨h1, fun z => (List.mem_cons.mp z).elim (fun z => c z.symm) h2⟩
theorem RE.wiped {K : PySem.W.Frag} {ρ : List Addr} {L : Addr → Prop} {H : Hp} {e : EEnv} {σ : St} (r : RE K ρ L H e σ) (vs : List Nat) : RE K ρ L H (wipeE e vs) (wipe σ vs) := by
  refine ⟨by rw [wipeE_len, wipe_length]; exact r.1, fun i v h => ?_⟩
  obtain ⟨h1, h2⟩ := wipeE_some h
  obtain ⟨x, k1, k2⟩ := r.2 i v h1
  exact ⟨x, by rw [wipe_out h2]; exact k1, k2⟩

section
variable {K : PySem.W.Frag} {A A2 : Addr → Prop} {ρ ρ1 ρ2 ρ4 : List Addr} {h h1 h2 h4 : EH} {H H1 H2 H4 : Hp}
theorem Stp.over (s : Stp A ρ1 h1 H1 ρ2 h2 H2) (t : Stp A2 ρ2 h2 H2 ρ4 h4 H4) (hA : ∀ a, A2 a → A a ∨ H1 a = none) (hs : ∀ a, A a → A2 a) : Stp A ρ1 h1 H1 ρ4 h4 H4 :=
  ⟨s.pre.trans t.pre, fun a o k e => by
    obtain ⟨k1, k2⟩ := s.lift hA a o k e
    obtain ⟨k3, k4⟩ := t.ext a o k1 k2
    exact ⟨fun z => k3 (z.elim .inl fun z => .inr (hs a z)), k4⟩, fun i x hi e => by
    by_cases c : ρ2.length ≤ i
    · cases z : H1 x with
      | none => rfl
      | some o =>
        obtain ⟨o', z'⟩ := s.dom x o z
        rw [t.new i x c e] at z'
        cases z'
    · have hlt : i < ρ2.length := by omega
      obtain ⟨q, hq⟩ := t.pre
      rw [← hq, List.getElem?_append_left hlt] at e
      exact s.new i x hi e, fun x o e => let ⟨o1, e1⟩ := s.dom x o e; t.dom x o1 e1, fun x o ha e => t.keep x o (hs x ha) (s.keep x o ha e)⟩
/-- what is held apart is written -/
theorem ext_hold {D : Addr} {o : HO} (hD : A D) : Ext (LA A ρ h) H (LA A ρ h) (upd H D o) := fun a u k e => ⟨k, by rw [upd_ne (fun z => k (.inr (by rw [z]; exact hD)))]; exact e⟩
theorem Rel.hold {D : Addr} {o : HO} (r : Rel K A ρ h H) (hD : A D) : Rel K A ρ h (L2.upd H D o) := by
  refine ⟨r.len, r.inj, fun i ob a e1 e2 => ?_, fun a z => ?_, r.apart⟩
  · have z := r.obj i ob a e1 e2
    cases ob with
    | lst xs =>
      obtain ⟨us, k1, k2⟩ := z
      have ne : a ≠ D := fun c => r.apart D hD ⟨i, _, c ▸ e2, e1, by simp⟩
      exact ⟨us, by rw [upd_ne ne]; exact k1, RPs.mono (ext_hold hD) _ _ k2⟩
    | dct xs =>
      obtain ⟨us, k1, k0, k2⟩ := z
      have ne : a ≠ D := fun c => r.apart D hD ⟨i, _, c ▸ e2, e1, by simp⟩
      exact ⟨us, by rw [upd_ne ne]; exact k1, k0, RPs.mono (ext_hold hD) _ _ k2⟩
    | ins _ _ => exact z
    | dead => trivial
  · by_cases c : a = D
    · subst c; exact ⟨_, upd_same⟩
    · obtain ⟨u, k⟩ := r.adm a z
      exact ⟨u, by rw [upd_ne c]; exact k⟩
theorem Stp.held {D : Addr} {o : HO} (s : Stp A ρ h H ρ2 h2 H2) (hD : H D = none) : Stp A ρ h H ρ2 h2 (L2.upd H2 D o) := by
  have ne : ∀ {a u}, H a = some u → a ≠ D := fun e c => by subst c; rw [hD] at e; cases e
  exact ⟨s.pre, fun a u k e => ⟨(s.ext a u k e).1, by rw [upd_ne (ne e)]; exact (s.ext a u k e).2⟩, s.new, fun a u e => by
    obtain ⟨u', e'⟩ := s.dom a u e
    exact ⟨u', by rw [upd_ne (ne e)]; exact e'⟩, fun a u ha e => by rw [upd_ne (ne e)]; exact s.keep a u ha e⟩
end

theorem PTs.imp {X : Cx} {ifs : List Expr} {t t' : TT} (h : PTs X ifs t) (hi : ∀ σ H Q, t' σ H Q → t σ H Q) : PTs X ifs t' := ⟨fun pins s σ H Q I q => h.run pins s σ H Q I (hi σ H Q q)⟩
theorem c_no {X : Cx} : PTs X [] (tT X.K fun _ h => .ok true h) := by
  refine PTs.imp pts_nil ?_
  rintro σ H Q ⟨A, ρ, h, e, rel, re, out⟩
  exact out ρ H Stp.refl rel
theorem c_yes {X : Cx} {c : Expr} {d : EEnv → EH → R Bool} (h : PT X c (tT X.K d)) : PTs X [c] (tT X.K d) := pts_one h

/-- what a comprehension asks, from what it does on data -/
theorem i_comp {K : PySem.W.Frag} {dw : EEnv → EH → R Walked} {tg : IT} {dc : EEnv → EH → R Bool} {de : EEnv → EH → R EV} {own : List Nat} (hown : ∀ i ∈ tg.names, i ∈ own) :
    ∀ σ H Q, tI K (fun e h => (dw e h).bind fun w h => (compD (bindT tg) dc de w own e w.items h).bind fun ps h => newLV ps h) σ H Q → tLc (tW K dw) (gT K tg) (tT K dc) (tI K de) own σ H Q := by
  rintro σ H Q ⟨A, ρ, h, e, rel, re, out⟩
  refine ⟨A, ρ, h, e, rel, re, ?_⟩
  revert out
  show Out K A ρ h H ((dw e h).bind _) Q → _
  cases dw e h with
  | exc _ _ => exact id
  | bad => exact id
  | ok w h1 =>
    intro out ρ1 H1 J s1 rel1 itok D np
    have out : Out K A ρ h H ((compD (bindT tg) dc de w own e w.items h1).bind fun ps h => newLV ps h) Q := out
    have re1 := re.step s1
    generalize hA2 : (fun a => A a ∨ a = D) = A2
    have hs : ∀ a, A a → A2 a := fun a z => by rw [← hA2]; exact .inl z
    have hD : A2 D := by rw [← hA2]; exact .inr rfl
    have hA : ∀ a, A2 a → A a ∨ H1 a = none := fun a z => by
      rw [← hA2] at z
      exact z.elim .inl fun z => .inr (z ▸ np)
    have back : ∀ {ρ2 : List Addr} {h2 : EH} (a : Addr), LA A ρ2 h2 a ∨ a = D → LA A2 ρ2 h2 a := fun a z => by
      rcases z with (z | z) | z
      · exact .inl z
      · exact .inr (hs a z)
      · exact .inr (z ▸ hD)
    refine ⟨fun i m H' => ∃ ρ2 h2 acc done, i + m = w.items.length ∧ Stp A ρ1 h1 H1 ρ2 h2 H' ∧ Rel K A2 ρ2 h2 H' ∧ H' D = some (.lst acc) ∧ RPs K (LA A2 ρ2 h2) H' done acc ∧
        Out K A ρ h H ((compD (bindT tg) dc de w own e (w.items.drop i) h2).bind fun ps h => newLV (done ++ ps) h) Q,
      ⟨w.items.length, ρ1, h1, [], [], by omega, Stp.upd np, hA2 ▸ rel1.upd np, upd_same, .nil, by simpa using out⟩, ?_⟩
    rintro i m H2 ⟨ρ2, h2, acc, done, him, s2, rel2, hacc, hdone, out⟩
    cases hd : w.items.drop i with
    | nil =>
      rw [hd] at out
      have hlen : w.items.length ≤ i := by
        have := congrArg List.length hd
        rw [List.length_drop] at this
        simp at this
        omega
      have ei : i = w.items.length := by omega
      unfold compD at out
      split at out
      · rename_i st
        have out : Out K A ρ h H (newLV (done ++ []) h2) Q := out
        unfold newLV at out
        split at out
        · refine .inl ⟨ei ▸ itok.stop A2 ρ2 h2 H2 hA s2 rel2 st, ?_⟩
          rw [List.append_nil] at out
          refine out ρ2 _ H2 (s1.trans s2) ⟨D, acc, rfl, s1.free np, ?_, hacc, hdone.weak fun a z => back a z, hA2 ▸ rel2, rel2.weak hs⟩
          rintro (z | z)
          · exact rel2.apart D hD z
          · obtain ⟨o, q⟩ := rel1.adm D z
            rw [np] at q; cases q
        · exact out.elim
      · exact out.elim
    | cons x xs =>
      rw [hd] at out
      have hi : i < w.items.length := by
        rcases Nat.lt_or_ge i w.items.length with q | q
        · exact q
        · rw [List.drop_eq_nil_of_le q] at hd
          cases hd
      have hx : w.items[i]? = some x := by
        have := congrArg (fun l => l[0]?) hd
        simpa [List.getElem?_drop] using this
      have hd' : w.items.drop (i + 1) = xs := by
        have := congrArg (List.drop 1) hd
        rw [List.drop_drop] at this
        simpa [Nat.add_comm] using this
      unfold compD at out
      split at out
      case isFalse => exact out.elim
      rename_i st
      obtain ⟨hgo, hyl⟩ := itok.go A2 ρ2 h2 H2 i x hA s2 rel2 st hx
      refine .inr ⟨hgo, fun H' => ∃ ρ2 h2 acc done, i + 1 + (m - 1) = w.items.length ∧ Stp A ρ1 h1 H1 ρ2 h2 H' ∧ Rel K A2 ρ2 h2 H' ∧ H' D = some (.lst acc) ∧ RPs K (LA A2 ρ2 h2) H' done acc ∧
        Out K A ρ h H ((compD (bindT tg) dc de w own e (w.items.drop (i + 1)) h2).bind fun ps h => newLV (done ++ ps) h) Q, fun H' q => ⟨m - 1, by omega, q⟩, fun y H3 hy => ?_⟩
      obtain ⟨s3, rel3, rp⟩ := hyl y H3 hy
      have re3 : RE K ρ2 (LA A2 ρ2 h2) H3 e σ := re1.mono ((s2.lift hA).trans s3.ext) s2.pre
      refine ⟨A2, ρ2, h2, wipeE e own, x, rel3, re3.wiped own, rp, ?_⟩
      revert out
      cases eb : bindT tg x (wipeE e own) with
      | none => intro out; exact out.elim
      | some e1 =>
        intro out σ' re' hl' hk'
        have out : Out K A ρ h H (((dc e1 h2).bind fun b h => if b = true then (de e1 h).bind fun v h => (dataV v h).bind fun p h => (compD (bindT tg) dc de w own e xs h).bind fun ps h => .ok (p :: ps) h
            else compD (bindT tg) dc de w own e xs h).bind fun ps h => newLV (done ++ ps) h) Q := out
        refine ⟨?_, A2, ρ2, h2, e1, rel3, re', ?_⟩
        · refine wipe_same (by rw [hl', wipe_length]) fun j hj => ?_
          rw [hk' j fun z => hj (hown j z), wipe_out hj]
        · rw [R.bind_assoc] at out
          revert out
          cases dc e1 h2 with
          | exc _ _ => intro out; exact out.elim
          | bad => intro out; exact out.elim
          | ok b h3 =>
            intro out ρ3 H4 s4 rel4
            have s34 := s3.trans s4
            cases b with
            | false =>
              rw [if_neg (by decide)]
              have out : Out K A ρ h H ((compD (bindT tg) dc de w own e xs h3).bind fun ps h => newLV (done ++ ps) h) Q := out
              refine ⟨ρ3, h3, acc, done, by omega, s2.over s34 hA hs, rel4, s34.keep D _ hD hacc, hdone.step s34, ?_⟩
              rw [hd']
              exact out
            | true =>
              rw [if_pos rfl]
              have out : Out K A ρ h H (((de e1 h3).bind fun v h => (dataV v h).bind fun p h => (compD (bindT tg) dc de w own e xs h).bind fun ps h => .ok (p :: ps) h).bind fun ps h => newLV (done ++ ps) h) Q := out
              refine ⟨A2, ρ3, h3, e1, rel4, re'.step s4, ?_⟩
              rw [R.bind_assoc] at out
              revert out
              cases de e1 h3 with
              | exc _ _ => intro out; exact out.elim
              | bad => intro out; exact out.elim
              | ok v h4 =>
                intro out ρ4 y' H5 s5 r5
                have out : Out K A ρ h H (((dataV v h4).bind fun p h => (compD (bindT tg) dc de w own e xs h).bind fun ps h => .ok (p :: ps) h).bind fun ps h => newLV (done ++ ps) h) Q := out
                rw [R.bind_assoc] at out
                cases ed : dataV v h4 with
                | exc _ _ => rw [ed] at out; exact out.elim
                | bad => rw [ed] at out; exact out.elim
                | ok p h5 =>
                  rw [ed] at out
                  obtain ⟨rp5, rel5, s5'⟩ := data_ok r5 ed
                  have s35 := (s34.trans s5).trans s5'
                  have out : Out K A ρ h H (((compD (bindT tg) dc de w own e xs h5).bind fun ps h => .ok (p :: ps) h).bind fun ps h => newLV (done ++ ps) h) Q := out
                  rw [R.bind_assoc] at out
                  have hz : acc.length < sizeLine := by
                    revert out
                    cases compD (bindT tg) dc de w own e xs h5 with
                    | exc _ _ => intro out; exact out.elim
                    | bad => intro out; exact out.elim
                    | ok ps h6 =>
                      intro out
                      have out : Out K A ρ h H (newLV (done ++ p :: ps) h6) Q := out
                      unfold newLV at out
                      split at out
                      · rename_i q
                        have := hdone.length
                        simp at q
                        omega
                      · exact out.elim
                  refine ⟨acc, s35.keep D _ hD hacc, hz, ρ4, h5, acc ++ [y'], done ++ [p], by omega, (s2.over s35 hA hs).held np, rel5.hold hD, upd_same, ?_, ?_⟩
                  · exact RPs.mono (ext_hold hD) _ _ ((hdone.step s35).append (.cons rp5 .nil))
                  · rw [hd']
                    revert out
                    cases compD (bindT tg) dc de w own e xs h5 with
                    | exc _ _ => exact id
                    | bad => exact id
                    | ok ps h6 =>
                      intro out
                      have out : Out K A ρ h H (newLV (done ++ p :: ps) h6) Q := out
                      show Out K A ρ h H (newLV (done ++ [p] ++ ps) h6) Q
                      rw [List.append_assoc]
                      exact out
end G

set_option Elab.async false
set_option linter.all false
set_option maxRecDepth 100000
/-! GExp6: a list backwards; a written dict looked up. -/
namespace G
open PySem PySem.Spec PyProof.Rows L2

section
variable {X : Cx} {pos : Pos} {a b : Expr} {da db : EEnv → EH → R EV}
theorem s_rev {k : Nat} {p1 p2 p3 : Pos} (ha : PE X a (tI X.K da)) : PE X (.Subscript a (.Slice none none (some (.UnaryOp .USub (.Constant (.int 1) k p1) p2)) p3) pos) (tI X.K fun e h => (da e h).bind fun x h => revV x.settle h) := by
  refine PE.imp (pe_revL ha) ?_
  rintro σ H Q ⟨A, ρ, h, e, rel, re, out⟩
  refine ⟨A, ρ, h, e, rel, re, ?_⟩
  revert out
  show Out X.K A ρ h H ((da e h).bind _) Q → _
  cases da e h with
  | exc _ _ => intro out; exact out
  | bad => intro out; exact out
  | ok v h1 =>
    intro out ρ1 x H1 s1 r1
    have out : Out X.K A ρ h H (revV v.settle h1) Q := out
    unfold revV at out
    split at out
    · rename_i xs e1
      obtain ⟨rv, rel1⟩ := r1.settle
      obtain ⟨a, vs, rfl, h2, h3⟩ := RV.lst rv rel1 e1
      refine ⟨a, vs, rfl, SqL.of h2, fun p np => ?_⟩
      exact Out.newL out s1 rel1 h3.reverse np
    · exact out.elim
def dlitB : List (Str × Str) → List (Option Expr) → List Expr → Bool
  | [], [], [] => true
  | k :: ks, some (.Constant (.str x) _ _) :: es, .Constant (.str y) _ _ :: vs => decide (k.1 = x) && decide (k.2 = y) && dlitB ks es vs
  | _, _, _ => false
theorem dl_pps : ∀ {ks : List (Str × Str)} {es : List (Option Expr)} {vs : List Expr}, dlitB ks es vs = true → PPs X pos es vs (ks.map fun k => (tC (.str k.1), tC (.str k.2))) ∧ es.all (·.isSome) = true ∧ es.length = vs.length ∧ es.length = ks.length := by
  intro ks es vs
  fun_induction dlitB ks es vs with
  | case1 => exact fun _ => ⟨pps_nil, rfl, rfl, rfl⟩
  | case2 k ks x _ _ es y _ _ vs ih =>
    intro h
    simp only [Bool.and_eq_true, decide_eq_true_eq] at h
    obtain ⟨⟨h1, h2⟩, h3⟩ := h
    obtain ⟨k1, k2, k3, k4⟩ := ih h3
    rw [List.map_cons, h1, h2]
    exact ⟨pps_cons pe_str pe_str k1, by simpa using k2, by simp [k3], by simp [k4]⟩
  | case3 => exact fun h => (Bool.false_ne_true h).elim
theorem dl_run {σ : L2.St} {H : Hp} {Q : List (V × V) → Hp → Prop} : ∀ {ks : List (Str × Str)}, Q ((dlK ks).map fun kv => (kV kv.1, kv.2)) H → tPairs (ks.map fun k => (tC (.str k.1), tC (.str k.2))) σ H Q
  | [], h => h
  | k :: ks, h => by
    show tPairs _ σ H _
    exact dl_run (Q := fun ps H => Q ((V.str k.1, V.str k.2) :: ps) H) h
end
section
variable {X : Cx} {pos : Pos} {a b : Expr} {da db : EEnv → EH → R EV}
theorem s_dlit {ks : List (Str × Str)} {es : List (Option Expr)} {vs : List Expr} {p2 : Pos} (hu : X.A.units + 64 < cLine) (hs : NoSl a) (hk : dlitB ks es vs = true) (h0 : ks ≠ []) (h15 : ks.length ≤ 15) (ha : PE X a (tI X.K da)) :
    PE X (.Subscript (.Dict es vs p2) a pos) (tI X.K fun e h => (da e h).bind fun x h => dlitV ks x.settle h) := by
  obtain ⟨k1, k2, k3, k4⟩ := dl_pps (X := X) (pos := p2) hk
  refine PE.imp (pe_dget (by omega) (pe_disp k1 k2 k3 (fun z => h0 (by rw [z] at k4; exact List.eq_nil_of_length_eq_zero k4.symm)) (by omega)) ha hs) ?_
  rintro σ H Q ⟨A, ρ, h, e, rel, re, out⟩
  intro p np
  refine dl_run ?_
  refine ⟨upd_same, dlK ks, rfl, by unfold dlK; rw [List.length_map]; exact h15, ?_⟩
  have hz : upd (upd H p (.dK [])) p (.dK (mergeK [] (dlK ks))) = upd H p (.dK (mergeK [] (dlK ks))) := by
    funext b
    by_cases c : b = p
    · subst c; rw [upd_same, upd_same]
    · rw [upd_ne c, upd_ne c, upd_ne c]
  rw [hz]
  have s0 : Stp A ρ h H ρ h (upd H p (.dK (mergeK [] (dlK ks)))) := Stp.upd np
  have rel0 := rel.upd (o := .dK (mergeK [] (dlK ks))) np
  have hA : ∀ b, (A b ∨ b = p) → A b ∨ H b = none := fun b z => z.elim .inl fun z => .inr (by rw [z]; exact np)
  refine ⟨fun b => A b ∨ b = p, ρ, h, e, rel0, re.mono (s0.lift hA) (List.prefix_refl _), ?_⟩
  revert out
  show Out X.K A ρ h H ((da e h).bind _) Q → _
  cases da e h with
  | exc _ _ => intro out; exact out
  | bad => intro out; exact out
  | ok v h1 =>
    intro out ρ1 x H1 s1 r1
    have out : Out X.K A ρ h H (dlitV ks v.settle h1) Q := out
    obtain ⟨rv, rel1⟩ := r1.settle
    have hp : H1 p = some (.dK (mergeK [] (dlK ks))) := s1.keep p _ (.inr rfl) upd_same
    unfold dlitV at out
    split at out
    · rename_i s e1
      rw [e1] at rv
      cases rv_str rv
      split at out
      · rename_i w e2
        refine ⟨p, V.str w, rfl, ?_, ?_⟩
        · rw [← e2]
          exact DGet.k (k := Sum.inr s) hp
        · exact Out.val out (s0.over s1 hA fun b z => .inl z) (rel1.weak fun b z => .inl z) (.str w)
      · exact out.elim
    · exact out.elim
end
end G

set_option Elab.async false
set_option linter.all false
set_option maxRecDepth 100000
/-! GStm: statements. -/
namespace G
open PySem L2

def OutS (K : PySem.W.Frag) (A : Addr → Prop) (ρ : List Addr) (h : EH) (H : Hp) (r : RS) (D : Ends) : Prop :=
  match r with
  | .nx e' h' => ∀ ρ' σ' H', Stp A ρ h H ρ' h' H' → Rel K A ρ' h' H' → RE K ρ' (LA A ρ' h') H' e' σ' → D.nx σ' H'
  | .ret v h' => ∀ ρ' x H', Stp A ρ h H ρ' h' H' → RR K A H ρ' h' H' v x → D.rt x H'
  | .brk e' h' => ∀ ρ' σ' H', Stp A ρ h H ρ' h' H' → Rel K A ρ' h' H' → RE K ρ' (LA A ρ' h') H' e' σ' → D.bk σ' H'
  | .ct e' h' => ∀ ρ' σ' H', Stp A ρ h H ρ' h' H' → Rel K A ρ' h' H' → RE K ρ' (LA A ρ' h') H' e' σ' → D.ct σ' H'
  | _ => False
def tS (K : PySem.W.Frag) (d : EEnv → EH → RS) : TS := fun D σ H => ∃ A ρ h e, Rel K A ρ h H ∧ RE K ρ (LA A ρ h) H e σ ∧ OutS K A ρ h H (d e h) D
theorem PS.imp {X : Cx} {st : Stmt} {t t' : TS} (h : PS X st t) (hi : ∀ D σ H, t' D σ H → t D σ H) : PS X st t' := ⟨fun pins s σ H D I q => h.run pins s σ H D I (hi D σ H q)⟩
theorem PSs.imp {X : Cx} {st : List Stmt} {t t' : TS} (h : PSs X st t) (hi : ∀ D σ H, t' D σ H → t D σ H) : PSs X st t' := ⟨fun pins s σ H D I q => h.run pins s σ H D I (hi D σ H q)⟩

section
variable {K : PySem.W.Frag} {A : Addr → Prop} {ρ ρ1 : List Addr} {h h1 : EH} {H H1 : Hp} {D : Ends}
theorem RR.weakS {v : EV} {x : V} {ρ2 : List Addr} {h2 : EH} {H2 : Hp} (s : Stp A ρ h H ρ1 h1 H1) (r : RR K A H1 ρ2 h2 H2 v x) : RR K A H ρ2 h2 H2 v x := by
  cases v with
  | tl xs =>
    obtain ⟨a, vs, k1, k2, k3⟩ := r
    exact ⟨a, vs, k1, s.free k2, k3⟩
  | td _ => exact r
  | pv _ => exact r
  | fl _ => exact r
  | ref _ => exact r
  | fn _ => exact r
theorem OutS.weakS {r : RS} (s : Stp A ρ h H ρ1 h1 H1) (o : OutS K A ρ h H r D) : OutS K A ρ1 h1 H1 r D := by
  cases r with
  | nx e' h' => exact fun ρ' σ' H' s' => o ρ' σ' H' (s.trans s')
  | ret v h' => exact fun ρ' x H' s' r' => o ρ' x H' (s.trans s') (r'.weakS s)
  | brk e' h' => exact fun ρ' σ' H' s' => o ρ' σ' H' (s.trans s')
  | ct e' h' => exact fun ρ' σ' H' s' => o ρ' σ' H' (s.trans s')
  | exc _ _ _ => exact o
  | bad => exact o
/-- other ends -/
theorem OutS.ends {r : RS} {D' : Ends} (o : OutS K A ρ h H r D) (h1 : ∀ σ H, D.nx σ H → D'.nx σ H) (h2 : ∀ x H, D.rt x H → D'.rt x H) (h3 : ∀ σ H, D.bk σ H → D'.bk σ H) (h4 : ∀ σ H, D.ct σ H → D'.ct σ H) : OutS K A ρ h H r D' := by
  cases r with
  | nx e' h' => exact fun ρ' σ' H' a b c => h1 _ _ (o ρ' σ' H' a b c)
  | ret v h' => exact fun ρ' x H' a b => h2 _ _ (o ρ' x H' a b)
  | brk e' h' => exact fun ρ' σ' H' a b c => h3 _ _ (o ρ' σ' H' a b c)
  | ct e' h' => exact fun ρ' σ' H' a b c => h4 _ _ (o ρ' σ' H' a b c)
  | exc _ _ _ => exact o
  | bad => exact o
/-- a new list gets a number -/
theorem name_ok {xs : List PyData} {x : V} (s : Stp A ρ h H ρ1 h1 H1) (r : RR K A H ρ1 h1 H1 (.tl xs) x) : ∃ a, x = .ref a ∧ Stp A ρ h H (ρ1 ++ [a]) (h1 ++ [.lst xs]) H1 ∧ Rel K A (ρ1 ++ [a]) (h1 ++ [.lst xs]) H1 ∧ (ρ1 ++ [a])[h1.length]? = some a := by
  obtain ⟨a, vs, rfl, k1, k2, k3, k4, k5, k6⟩ := r
  have hl := k6.len
  have live : ∀ b, Live (ρ1 ++ [a]) (h1 ++ [.lst xs]) b → Live ρ1 h1 b ∨ b = a := by
    rintro b ⟨i, o, e1, e2, e3⟩
    rcases Nat.lt_or_ge i h1.length with q | q
    · rw [List.getElem?_append_left (by omega)] at e1
      rw [List.getElem?_append_left q] at e2
      exact .inl ⟨i, o, e1, e2, e3⟩
    · rw [List.getElem?_append_right (by omega)] at e1
      have : i - ρ1.length = 0 := by
        have := (List.getElem?_eq_some_iff.mp e1).1
        simp at this
        omega
      rw [this] at e1
      simp at e1
      exact .inr e1.symm
  have la : ∀ b, LA A (ρ1 ++ [a]) (h1 ++ [.lst xs]) b → LA A ρ1 h1 b ∨ b = a := fun b z => z.elim (fun z => (live b z).elim (fun z => .inl (.inl z)) .inr) fun z => .inl (.inr z)
  have la' : ∀ b, LA A (ρ1 ++ [a]) (h1 ++ [.lst xs]) b → LA (fun b => A b ∨ b = a) ρ1 h1 b := fun b z => (la b z).elim (fun z => z.elim .inl fun z => .inr (.inl z)) fun z => .inr (.inr z)
  refine ⟨a, rfl, ⟨s.pre.trans (List.prefix_append _ _), fun b o n e => ?_, fun i b hi e => ?_, s.dom, s.keep⟩, ⟨by simp [hl], fun i j b o o' e1 e2 q1 q2 n1 n2 => ?_, fun i o b e1 e2 => ?_, k6.adm, fun b z q => ?_⟩, by rw [← hl]; simp⟩
  · obtain ⟨m1, m2⟩ := s.ext b o n e
    exact ⟨fun z => (la b z).elim m1 fun z => (by subst z; rw [k1] at e; cases e), m2⟩
  · rcases Nat.lt_or_ge i ρ1.length with q | q
    · rw [List.getElem?_append_left q] at e
      exact s.new i b hi e
    · rw [List.getElem?_append_right q] at e
      have : i - ρ1.length = 0 := by
        have := (List.getElem?_eq_some_iff.mp e).1
        simp at this
        omega
      rw [this] at e
      simp at e
      rw [← e]
      exact k1
  · have g : ∀ {i : Nat} {o : EO}, (ρ1 ++ [a])[i]? = some b → (h1 ++ [EO.lst xs])[i]? = some o → o ≠ EO.dead → (i < h1.length ∧ ρ1[i]? = some b ∧ h1[i]? = some o) ∨ (i = h1.length ∧ b = a) := fun {i o} e1 e2 n => by
      rcases Nat.lt_or_ge i h1.length with q | q
      · rw [List.getElem?_append_left (by omega)] at e1
        rw [List.getElem?_append_left q] at e2
        exact .inl ⟨q, e1, e2⟩
      · have hi := (List.getElem?_eq_some_iff.mp e2).1
        simp at hi
        have : i = h1.length := by omega
        subst this
        rw [← hl] at e1
        simp at e1
        exact .inr ⟨rfl, e1.symm⟩
    rcases g e1 q1 n1 with ⟨c1, c2, c3⟩ | ⟨c1, c2⟩ <;> rcases g e2 q2 n2 with ⟨d1, d2, d3⟩ | ⟨d1, d2⟩
    · exact k6.inj i j b o o' c2 d2 c3 d3 n1 n2
    · subst d2
      exact absurd (Or.inl ⟨i, o, c2, c3, n1⟩) k2
    · subst c2
      exact absurd (Or.inl ⟨j, o', d2, d3, n2⟩) k2
    · omega
  · rcases Nat.lt_or_ge i h1.length with q | q
    · rw [List.getElem?_append_left q] at e1
      rw [List.getElem?_append_left (by omega)] at e2
      exact (k5.obj i o b e1 e2).weak la'
    · have hi := (List.getElem?_eq_some_iff.mp e1).1
      simp at hi
      have : i = h1.length := by omega
      subst this
      simp at e1
      rw [← hl] at e2
      simp at e2
      subst e1
      subst e2
      exact ⟨vs, k3, k4.weak fun b z => la b z⟩
  · rcases live b q with q | q
    · exact k6.apart b z q
    · subst q
      exact k2 (.inr z)
end

section
variable {X : Cx} {pos : Pos} {a b c : Expr} {da db dc : EEnv → EH → R EV} {st : Stmt} {sts : List Stmt} {ds dr : EEnv → EH → RS}

/-- an expression ahead of a statement -/
theorem tS_exp {d : EEnv → EH → R EV} {f : EV → EEnv → EH → RS} {t : St → Hp → VK → Prop} {k : Ends → St → VK} {D : Ends} {σ : St} {H : Hp}
    (hk : ∀ A ρ h H e ρ1 h1 H1 v x, Rel X.K A ρ h H → RE X.K ρ (LA A ρ h) H e σ → Stp A ρ h H ρ1 h1 H1 → RR X.K A H ρ1 h1 H1 v x → OutS X.K A ρ h H (f v e h1) D → k D σ x H1)
    (o : tS X.K (fun e h => (d e h).to e fun v h => f v e h) D σ H) : tI X.K d σ H (k D σ) := by
  obtain ⟨A, ρ, h, e, rel, re, out⟩ := o
  refine ⟨A, ρ, h, e, rel, re, ?_⟩
  revert out
  show OutS X.K A ρ h H ((d e h).to e _) D → _
  cases d e h with
  | exc _ _ => exact id
  | bad => exact id
  | ok v h1 => intro out ρ1 x H1 s1 r1; exact hk A ρ h H e ρ1 h1 H1 v x rel re s1 r1 out

theorem ss_nil : PSs X [] (tS X.K fun e h => .nx e h) := by
  refine PSs.imp pss_nil ?_
  rintro D σ H ⟨A, ρ, h, e, rel, re, out⟩
  exact out ρ σ H Stp.refl rel re
theorem ss_cons (h1 : PS X st (tS X.K ds)) (h2 : PSs X sts (tS X.K dr)) : PSs X (st :: sts) (tS X.K fun e h => (ds e h).bind fun e h => dr e h) := by
  refine PSs.imp (pss_cons h1 h2) ?_
  rintro D σ H ⟨A, ρ, h, e, rel, re, out⟩
  refine ⟨A, ρ, h, e, rel, re, ?_⟩
  revert out
  show OutS X.K A ρ h H ((ds e h).bind _) D → _
  cases ds e h with
  | nx e1 h1 =>
    intro out ρ1 σ1 H1 s1 rel1 re1
    exact ⟨A, ρ1, h1, e1, rel1, re1, OutS.weakS s1 out⟩
  | ret _ _ => exact id
  | brk _ _ => exact id
  | ct _ _ => exact id
  | exc _ _ _ => exact id
  | bad => exact id
theorem st_pass : PS X (.Pass pos) (tS X.K fun e h => .nx e h) := by
  refine PS.imp ps_pass ?_
  rintro D σ H ⟨A, ρ, h, e, rel, re, out⟩
  exact out ρ σ H Stp.refl rel re
theorem st_brk : PS X (.Break pos) (tS X.K fun e h => .brk e h) := by
  refine PS.imp ps_break ?_
  rintro D σ H ⟨A, ρ, h, e, rel, re, out⟩
  exact out ρ σ H Stp.refl rel re
theorem st_exp (hs : swapsWith a none pos.line X.env = pure false) (ha : PE X a (tI X.K da)) : PS X (.Expr a pos) (tS X.K fun e h => (da e h).to e fun _ h => .nx e h) := by
  refine PS.imp (ps_expr ha hs) fun D σ H o => tS_exp (f := fun _ e h => .nx e h) (k := fun D σ _ H1 => D.nx σ H1) (t := fun _ _ _ => True) ?_ o
  intro A ρ h H e ρ1 h1 H1 v x rel re s1 r1 out
  exact out ρ1 σ H1 s1 r1.rel (re.step s1)
theorem st_ret (ha : PE X a (tI X.K da)) : PS X (.Return (some a) pos) (tS X.K fun e h => (da e h).to e fun v h => .ret v h) := by
  refine PS.imp (ps_ret ha) fun D σ H o => tS_exp (f := fun v _ h => .ret v h) (k := fun D σ x H1 => D.rt x H1) (t := fun _ _ _ => True) ?_ o
  intro A ρ h H e ρ1 h1 H1 v x rel re s1 r1 out
  exact out ρ1 x H1 s1 r1
theorem st_retN : PS X (.Return none pos) (tS X.K fun _ h => .ret (.pv .none) h) := by
  refine PS.imp ps_retN ?_
  rintro D σ H ⟨A, ρ, h, e, rel, re, out⟩
  exact out ρ .non H Stp.refl ⟨.non, rel⟩
theorem st_raise {eo : Option Expr} {co : Option Expr} : PS X (.Raise eo co pos) (tS X.K fun _ _ => .bad) := by
  refine PS.imp ps_never ?_
  rintro D σ H ⟨A, ρ, h, e, rel, re, out⟩
  exact out
/-- what a name's store does -/
theorem store_ok' {i : Nat} {own : Bool} {A : Addr → Prop} {ρ ρ1 : List Addr} {h h1 : EH} {H H1 : Hp} {e : EEnv} {σ : St} {v : EV} {x : V} {D : Ends} (re : RE X.K ρ (LA A ρ h) H e σ) (s1 : Stp A ρ h H ρ1 h1 H1) (r1 : RR X.K A H ρ1 h1 H1 v x)
    (out : OutS X.K A ρ h H (storeV i own v e h1) D) : D.nx (σ.set i (some x)) H1 := by
  have plain : ∀ {w : EV}, RV X.K ρ1 (LA A ρ1 h1) H1 w x → OutS X.K A ρ h H (.nx (e.set i (some w)) h1) D → D.nx (σ.set i (some x)) H1 := fun {w} rw out => out ρ1 _ H1 s1 r1.rel ((re.step s1).set i rw)
  cases v with
  | pv p => exact plain (w := .pv p) r1.1 out
  | fl xs => exact plain (w := .fl xs) r1.1 out
  | ref n => exact plain (w := .ref n) r1.1 out
  | fn n => exact r1.1.elim
  | td _ => exact r1.elim
  | tl xs =>
    have out : OutS X.K A ρ h H (if own = true then .nx (e.set i (some (.ref h1.length))) (h1 ++ [.lst xs]) else .nx (e.set i (some (.pv (.list xs)))) h1) D := out
    split at out
    · obtain ⟨a, rfl, s2, rel2, ga⟩ := name_ok s1 r1
      exact out _ _ H1 s2 rel2 ((re.step s2).set i ⟨a, rfl, ga⟩)
    · exact plain (w := .pv (.list xs)) r1.settle.1 out
theorem st_asg {i : Nat} {own : Bool} {x : Str} {p2 : Pos} (hN : X.N.Nodup) (hi : X.N[i]? = some x) (hx : Loc X.env.scope x) (hf : X.fn x = true ∨ X.env.scope.names.lookup x = some .local) (hs : swapsWith a (some (.Name x p2)) pos.line X.env = pure false)
    (ha : PE X a (tI X.K da)) : PS X (.Assign [.Name x p2] a pos) (tS X.K fun e h => (da e h).to e fun v h => storeV i own v e h) := by
  refine PS.imp (ps_set hN hi hx ha hs hf) fun D σ H o => tS_exp (f := fun v e h => storeV i own v e h) (k := fun D σ x H1 => D.nx (σ.set i (some x)) H1) (t := fun _ _ _ => True) ?_ o
  intro A ρ h H e ρ1 h1 H1 v x rel re s1 r1 out
  exact store_ok' re s1 r1 out
/-- name = [..] on one line -/
theorem st_asgC {i : Nat} {own : Bool} {y : Str} {py spos : Pos} {elt tg iter : Expr} {ifs : List Expr} {scope : Scope} {ow : List (Str × Nat)} {dw : EEnv → EH → R Walked} {tgt : IT} {dcn : EEnv → EH → R Bool} {de : EEnv → EH → R EV}
    (hc : X.calm = true) (hN : X.N.Nodup) (hy : X.N[i]? = some y) (hyl : X.env.scope.names.lookup y = some .local)
    (hsw : swapsWith (.ListComp elt [⟨tg, iter, ifs, 0⟩] scope pos) (some (.Name y py)) spos.line X.env = pure true) (hi : PI X tg iter (tW X.K dw)) (ok : BlkOk X.N X.env.scope scope ow)
    (hg : ∀ (s : Shared) (H : Hp) (C : Addr) (cl : List (Str × Addr)) (fp : List Addr), PG (X.blk s H scope (compEnvC scope cl C X.env) fp) tg (gT X.K tgt))
    (ht : ∀ (s : Shared) (H : Hp) (C : Addr) (cl : List (Str × Addr)) (fp : List Addr), PTs (X.blk s H scope (compEnvC scope cl C X.env) fp) ifs (tT X.K dcn))
    (he : ∀ (s : Shared) (H : Hp) (C : Addr) (cl : List (Str × Addr)) (fp : List Addr), PE (X.blk s H scope (compEnvC scope cl C X.env) fp) elt (tI X.K de))
    (hs : ∀ x, foldedSetIterable iter X.env x = pure x) (hown : ∀ i ∈ tgt.names, i ∈ ow.map (·.2)) :
    PS X (.Assign [.Name y py] (.ListComp elt [⟨tg, iter, ifs, 0⟩] scope pos) spos)
      (tS X.K fun e h => ((dw e h).bind fun w h => (compD (bindT tgt) dcn de w (ow.map (·.2)) e w.items h).bind fun ps h => newLV ps h).to e fun v h => storeV i own v e h) := by
  refine PS.imp (ps_setLc hc hN hy hyl hsw hi ok hg ht he hs) fun D σ H o => i_comp hown σ H _ (tS_exp (f := fun v e h => storeV i own v e h) (k := fun D σ x H1 => D.nx (σ.set i (some x)) H1) (t := fun _ _ _ => True) ?_ o)
  intro A ρ h H e ρ1 h1 H1 v x rel re s1 r1 out
  exact store_ok' re s1 r1 out
theorem st_iff {dt : EEnv → EH → R Bool} {s1 s2 : List Stmt} {d1 d2 : EEnv → EH → RS} (hc : PT X c (tT X.K dt)) (h1 : PSs X s1 (tS X.K d1)) (h2 : PSs X s2 (tS X.K d2)) :
    PS X (.If c s1 s2 pos) (tS X.K fun e h => (dt e h).to e fun t h => if t = true then d1 e h else d2 e h) := by
  refine PS.imp (ps_if hc h1 h2) ?_
  rintro D σ H ⟨A, ρ, h, e, rel, re, out⟩
  refine ⟨A, ρ, h, e, rel, re, ?_⟩
  revert out
  show OutS X.K A ρ h H ((dt e h).to e _) D → _
  cases dt e h with
  | exc _ _ => exact id
  | bad => exact id
  | ok t h1 =>
    intro out ρ1 H1 s1 rel1
    have out : OutS X.K A ρ h H (if t = true then d1 e h1 else d2 e h1) D := out
    cases t with
    | true =>
      rw [if_pos rfl] at out ⊢
      exact ⟨A, ρ1, h1, e, rel1, re.step s1, OutS.weakS s1 out⟩
    | false =>
      rw [if_neg (by decide)] at out ⊢
      exact ⟨A, ρ1, h1, e, rel1, re.step s1, OutS.weakS s1 out⟩
/-- a, b, .. = a tuple, a list -/
theorem st_asgT {k : Nat} {ts : ITs} {p2 : Pos} {es : List Expr} (hc : X.calm = true) (ns : nsts es = true) (hl : es.length = ts.len) (hg : PGs X es (gTs X.K ts)) (hs : swapsWithSole [.Tuple es k p2] a pos.line X.env = pure false) (hw : swappedStores [.Tuple es k p2] a X.env = pure none)
    (ha : PE X a (tI X.K da)) : PS X (.Assign [.Tuple es k p2] a pos) (tS X.K fun e h => (da e h).to e fun v h => unpV ts v.settle e h) := by
  refine PS.imp (ps_asg ha (g_tup hc ns hl hg) hs hw (by rfl)) fun D σ H o => tS_exp (f := fun v e h => unpV ts v.settle e h) (k := fun D σ x H1 => gT X.K (.tp ts) x σ H1 D.nx) (t := fun _ _ _ => True) ?_ o
  intro A ρ h H e ρ1 h1 H1 v x rel re s1 r1 out
  obtain ⟨rv, rel1⟩ := r1.settle
  unfold unpV at out
  split at out
  · rename_i p ep
    rw [ep] at rv
    refine ⟨A, ρ1, h1, e, p, rel1, re.step s1, rv, ?_⟩
    split at out
    · rename_i e2 eb
      rw [eb]
      intro σ' re' _ _
      exact out ρ1 σ' H1 s1 rel1 re'
    · exact out.elim
  · exact out.elim
theorem st_par2 {i j : Nat} {x y : Str} {px py pt : Pos} {kt k2 : Nat} {pt2 : Pos} (hc : X.calm = true) (hN : X.N.Nodup) (hi : X.N[i]? = some x) (hj : X.N[j]? = some y) (hij : i ≠ j)
    (hx : X.env.scope.names.lookup x = some .local) (hy : X.env.scope.names.lookup y = some .local) (ns : nst a = true) (ns2 : nst b = true)
    (hw : swappedStores [.Tuple [.Name x px, .Name y py] kt pt] (.Tuple [a, b] k2 pt2) X.env = pure (some [x, y])) (ha : PE X a (tI X.K da)) (hb : PE X b (tI X.K db)) :
    PS X (.Assign [.Tuple [.Name x px, .Name y py] kt pt] (.Tuple [a, b] k2 pt2) pos) (tS X.K fun e h => (da e h).to e fun v h => (db e h).to e fun w h => .nx ((e.set i (some v.settle)).set j (some w.settle)) h) := by
  refine PS.imp (ps_par hc hN hi hj hij hx hy (s_args ns ha (s_args ns2 hb s_args0)) hw) ?_
  rintro D σ H ⟨A, ρ, h, e, rel, re, out⟩
  refine ⟨A, ρ, h, e, rel, re, ?_⟩
  revert out
  show OutS X.K A ρ h H ((da e h).to e fun v h => (db e h).to e _) D → OutA X.K A ρ h H ((da e h).bind fun x h => ((db e h).bind fun y h => .ok [y.settle] h).bind fun xs h => .ok (x.settle :: xs) h) _
  cases da e h with
  | exc _ _ => exact id
  | bad => exact id
  | ok v h1 =>
    show OutS X.K A ρ h H ((db e h1).to e _) D → OutA X.K A ρ h H (((db e h1).bind _).bind _) _
    cases db e h1 with
    | exc _ _ => exact id
    | bad => exact id
    | ok w h2 =>
      intro out ρ1 xs H1 s1 rel1 rvs
      obtain ⟨z, u, rfl, rz, ru⟩ := rvs2 rvs
      exact ⟨z, u, rfl, out ρ1 _ H1 s1 rel1 (((re.step s1).set i rz).set j ru)⟩
/-- a list's item is written -/
theorem st_setix {p2 : Pos} (has : ∀ v, assign (.Subscript a b p2) X.env v = (do
      let ov ← holding [v] (eval a X.env)
      let iv ← holding [v, ov] (eval b X.env)
      standAt p2
      holding [v, ov, iv] (setItem ov iv v)
      release [v, ov, iv] [])) (hs : swapsWithSole [.Subscript a b p2] c pos.line X.env = pure false) (hc : PE X c (tI X.K dc)) (ha : PE X a (tI X.K da)) (hb : PE X b (tI X.K db)) :
    PS X (.Assign [.Subscript a b p2] c pos) (tS X.K fun e h => (dc e h).to e fun x h => (dataV x h).to e fun p h => (da e h).to e fun y h => (db e h).to e fun z h => setV p y.settle z.settle e h) := by
  refine PS.imp (ps_asg hc (pg_sub ha hb set_list has) hs (by rfl) (by rfl)) fun D σ H o => tS_exp (f := fun x e h => (dataV x h).to e fun p h => (da e h).to e fun y h => (db e h).to e fun z h => setV p y.settle z.settle e h)
    (k := fun D σ x H1 => gSub (tI X.K da) (tI X.K db) rSetL x σ H1 D.nx) (t := fun _ _ _ => True) ?_ o
  intro A ρ h H e ρ1 h1 H1 v x rel re s1 r1 out
  cases ed : dataV v h1 with
  | exc _ _ => rw [ed] at out; exact out.elim
  | bad => rw [ed] at out; exact out.elim
  | ok p h1' =>
    rw [ed] at out
    obtain ⟨rp, rel1, s1'⟩ := data_ok r1 ed
    have s1 := s1.trans s1'
    refine ⟨A, ρ1, h1', e, rel1, re.step s1, ?_⟩
    revert out
    show OutS X.K A ρ h H ((da e h1').to e _) D → _
    cases da e h1' with
    | exc _ _ => exact id
    | bad => exact id
    | ok y h2 =>
      intro out ρ2 yv H2 s2 r2
      obtain ⟨ry, rel2⟩ := r2.settle
      refine ⟨A, ρ2, h2, e, rel2, (re.step s1).step s2, ?_⟩
      revert out
      show OutS X.K A ρ h H ((db e h2).to e _) D → _
      cases db e h2 with
      | exc _ _ => exact id
      | bad => exact id
      | ok z h3 =>
        intro out ρ3 zv H3 s3 r3
        obtain ⟨rz, rel3⟩ := r3.settle
        have ry := ry.step s3
        have out : OutS X.K A ρ h H (setV p y.settle z.settle e h3) D := out
        have s := (s1.trans s2).trans s3
        have rp := (rp.step s2).step s3
        revert out ry rz
        generalize y.settle = y'
        generalize z.settle = z'
        intro rz ry out
        unfold setV at out
        split at out
        · split at out
          · rename_i xs e1
            split at out
            · rename_i j ej
              obtain ⟨q, rfl, kq⟩ := ry
              cases rv_int rz
              obtain ⟨us, k1, k2⟩ := rel3.at e1 kq
              refine ⟨q, us, _, j, rfl, rfl, k1, by rw [← k2.length]; exact ej, ?_⟩
              obtain ⟨rel4, s4⟩ := put_ok rel3 e1 kq k1 (k2.set j rp)
              exact out ρ3 σ _ (s.trans s4) rel4 ((re.step s).step s4)
            · exact out.elim
          · exact out.elim
        · exact out.elim

/-! ### loops -/
theorem st_for {tg iter : Expr} {body : List Stmt} {dw : EEnv → EH → R Walked} {tgt : IT} {db : EEnv → EH → RS} (hp : PassesOwn (model X.prog X.w) X.A X.env X.xe) (hc : X.calm = true) (hi : PI X tg iter (tW X.K dw)) (hg : PG X tg (gT X.K tgt)) (hb : PSs X body (tS X.K db))
    (hs : ∀ x, foldedSetIterable iter X.env x = pure x) : PS X (.For tg iter body [] pos) (tS X.K fun e h => (dw e h).to e fun w h => forD (bindT tgt) db w w.items e h) := by
  refine PS.imp (ps_for hp hc hi hg hb hs) ?_
  rintro D σ H ⟨A, ρ, h, e, rel, re, out⟩
  refine ⟨A, ρ, h, e, rel, re, ?_⟩
  revert out
  show OutS X.K A ρ h H ((dw e h).to e _) D → _
  cases dw e h with
  | exc _ _ => exact id
  | bad => exact id
  | ok w h1 =>
    intro out ρ1 H1 J s1 rel1 itok
    have out : OutS X.K A ρ h H (forD (bindT tgt) db w w.items e h1) D := out
    refine ⟨fun i m σ' H' => ∃ ρ2 h2 e2, i + m = w.items.length ∧ Stp A ρ1 h1 H1 ρ2 h2 H' ∧ Rel X.K A ρ2 h2 H' ∧ RE X.K ρ2 (LA A ρ2 h2) H' e2 σ' ∧ OutS X.K A ρ h H (forD (bindT tgt) db w (w.items.drop i) e2 h2) D,
      ⟨w.items.length, ρ1, h1, e, by omega, Stp.refl, rel1, re.step s1, by simpa using out⟩, ?_⟩
    rintro i m σ2 H2 ⟨ρ2, h2, e2, him, s2, rel2, re2, out⟩
    cases hd : w.items.drop i with
    | nil =>
      rw [hd] at out
      have hlen : w.items.length ≤ i := by
        have := congrArg List.length hd
        rw [List.length_drop] at this
        simp at this
        omega
      have ei : i = w.items.length := by omega
      unfold forD at out
      split at out
      · rename_i st
        exact .inl ⟨ei ▸ itok.stop A ρ2 h2 H2 (fun _ z => .inl z) s2 rel2 st, out ρ2 σ2 H2 (s1.trans s2) rel2 re2⟩
      · exact out.elim
    | cons x xs =>
      rw [hd] at out
      have hi : i < w.items.length := by
        rcases Nat.lt_or_ge i w.items.length with q | q
        · exact q
        · rw [List.drop_eq_nil_of_le q] at hd
          cases hd
      have hx : w.items[i]? = some x := by
        have := congrArg (fun l => l[0]?) hd
        simpa [List.getElem?_drop] using this
      have hd' : w.items.drop (i + 1) = xs := by
        have := congrArg (List.drop 1) hd
        rw [List.drop_drop] at this
        simpa [Nat.add_comm] using this
      unfold forD at out
      split at out
      case isFalse => exact out.elim
      rename_i st
      obtain ⟨hgo, hyl⟩ := itok.go A ρ2 h2 H2 i x (fun _ z => .inl z) s2 rel2 st hx
      refine .inr ⟨hgo, fun σ' H' => ∃ ρ2 h2 e2, i + 1 + (m - 1) = w.items.length ∧ Stp A ρ1 h1 H1 ρ2 h2 H' ∧ Rel X.K A ρ2 h2 H' ∧ RE X.K ρ2 (LA A ρ2 h2) H' e2 σ' ∧ OutS X.K A ρ h H (forD (bindT tgt) db w (w.items.drop (i + 1)) e2 h2) D,
        fun σ' H' q => ⟨m - 1, by omega, q⟩, fun y H3 hy => ?_⟩
      obtain ⟨s3, rel3, rp⟩ := hyl y H3 hy
      refine ⟨A, ρ2, h2, e2, x, rel3, re2.step s3, rp, ?_⟩
      revert out
      cases eb : bindT tgt x e2 with
      | none => intro out; exact out.elim
      | some e3 =>
        intro out σ' re' _ _
        refine ⟨A, ρ2, h2, e3, rel3, re', ?_⟩
        have s23 := s2.trans s3
        have go : ∀ {e4 : EEnv} {h4 : EH}, OutS X.K A ρ h H (forD (bindT tgt) db w xs e4 h4) D → ∀ ρ4 σ4 H4, Stp A ρ2 h2 H3 ρ4 h4 H4 → Rel X.K A ρ4 h4 H4 → RE X.K ρ4 (LA A ρ4 h4) H4 e4 σ4 →
            ∃ ρ2 h2 e2, i + 1 + (m - 1) = w.items.length ∧ Stp A ρ1 h1 H1 ρ2 h2 H4 ∧ Rel X.K A ρ2 h2 H4 ∧ RE X.K ρ2 (LA A ρ2 h2) H4 e2 σ4 ∧ OutS X.K A ρ h H (forD (bindT tgt) db w (w.items.drop (i + 1)) e2 h2) D :=
          fun {e4 h4} o ρ4 σ4 H4 s4 rel4 re4 => ⟨ρ4, h4, e4, by omega, s23.trans s4, rel4, re4, by rw [hd']; exact o⟩
        revert out
        show OutS X.K A ρ h H (match db e3 h2 with
          | .nx e2 h2 => forD (bindT tgt) db w xs e2 h2
          | .ct e2 h2 => forD (bindT tgt) db w xs e2 h2
          | .brk e2 h2 => .nx e2 h2
          | .ret v h2 => .ret v h2
          | .exc x e2 h2 => .exc x e2 h2
          | .bad => .bad) D → _
        cases db e3 h2 with
        | nx e4 h4 => intro out; exact go out
        | ct e4 h4 => intro out; exact go out
        | brk e4 h4 => intro out ρ4 σ4 H4 s4 rel4 re4; exact out ρ4 σ4 H4 ((s1.trans s23).trans s4) rel4 re4
        | ret v h4 => intro out ρ4 x4 H4 s4 r4; exact out ρ4 x4 H4 ((s1.trans s23).trans s4) (r4.weakS (s1.trans s23))
        | exc _ _ _ => exact id
        | bad => exact id
theorem st_while {body : List Stmt} {dt : EEnv → EH → R Bool} {db : EEnv → EH → RS} {n : Nat} (hp : PassesOwn (model X.prog X.w) X.A X.env X.xe) (hc : PT X c (tT X.K dt)) (hb : PSs X body (tS X.K db)) :
    PS X (.While c body [] pos) (tS X.K fun e h => whileD dt db n e h) := by
  refine PS.imp (ps_while hp hc hb) ?_
  rintro D σ H ⟨A, ρ, h, e, rel, re, out⟩
  refine ⟨fun m σ' H' => ∃ ρ2 h2 e2, Stp A ρ h H ρ2 h2 H' ∧ Rel X.K A ρ2 h2 H' ∧ RE X.K ρ2 (LA A ρ2 h2) H' e2 σ' ∧ OutS X.K A ρ h H (whileD dt db m e2 h2) D, ⟨n, ρ, h, e, Stp.refl, rel, re, out⟩, ?_⟩
  rintro m σ2 H2 ⟨ρ2, h2, e2, s2, rel2, re2, out⟩
  cases m with
  | zero => exact out.elim
  | succ m =>
    refine ⟨A, ρ2, h2, e2, rel2, re2, ?_⟩
    unfold whileD at out
    revert out
    cases dt e2 h2 with
    | exc _ _ => exact id
    | bad => exact id
    | ok t h3 =>
      intro out ρ3 H3 s3 rel3
      have s23 := s2.trans s3
      have re3 := re2.step s3
      cases t with
      | false =>
        rw [if_neg (by decide)]
        exact out ρ3 σ2 H3 s23 rel3 re3
      | true =>
        rw [if_pos rfl]
        refine ⟨fun σ' H' => ∃ ρ2 h2 e2, Stp A ρ h H ρ2 h2 H' ∧ Rel X.K A ρ2 h2 H' ∧ RE X.K ρ2 (LA A ρ2 h2) H' e2 σ' ∧ OutS X.K A ρ h H (whileD dt db m e2 h2) D, fun σ' H' q => ⟨m, by omega, q⟩, A, ρ3, h3, e2, rel3, re3, ?_⟩
        revert out
        show OutS X.K A ρ h H (match db e2 h3 with
          | .nx e2 h2 => whileD dt db m e2 h2
          | .ct e2 h2 => whileD dt db m e2 h2
          | .brk e2 h2 => .nx e2 h2
          | .ret v h2 => .ret v h2
          | .exc x e2 h2 => .exc x e2 h2
          | .bad => .bad) D → _
        cases db e2 h3 with
        | nx e4 h4 => intro out ρ4 σ4 H4 s4 rel4 re4; exact ⟨ρ4, h4, e4, s23.trans s4, rel4, re4, out⟩
        | ct e4 h4 => intro out ρ4 σ4 H4 s4 rel4 re4; exact ⟨ρ4, h4, e4, s23.trans s4, rel4, re4, out⟩
        | brk e4 h4 => intro out ρ4 σ4 H4 s4 rel4 re4; exact out ρ4 σ4 H4 (s23.trans s4) rel4 re4
        | ret v h4 => intro out ρ4 x4 H4 s4 r4; exact out ρ4 x4 H4 (s23.trans s4) (r4.weakS s23)
        | exc _ _ _ => exact id
        | bad => exact id
end
end G

set_option Elab.async false
set_option linter.all false
set_option maxRecDepth 100000
/-! GDct: dicts as objects. -/
namespace G
open PySem L2

section
variable {K : PySem.W.Frag} {L : Addr → Prop} {H : Hp}
theorem RKs.nil : RKs K L H [] [] := ⟨rfl, .nil⟩
theorem RKs.cons {k : Key} {p : PyData} {v : V} {kvs : List (Key × PyData)} {vs : List (Key × V)} (r : RP K L H p v) (t : RKs K L H kvs vs) : RKs K L H ((k, p) :: kvs) ((k, v) :: vs) :=
  ⟨by simp only [List.map_cons, t.1], .cons r t.2⟩
theorem RKs.inv {q : Key × PyData} {kvs : List (Key × PyData)} {vs : List (Key × V)} (r : RKs K L H (q :: kvs) vs) : ∃ v ws, vs = (q.1, v) :: ws ∧ RP K L H q.2 v ∧ RKs K L H kvs ws := by
  obtain ⟨r1, r2⟩ := r
  cases vs with
  | nil => simp at r1
  | cons w ws =>
    simp only [List.map_cons, List.cons.injEq] at r1
    rw [List.map_cons, List.map_cons] at r2
    cases r2 with
    | cons a b => exact ⟨w.2, ws, by rw [r1.1], a, r1.2, b⟩
theorem RKs.length {kvs : List (Key × PyData)} {vs : List (Key × V)} (r : RKs K L H kvs vs) : kvs.length = vs.length := by
  have := congrArg List.length r.1
  simpa using this
theorem RKs.get : ∀ {kvs : List (Key × PyData)} {vs : List (Key × V)} {k : Key} {p : PyData}, RKs K L H kvs vs → getP kvs k = some p → ∃ v, valV vs k = some v ∧ RP K L H p v
  | [], _, k, p, _, e => by cases e
  | q :: kvs, vs, k, p, r, e => by
    obtain ⟨v, ws, rfl, r1, r2⟩ := r.inv
    unfold getP at e
    by_cases c : q.1 = k
    · rw [List.find?_cons_of_pos (by simpa using c)] at e
      cases e
      exact ⟨v, valV_pos c, r1⟩
    · rw [List.find?_cons_of_neg (by simpa using c)] at e
      obtain ⟨u, h1, h2⟩ := RKs.get r2 e
      exact ⟨u, by rw [valV_neg c]; exact h1, h2⟩
theorem RKs.anyk : ∀ {kvs : List (Key × PyData)} {vs : List (Key × V)} {k : Key}, RKs K L H kvs vs → (kvs.any fun kv => decide (kv.1 = k)) = (vs.any fun kv => decide (kv.1 = k))
  | [], vs, k, r => by
    cases vs with
    | nil => rfl
    | cons w ws => exact absurd r.1 (by simp)
  | q :: kvs, vs, k, r => by
    obtain ⟨v, ws, rfl, r1, r2⟩ := r.inv
    rw [List.any_cons, List.any_cons, RKs.anyk r2]
theorem RKs.mapk {k : Key} {p : PyData} {x : V} (rp : RP K L H p x) : ∀ {kvs : List (Key × PyData)} {vs : List (Key × V)}, RKs K L H kvs vs → RKs K L H (kvs.map fun kv => if kv.1 = k then (kv.1, p) else kv) (vs.map fun kv => if kv.1 = k then (kv.1, x) else kv)
  | [], vs, r => by
    cases vs with
    | nil => exact .nil
    | cons w ws => exact absurd r.1 (by simp)
  | q :: kvs, vs, r => by
    obtain ⟨v, ws, rfl, r1, r2⟩ := r.inv
    rw [List.map_cons, List.map_cons]
    have ih := RKs.mapk (k := k) rp r2
    by_cases c : q.1 = k
    · rw [if_pos c, if_pos c]
      exact .cons rp ih
    · rw [if_neg c, if_neg c]
      obtain ⟨a, b⟩ := q
      exact .cons r1 ih
theorem RKs.app {kvs : List (Key × PyData)} {vs : List (Key × V)} {k : Key} {p : PyData} {x : V} (r : RKs K L H kvs vs) (rp : RP K L H p x) : RKs K L H (kvs ++ [(k, p)]) (vs ++ [(k, x)]) := by
  refine ⟨by simp [r.1], ?_⟩
  rw [List.map_append, List.map_append]
  exact r.2.append (.cons rp .nil)
theorem RKs.put {kvs : List (Key × PyData)} {vs : List (Key × V)} {k : Key} {p : PyData} {x : V} (r : RKs K L H kvs vs) (rp : RP K L H p x) : RKs K L H (putP kvs k p) (putK vs k x) := by
  unfold putP putK
  rw [r.anyk]
  by_cases c : (vs.any fun kv => decide (kv.1 = k)) = true
  · rw [if_pos c, if_pos c]; exact r.mapk rp
  · rw [if_neg c, if_neg c]; exact r.app rp
theorem RKs.merge : ∀ {more : List (Key × PyData)} {ms : List (Key × V)} {kvs : List (Key × PyData)} {vs : List (Key × V)}, RKs K L H more ms → RKs K L H kvs vs → RKs K L H (mergeP kvs more) (mergeK vs ms)
  | [], ms, kvs, vs, r, q => by
    cases ms with
    | nil => exact q
    | cons w ws => exact absurd r.1 (by simp)
  | (k, p) :: more, ms, kvs, vs, r, q => by
    obtain ⟨v, ws, rfl, r1, r2⟩ := r.inv
    show RKs K L H (mergeP (putP kvs k p) more) (mergeK (putK vs k v) ws)
    exact RKs.merge r2 (q.put r1)
theorem RKs.pair : ∀ {ks : List Str} {ps : List PyData} {xs : List V}, RPs K L H ps xs → RKs K L H (pairP ks ps) ((ks.zip xs).map fun kv => (Sum.inr kv.1, kv.2))
  | [], _, _, _ => .nil
  | k :: ks, [], xs, r => by cases r; exact .nil
  | k :: ks, p :: ps, xs, r => by
    cases r with
    | cons a b => exact .cons a (RKs.pair b)
end

section
variable {K : PySem.W.Frag} {A : Addr → Prop} {ρ ρ1 : List Addr} {h h1 : EH} {H H1 : Hp}
/-- a new object gets a number -/
theorem name_gen {o : EO} {a : Addr} (s : Stp A ρ h H ρ1 h1 H1) (k1 : H a = none) (k2 : ¬ LA A ρ1 h1 a) (ko : OR K (fun b => LA A ρ1 h1 b ∨ b = a) H1 o a) (k5 : Rel K (fun b => A b ∨ b = a) ρ1 h1 H1) (k6 : Rel K A ρ1 h1 H1) :
    Stp A ρ h H (ρ1 ++ [a]) (h1 ++ [o]) H1 ∧ Rel K A (ρ1 ++ [a]) (h1 ++ [o]) H1 ∧ (ρ1 ++ [a])[h1.length]? = some a := by
  have hl := k6.len
  have live : ∀ b, Live (ρ1 ++ [a]) (h1 ++ [o]) b → Live ρ1 h1 b ∨ b = a := by
    rintro b ⟨i, o, e1, e2, e3⟩
    rcases Nat.lt_or_ge i h1.length with q | q
    · rw [List.getElem?_append_left (by omega)] at e1
      rw [List.getElem?_append_left q] at e2
      exact .inl ⟨i, o, e1, e2, e3⟩
    · rw [List.getElem?_append_right (by omega)] at e1
      have : i - ρ1.length = 0 := by
        have := (List.getElem?_eq_some_iff.mp e1).1
        simp at this
        omega
      rw [this] at e1
      simp at e1
      exact .inr e1.symm
  have la : ∀ b, LA A (ρ1 ++ [a]) (h1 ++ [o]) b → LA A ρ1 h1 b ∨ b = a := fun b z => z.elim (fun z => (live b z).elim (fun z => .inl (.inl z)) .inr) fun z => .inl (.inr z)
  have la' : ∀ b, LA A (ρ1 ++ [a]) (h1 ++ [o]) b → LA (fun b => A b ∨ b = a) ρ1 h1 b := fun b z => (la b z).elim (fun z => z.elim .inl fun z => .inr (.inl z)) fun z => .inr (.inr z)
  refine ⟨⟨s.pre.trans (List.prefix_append _ _), fun b o n e => ?_, fun i b hi e => ?_, s.dom, s.keep⟩, ⟨by simp [hl], fun i j b o1 o' e1 e2 q1 q2 n1 n2 => ?_, fun i o1 b e1 e2 => ?_, k6.adm, fun b z q => ?_⟩, by rw [← hl]; simp⟩
  · obtain ⟨m1, m2⟩ := s.ext b o n e
    exact ⟨fun z => (la b z).elim m1 fun z => (by subst z; rw [k1] at e; cases e), m2⟩
  · rcases Nat.lt_or_ge i ρ1.length with q | q
    · rw [List.getElem?_append_left q] at e
      exact s.new i b hi e
    · rw [List.getElem?_append_right q] at e
      have : i - ρ1.length = 0 := by
        have := (List.getElem?_eq_some_iff.mp e).1
        simp at this
        omega
      rw [this] at e
      simp at e
      rw [← e]
      exact k1
  · have g : ∀ {i : Nat} {o1 : EO}, (ρ1 ++ [a])[i]? = some b → (h1 ++ [o])[i]? = some o1 → o1 ≠ EO.dead → (i < h1.length ∧ ρ1[i]? = some b ∧ h1[i]? = some o1) ∨ (i = h1.length ∧ b = a) := fun {i o} e1 e2 n => by
      rcases Nat.lt_or_ge i h1.length with q | q
      · rw [List.getElem?_append_left (by omega)] at e1
        rw [List.getElem?_append_left q] at e2
        exact .inl ⟨q, e1, e2⟩
      · have hi := (List.getElem?_eq_some_iff.mp e2).1
        simp at hi
        have : i = h1.length := by omega
        subst this
        rw [← hl] at e1
        simp at e1
        exact .inr ⟨rfl, e1.symm⟩
    rcases g e1 q1 n1 with ⟨c1, c2, c3⟩ | ⟨c1, c2⟩ <;> rcases g e2 q2 n2 with ⟨d1, d2, d3⟩ | ⟨d1, d2⟩
    · exact k6.inj i j b o1 o' c2 d2 c3 d3 n1 n2
    · subst d2
      exact absurd (Or.inl ⟨i, o1, c2, c3, n1⟩) k2
    · subst c2
      exact absurd (Or.inl ⟨j, o', d2, d3, n2⟩) k2
    · omega
  · rcases Nat.lt_or_ge i h1.length with q | q
    · rw [List.getElem?_append_left q] at e1
      rw [List.getElem?_append_left (by omega)] at e2
      exact (k5.obj i o1 b e1 e2).weak la'
    · have hi := (List.getElem?_eq_some_iff.mp e1).1
      simp at hi
      have : i = h1.length := by omega
      subst this
      simp at e1
      rw [← hl] at e2
      simp at e2
      subst e1
      subst e2
      exact ko.weak fun b z => la b z
  · rcases live b q with q | q
    · exact k6.apart b z q
    · subst q
      exact k2 (.inr z)
/-- an object is written -/
theorem live_putg {n : Nat} {ob nb : EO} {a : Addr} (e : h[n]? = some ob) (d1 : ob ≠ .dead) (d2 : nb ≠ .dead) : Live ρ (h.set n nb) a ↔ Live ρ h a := by
  constructor
  · rintro ⟨i, o, e1, e2, e3⟩
    by_cases c : n = i
    · subst c
      exact ⟨n, _, e1, e, d1⟩
    · rw [List.getElem?_set_ne c] at e2
      exact ⟨i, o, e1, e2, e3⟩
  · rintro ⟨i, o, e1, e2, e3⟩
    by_cases c : n = i
    · subst c
      exact ⟨n, nb, e1, by rw [List.getElem?_set_self', e]; rfl, d2⟩
    · exact ⟨i, o, e1, by rw [List.getElem?_set_ne c]; exact e2, e3⟩
theorem put_dct {n : Nat} {kvs kvs' : List (Key × PyData)} {us ws : List (Key × V)} {a : Addr} (r : Rel K A ρ h H) (e : h[n]? = some (.dct kvs)) (ea : ρ[n]? = some a) (hH : H a = some (.dK us)) (q : RKs K (LA A ρ h) H kvs' ws) :
    Rel K A ρ (h.set n (.dct kvs')) (upd H a (.dK ws)) ∧ Stp A ρ h H ρ (h.set n (.dct kvs')) (upd H a (.dK ws)) := by
  have la : Live ρ h a := ⟨n, _, ea, e, by simp⟩
  have lp : ∀ b, Live ρ (h.set n (.dct kvs')) b ↔ Live ρ h b := fun b => live_putg e (by simp) (by simp)
  have lap : ∀ b, LA A ρ (h.set n (.dct kvs')) b → LA A ρ h b := fun b z => z.elim (fun z => .inl ((lp b).mp z)) .inr
  have ext : Ext (LA A ρ h) H (LA A ρ h) (upd H a (.dK ws)) := fun b o k e' => ⟨k, by rw [upd_ne (fun z => k (by rw [z]; exact .inl la))]; exact e'⟩
  have get : ∀ {i : Nat} {o : EO}, (h.set n (.dct kvs'))[i]? = some o → (i = n ∧ o = .dct kvs') ∨ (i ≠ n ∧ h[i]? = some o) := fun {i o} k => by
    by_cases c : n = i
    · subst c
      rw [List.getElem?_set_self', e] at k
      simp at k
      exact .inl ⟨rfl, k.symm⟩
    · rw [List.getElem?_set_ne c] at k
      exact .inr ⟨fun z => c z.symm, k⟩
  have nA : ∀ b, A b → b ≠ a := fun b z c => r.apart b z (c ▸ la)
  refine ⟨⟨by rw [List.length_set]; exact r.len, fun i j b o o' e1 e2 k1 k2 n1 n2 => ?_, fun i o b e1 e2 => ?_, fun b z => ?_, fun b z k => r.apart b z ((lp b).mp k)⟩,
    List.prefix_refl _, fun b o k e' => ⟨fun z => k (lap b z), ?_⟩, (Stp.refl (A := A) (h := h) (H := H)).new, fun b o e' => ?_, fun b o z e' => by rw [upd_ne (nA b z)]; exact e'⟩
  · rcases get k1 with ⟨q1, _⟩ | ⟨c1, q1⟩ <;> rcases get k2 with ⟨q2, _⟩ | ⟨c2, q2⟩
    · rw [q1, q2]
    · subst q1; exact r.inj i j b _ o' e1 e2 e q2 (by simp) n2
    · subst q2; exact r.inj i j b o _ e1 e2 q1 e n1 (by simp)
    · exact r.inj i j b o o' e1 e2 q1 q2 n1 n2
  · rcases get e1 with ⟨rfl, rfl⟩ | ⟨c, e1⟩
    · rw [ea] at e2
      cases e2
      exact ⟨ws, upd_same, q.1, RPs.weak (RPs.mono ext _ _ q.2) fun b z => lap b z⟩
    · cases o with
      | dead => trivial
      | dct zs =>
        obtain ⟨vs, h3, h0, h4⟩ := r.obj i _ b e1 e2
        have nab : b ≠ a := fun z => c (r.inj i n b _ _ e2 (by rw [z]; exact ea) e1 e (by simp) (by simp))
        exact ⟨vs, by rw [upd_ne nab]; exact h3, h0, RPs.weak (RPs.mono ext _ _ h4) fun b z => lap b z⟩
      | ins _ _ => exact r.obj i _ b e1 e2
      | lst zs =>
        obtain ⟨vs, h3, h4⟩ := r.obj i _ b e1 e2
        have nab : b ≠ a := fun z => c (r.inj i n b _ _ e2 (by rw [z]; exact ea) e1 e (by simp) (by simp))
        exact ⟨vs, by rw [upd_ne nab]; exact h3, RPs.weak (RPs.mono ext _ _ h4) fun b z => lap b z⟩
  · obtain ⟨o, k⟩ := r.adm b z
    exact ⟨o, by rw [upd_ne (nA b z)]; exact k⟩
  · rw [upd_ne (fun z => k (by rw [z]; exact .inl la))]; exact e'
  · by_cases c : b = a
    · subst c; exact ⟨_, upd_same⟩
    · exact ⟨o, by rw [upd_ne c]; exact e'⟩
end

/-! ### displays -/
def tD (K : PySem.W.Frag) (ks : List Str) (d : EEnv → EH → R (List PyData)) (σ : L2.St) (H : Hp) (Q : List (V × V) → Hp → Prop) : Prop :=
  ∃ A ρ h e, Rel K A ρ h H ∧ RE K ρ (LA A ρ h) H e σ ∧ OutP K A ρ h H (d e h) fun vs H1 => Q ((ks.zip vs).map fun kv => (V.str kv.1, kv.2)) H1
def PD (X : Cx) (pos : Pos) (ks : List Str) (keys : List (Option Expr)) (vals : List Expr) (d : EEnv → EH → R (List PyData)) : Prop :=
  ∃ trs, PPs X pos keys vals trs ∧ ∀ σ H Q, tD X.K ks d σ H Q → tPairs trs σ H Q
section
variable {X : Cx} {pos : Pos} {a : Expr} {da : EEnv → EH → R EV}
theorem pd_nil : PD X pos [] [] [] fun _ h => .ok [] h := by
  refine ⟨[], pps_nil, ?_⟩
  rintro σ H Q ⟨A, ρ, h, e, rel, re, out⟩
  exact out ρ [] H Stp.refl rel .nil
theorem pd_cons {k : Str} {j : Nat} {p2 : Pos} {ks : List Str} {keys : List (Option Expr)} {vals : List Expr} {ds : EEnv → EH → R (List PyData)} (ha : PE X a (tI X.K da)) (hs : PD X pos ks keys vals ds) :
    PD X pos (k :: ks) (some (.Constant (.str k) j p2) :: keys) (a :: vals) fun e h => (da e h).bind fun x h => (dataV x h).bind fun p h => (ds e h).bind fun ps h => .ok (p :: ps) h := by
  obtain ⟨trs, hp, ht⟩ := hs
  refine ⟨_, pps_cons pe_str ha hp, ?_⟩
  rintro σ H Q ⟨A, ρ, h, e, rel, re, out⟩
  show tI X.K da σ H _
  refine ⟨A, ρ, h, e, rel, re, ?_⟩
  revert out
  show OutP X.K A ρ h H ((da e h).bind _) _ → _
  cases da e h with
  | exc _ _ => intro out; exact out
  | bad => intro out; exact out
  | ok v h1 =>
    intro out ρ1 x H1 s1 r1
    revert out
    show OutP X.K A ρ h H ((dataV v h1).bind _) _ → _
    cases ed : dataV v h1 with
    | exc _ _ => intro out; exact out.elim
    | bad => intro out; exact out.elim
    | ok p h1' =>
      obtain ⟨rp, rel1, s1'⟩ := data_ok r1 ed
      intro out
      have s1 := s1.trans s1'
      refine ht σ H1 _ ⟨A, ρ1, h1', e, rel1, re.step s1, ?_⟩
      revert out
      show OutP X.K A ρ h H ((ds e h1').bind _) _ → _
      cases ds e h1' with
      | exc _ _ => intro out; exact out
      | bad => intro out; exact out
      | ok ps h2 =>
        intro out ρ2 xs H2 s2 rel2 rvs
        exact out ρ2 (x :: xs) H2 (s1.trans s2) rel2 (.cons (rp.step s2) rvs)
theorem s_dnew {ks : List Str} {keys : List (Option Expr)} {vals : List Expr} {ds : EEnv → EH → R (List PyData)} (hp : PD X pos ks keys vals ds) (hall : keys.all (·.isSome) = true) (hl : keys.length = vals.length) (h0 : keys ≠ []) (h15 : keys.length ≤ 15) (hk : ks.length ≤ 15) :
    PE X (.Dict keys vals pos) (tI X.K fun e h => (ds e h).bind fun ps h => dnewV ks ps h) := by
  obtain ⟨trs, hp, ht⟩ := hp
  refine PE.imp (pe_disp hp hall hl h0 h15) ?_
  rintro σ H Q ⟨A, ρ, h, e, rel, re, out⟩
  intro p np
  have s0 : Stp A ρ h H ρ h (upd H p (.dK [])) := Stp.upd np
  have rel0 := rel.upd (o := .dK []) np
  have hA : ∀ b, (A b ∨ b = p) → A b ∨ H b = none := fun b z => z.elim .inl fun z => .inr (by rw [z]; exact np)
  refine ht σ _ _ ⟨fun b => A b ∨ b = p, ρ, h, e, rel0, re.mono (s0.lift hA) (List.prefix_refl _), ?_⟩
  revert out
  show Out X.K A ρ h H ((ds e h).bind _) Q → _
  cases ds e h with
  | exc _ _ => intro out; exact out
  | bad => intro out; exact out
  | ok ps h1 =>
    intro out ρ1 xs H1 s1 rel1 rps
    have out : Out X.K A ρ h H (dnewV ks ps h1) Q := out
    have hp1 : H1 p = some (.dK []) := s1.keep p _ (.inr rfl) upd_same
    unfold dnewV at out
    split at out
    · rename_i hlen
      refine ⟨hp1, (ks.zip xs).map fun kv => (Sum.inr kv.1, kv.2), ?_, ?_, ?_⟩
      · rw [List.map_map]
        rfl
      · rw [List.length_map, List.length_zip]
        omega
      · have s1' : Stp A ρ h H ρ1 h1 H1 := s0.over s1 hA fun b z => .inl z
        have hpA : (fun b => A b ∨ b = p) p := Or.inr rfl
        have s2 : Stp A ρ h H ρ1 h1 (upd H1 p (.dK (mergeK [] ((ks.zip xs).map fun kv => (Sum.inr kv.1, kv.2))))) := s1'.held np
        have rel2 := rel1.hold (o := .dK (mergeK [] ((ks.zip xs).map fun kv => (Sum.inr kv.1, kv.2)))) hpA
        have nla : ¬ LA A ρ1 h1 p := by
          rintro (z | z)
          · exact rel1.apart p hpA z
          · obtain ⟨o, q⟩ := rel.adm p z
            rw [np] at q
            cases q
        have rk : RKs X.K (fun b => LA A ρ1 h1 b ∨ b = p) (upd H1 p (.dK (mergeK [] ((ks.zip xs).map fun kv => (Sum.inr kv.1, kv.2))))) (mergeP [] (pairP ks ps)) (mergeK [] ((ks.zip xs).map fun kv => (Sum.inr kv.1, kv.2))) := by
          refine RKs.merge (RKs.pair ?_) .nil
          refine RPs.weak (RPs.mono (ext_hold hpA) _ _ rps) ?_
          rintro b ((z | z) | z)
          · exact .inl z
          · exact .inr (.inl z)
          · exact .inr (.inr z)
        obtain ⟨n1, n2, n3⟩ := name_gen (o := .dct (mergeP [] (pairP ks ps))) s2 np nla ⟨_, upd_same, rk⟩ rel2 (rel2.weak fun b z => .inl z)
        exact out _ (.ref p) _ n1 ⟨⟨p, rfl, n3⟩, n2⟩
    · exact out.elim
theorem s_dget {k : Str} {j : Nat} {p2 : Pos} (hu : X.A.units + 64 < cLine) (ha : PE X a (tI X.K da)) : PE X (.Subscript a (.Constant (.str k) j p2) pos) (tI X.K fun e h => (da e h).bind fun x h => dgetV k x h) := by
  refine PE.imp (pe_dget (by omega) ha pe_str (fun _ _ => rfl)) ?_
  rintro σ H Q ⟨A, ρ, h, e, rel, re, out⟩
  refine ⟨A, ρ, h, e, rel, re, ?_⟩
  revert out
  show Out X.K A ρ h H ((da e h).bind _) Q → _
  cases da e h with
  | exc _ _ => intro out; exact out
  | bad => intro out; exact out
  | ok v h1 =>
    intro out ρ1 x H1 s1 r1
    have out : Out X.K A ρ h H (dgetV k v h1) Q := out
    unfold dgetV at out
    split at out
    · split at out
      · rename_i kvs e1
        split at out
        · rename_i q e2
          obtain ⟨⟨b, rfl, eb⟩, rel1⟩ := r1
          obtain ⟨vs, g1, g2⟩ := rel1.obj _ _ b e1 eb
          obtain ⟨u, g3, g4⟩ := g2.get e2
          refine ⟨b, u, rfl, ?_, Out.val out s1 rel1 g4⟩
          rw [← g3]
          exact DGet.k (k := Sum.inr k) g1
        · exact out.elim
      · exact out.elim
    · exact out.elim
theorem st_dput {c : Expr} {dc : EEnv → EH → R EV} {k : Str} {j : Nat} {p2 p3 : Pos} (hu : X.A.units + 64 < cLine) (hs : swapsWith c (some (.Subscript a (.Constant (.str k) j p3) p2)) pos.line X.env = pure false) (hc : PE X c (tI X.K dc)) (ha : PE X a (tI X.K da)) :
    PS X (.Assign [.Subscript a (.Constant (.str k) j p3) p2] c pos) (tS X.K fun e h => (dc e h).to e fun x h => (dataV x h).to e fun p h => (da e h).to e fun y h => dputV k p y e h) := by
  refine PS.imp (ps_dput (by omega) ha pe_str hc hs) fun D σ H o => tS_exp (f := fun x e h => (dataV x h).to e fun p h => (da e h).to e fun y h => dputV k p y e h)
    (k := fun D σ v H1 => tI X.K da σ H1 fun x H2 => tC (.str k) σ H2 fun y H3 => ∃ a H4, x = .ref a ∧ DPut H3 a y v H4 ∧ D.nx σ H4) (t := fun _ _ _ => True) ?_ o
  intro A ρ h H e ρ1 h1 H1 v x rel re s1 r1 out
  cases ed : dataV v h1 with
  | exc _ _ => rw [ed] at out; exact out.elim
  | bad => rw [ed] at out; exact out.elim
  | ok p h1' =>
    rw [ed] at out
    obtain ⟨rp, rel1, s1'⟩ := data_ok r1 ed
    have s1 := s1.trans s1'
    refine ⟨A, ρ1, h1', e, rel1, re.step s1, ?_⟩
    revert out
    show OutS X.K A ρ h H ((da e h1').to e _) D → _
    cases da e h1' with
    | exc _ _ => exact id
    | bad => exact id
    | ok y h2 =>
      intro out ρ2 yv H2 s2 r2
      have out : OutS X.K A ρ h H (dputV k p y e h2) D := out
      have s := s1.trans s2
      have rp := rp.step s2
      unfold dputV at out
      split at out
      · split at out
        · rename_i kvs e1
          split at out
          · rename_i hl
            obtain ⟨⟨b, rfl, eb⟩, rel2⟩ := r2
            obtain ⟨vs, g1, g2⟩ := rel2.obj _ _ b e1 eb
            refine ⟨b, _, rfl, DPut.k (k := Sum.inr k) g1 (by rw [← g2.length]; exact hl), ?_⟩
            obtain ⟨rel4, s4⟩ := put_dct rel2 e1 eb g1 (g2.put (k := Sum.inr k) rp)
            exact out ρ2 σ _ (s.trans s4) rel4 ((re.step s).step s4)
          · exact out.elim
        · exact out.elim
      · exact out.elim
end
/-! ### written dicts -/
def KD (K : PySem.W.Frag) (w : World) (a : Addr) (kvs : List (Str × PyData)) : Prop :=
  ∃ es n, K.lookup a = some ⟨.type "dict", none, .dict es n, #[]⟩ ∧ PySem.W.KeysLit w.params es.toList ∧ (a == sysModules) = false ∧
    ∀ z, match kvs.lookup z with
      | some p => ∃ u v, PySem.W.nsIn K a z = some (some u) ∧ RelV v u ∧ ∀ L H, RP K L H p v
      | none => PySem.W.nsIn K a z = some none
section
variable {X : Cx} {pos : Pos} {a : Expr} {da : EEnv → EH → R EV}
theorem op_inK : OpR X (compareOp .In) (fun x y H Q => ∃ z p es n r, x = V.str z ∧ y = .ref p ∧ X.K.lookup p = some ⟨.type "dict", none, .dict es n, #[]⟩ ∧ PySem.W.KeysLit X.w.params es.toList ∧ (p == sysModules) = false ∧ PySem.W.nsIn X.K p z = some r ∧ Q (.bl r.isSome) H) := by
  intro pins s σ H x y v u Q I rx ry h
  obtain ⟨z, p, es, n, r, rfl, rfl, hl, hk, low, e, q⟩ := h
  obtain ⟨t, rfl⟩ := rx
  obtain rfl : u = Value.ref p := ry
  exact wpAny_in_of (PySem.strKind_is X.prog X.w z t) low (PySem.W.mapOf_K (prog := X.prog) (w := X.w) I.kIn hl hk) (by rw [PySem.W.find_K hl e]; exact ⟨.bl r.isSome, H, I.tok _, rfl, q⟩)
theorem tI_gd {p : Addr} {kvs : List (Str × PyData)} (hk : KD X.K X.w p kvs) : ∀ σ H Q, tI X.K (fun e h => (da e h).bind fun x h => gdinV (some kvs) x.settle h) σ H Q →
    tI X.K da σ H (fun x H1 => ∃ z es n r, x = V.str z ∧ X.K.lookup p = some ⟨.type "dict", none, .dict es n, #[]⟩ ∧ PySem.W.KeysLit X.w.params es.toList ∧ (p == sysModules) = false ∧ PySem.W.nsIn X.K p z = some r ∧ Q (.bl r.isSome) H1) := by
  rintro σ H Q ⟨A, ρ, h, e, rel, re, out⟩
  refine ⟨A, ρ, h, e, rel, re, ?_⟩
  revert out
  show Out X.K A ρ h H ((da e h).bind _) Q → _
  cases da e h with
  | exc _ _ => intro out; exact out
  | bad => intro out; exact out
  | ok v h1 =>
    intro out ρ1 x H1 s1 r1
    have out : Out X.K A ρ h H (gdinV (some kvs) v.settle h1) Q := out
    obtain ⟨rv, rel1⟩ := r1.settle
    obtain ⟨es, n, k1, k2, k3, k4⟩ := hk
    unfold gdinV at out
    split at out
    · rename_i kvs' z e1 e2
      cases e1
      rw [e2] at rv
      cases rv_str rv
      have k5 := k4 z
      cases q : kvs.lookup z with
      | none =>
        rw [q] at k5 out
        exact ⟨z, es, n, none, rfl, k1, k2, k3, k5, out_okb out s1 rel1⟩
      | some p =>
        rw [q] at k5 out
        obtain ⟨u, w, k6, k7, k8⟩ := k5
        exact ⟨z, es, n, some u, rfl, k1, k2, k3, k6, out_okb out s1 rel1⟩
    · exact out.elim
theorem s_gdin {p : Addr} {kvs : List (Str × PyData)} {x : Str} {px : Pos} (hg : PE X (.Name x px) (tC (.ref p))) (hk : KD X.K X.w p kvs) (ha : PE X a (tI X.K da)) :
    PE X (.Compare a [.In] [.Name x px] pos) (tI X.K fun e h => (da e h).bind fun x h => gdinV (some kvs) x.settle h) := by
  refine PE.imp (pe_cmpR op_inK ha hg (by rfl)) fun σ H Q t => ?_
  have q := tI_gd hk σ H Q t
  obtain ⟨A, ρ, h, e, rel, re, out⟩ := q
  refine ⟨A, ρ, h, e, rel, re, ?_⟩
  revert out
  cases da e h with
  | exc _ _ => exact id
  | bad => exact id
  | ok v h1 =>
    intro out ρ1 x H1 s1 r1
    obtain ⟨z, es, n, r, k⟩ := out ρ1 x H1 s1 r1
    exact ⟨z, p, es, n, r, k.1, rfl, k.2⟩
theorem t_gdin {p : Addr} {kvs : List (Str × PyData)} {x : Str} {px : Pos} (hg : PE X (.Name x px) (tC (.ref p))) (hk : KD X.K X.w p kvs) (ha : PE X a (tI X.K da)) :
    PT X (.Compare a [.In] [.Name x px] pos) (tT X.K fun e h => ((da e h).bind fun x h => gdinV (some kvs) x.settle h).bind fun x h => asB x h) := by
  refine PT.imp (pt_cmpR op_inK ha hg (by rfl)) (tTest_of fun σ H Q t => ?_)
  have q := tI_gd hk σ H Q t
  obtain ⟨A, ρ, h, e, rel, re, out⟩ := q
  refine ⟨A, ρ, h, e, rel, re, ?_⟩
  revert out
  cases da e h with
  | exc _ _ => exact id
  | bad => exact id
  | ok v h1 =>
    intro out ρ1 x H1 s1 r1
    obtain ⟨z, es, n, r, k⟩ := out ρ1 x H1 s1 r1
    exact ⟨z, p, es, n, r, k.1, rfl, k.2⟩
theorem s_gdget {p : Addr} {kvs : List (Str × PyData)} {x : Str} {px : Pos} (hs : PlainIx a) (hg : PE X (.Name x px) (tC (.ref p))) (hk : KD X.K X.w p kvs) (ha : PE X a (tI X.K da)) :
    PE X (.Subscript (.Name x px) a pos) (tI X.K fun e h => (da e h).bind fun x h => gdgetV (some kvs) x.settle h) := by
  refine PE.imp (pe_ix ix_kdict hg ha hs) fun σ H Q t => ?_
  obtain ⟨A, ρ, h, e, rel, re, out⟩ := t
  show tI X.K da σ H _
  refine ⟨A, ρ, h, e, rel, re, ?_⟩
  revert out
  show Out X.K A ρ h H ((da e h).bind _) Q → _
  cases da e h with
  | exc _ _ => exact id
  | bad => exact id
  | ok v h1 =>
    intro out ρ1 x H1 s1 r1
    have out : Out X.K A ρ h H (gdgetV (some kvs) v.settle h1) Q := out
    obtain ⟨rv, rel1⟩ := r1.settle
    obtain ⟨es, n, k1, k2, k3, k4⟩ := hk
    unfold gdgetV at out
    split at out
    · rename_i kvs' z e1 e2
      cases e1
      rw [e2] at rv
      cases rv_str rv
      have k5 := k4 z
      cases q : kvs.lookup z with
      | none => rw [q] at out; exact out.elim
      | some d =>
        rw [q] at k5 out
        obtain ⟨u, w, k6, k7, k8⟩ := k5
        exact ⟨p, z, w, rfl, rfl, ⟨es, n, u, k1, k2, k6, k7⟩, Out.val out s1 rel1 (k8 _ _)⟩
    · exact out.elim
theorem s_own (ha : PE X a (tI X.K da)) : PE X a (tI X.K fun e h => (da e h).bind fun x h => ownV x h) := by
  refine PE.imp ha ?_
  rintro σ H Q ⟨A, ρ, h, e, rel, re, out⟩
  refine ⟨A, ρ, h, e, rel, re, ?_⟩
  revert out
  show Out X.K A ρ h H ((da e h).bind _) Q → _
  cases da e h with
  | exc _ _ => intro out; exact out
  | bad => intro out; exact out
  | ok v h1 =>
    intro out ρ1 x H1 s1 r1
    have out : Out X.K A ρ h H (ownV v h1) Q := out
    unfold ownV at out
    split at out
    · obtain ⟨b, rfl, s2, r2, eb⟩ := name_ok s1 r1
      exact out _ (.ref b) _ s2 ⟨⟨b, rfl, eb⟩, r2⟩
    · exact out.elim
theorem st_try {body : List Stmt} {h₀ : ExceptHandler} {hs : List ExceptHandler} {d : EEnv → EH → RS} (hx : X.xe = fun _ _ => False) (hb : PSs X body (tS X.K d)) : PS X (.Try body (h₀ :: hs) [] [] pos) (tS X.K d) :=
  ps_try_never (fun e s z => by rw [hx] at z; exact z) hb pss_nil
end
end G

set_option Elab.async false
set_option linter.all false
set_option maxRecDepth 100000
/-! GFn: what a def promises where nothing is being shown (guards), its body, its call; the law's call. -/
namespace G
open PySem PySem.Spec PyProof.Rows L2

/-- room, and no repr is under way -/
structure RoomG (k : Nat) (A : Around) : Prop where
  rm : Room k A
  gd : A.guards = some []
theorem RoomG.deeper {k : Nat} {A : Around} (r : RoomG (k + 1) A) (env : Env) : RoomG k (A.deeper env) := ⟨r.rm.deeper env, r.gd⟩

/-- as FnOk, called where no repr is under way -/
structure FnG (P : Program) (w : World) (K : PySem.W.Frag) (mg : Str → Option Value) (base : Heap) (CX : CXT) (k : Nat) (f : Addr) (fd : FuncData) (ps : List Str) (sp : Sp) : Prop where
  len : ∀ vs H Q E, sp vs H Q E → vs.length = ps.length
  run : ∀ (A : Around) (outer : List Env) (s : Shared) (H : Hp) (args : Args) (us : List Value) (vs : List V) (Q : VK) (E : XK), RoomG k A →
    Env0 P w K mg base A outer s H → BindsTo s fd args (ps.zip us) → Vals vs us → sp vs H Q E → codeAny (model P w) A (.call (.ref f) args) (CR CX outer P w H s Q E) s
section
variable {P : Program} {w : World} {K : PySem.W.Frag} {mg : Str → Option Value} {base : Heap} {CX : CXT} {k : Nat} {f : Addr} {ps : List Str} {sp sp' : Sp}
theorem FnG.imp {fd : FuncData} (F : FnG P w K mg base CX k f fd ps sp) (h : ∀ vs H Q E, sp' vs H Q E → sp vs H Q E) : FnG P w K mg base CX k f fd ps sp' where
  len vs H Q E q := F.len vs H Q E (h vs H Q E q)
  run A outer s H args us vs Q E hr he hb hv hs := F.run A outer s H args us vs Q E hr he hb hv (h vs H Q E hs)

/-- a def by its body -/
theorem fun_g {x qual : Str} {st : Stmt} {fd : FuncData} {N : List Str} (F : Fun K x qual st f fd) (S : FnScope N ps (defScope st)) (len : ∀ vs H Q E, sp vs H Q E → vs.length = ps.length)
    (body : ∀ (cdv : Value) (A : Around) (outer : List Env) (s : Shared) (H : Hp) (vs : List V) (Q : VK) (E : XK), RoomG k (A.deeper (envOfC qual (defScope st) s.heap.objs.size f cdv)) → sp vs H Q E →
      ∃ t, PSs (cxOf CX P w K mg base N qual (defScope st) f cdv A outer s H E) (defBody st) t ∧ t { nx := fun _ H' => Q .non H', rt := Q } (start N vs) H) : FnG P w K mg base CX (k + 1) f fd ps sp := by
  obtain ⟨oc, od, kV, doc, pm, an, cdv, ct, osl, rfl, lk, hcd⟩ := F.ex
  constructor
  · exact len
  intro A outer s H args us vs Q E room env0 bind rel wish
  have len1 := len vs H Q E wish
  have stay : ∀ b o, base.get? b = some o → s.heap.get? b = some o := fun b o e => (env0.bs b o e).1
  have inK : K.In s.heap := env0.mod.kin.keeps stay
  have lim : s.heap.NoLimit := env0.mod.nolimit.keeps stay
  have kinds : ∀ y ∈ ps.zip us, (defScope st).names.lookup y.1 = some .local ∨
      ((defScope st).names.lookup y.1 = some .cell ∧ ((cellsFrom (s.heap.objs.size + 1) (defScope st).names []).lookup y.1).isSome = true) := by
    rintro ⟨n, v⟩ hy
    have hn : n ∈ ps := (List.of_mem_zip hy).1
    exact (S.par n hn).imp id fun q => ⟨q, PySem.W.cellsFrom_some _ _ _ (.inl q)⟩
  refine codeAny_call_function room.rm.depth (inK _ _ lk) rfl S.co S.gen rfl (PySem.W.codeRec_of inK hcd) (bind _ _ _ _ ?_)
  refine wpAny_newFunctionEnv_cells S.kind kinds fun env he s1 x => ⟨lim.keeps x.toInCall.keep, codeAny_func ?_⟩
  subst he
  obtain ⟨t, run, goal⟩ := body cdv A outer s H vs Q E (room.deeper _) wish
  have I0 : Inv (cxOf CX P w K mg base N qual (defScope st) f cdv A outer s H E) [] (start N vs) H s1 := inv_start S room.rm.hd env0 len1 rel x
  refine wpAny_mono (run.run [] s1 (start N vs) H _ I0 goal) (fun fl s' post => ?_) fun _ _ post => post
  match fl, post with
  | .ret u, ⟨v, _, H', J, rv, q⟩ => exact ⟨v, H', J.os, J.bare, J.base, J.hok, rv, q⟩
  | .next, ⟨_, H', J, q⟩ => exact ⟨V.non, H', J.os, J.bare, J.base, J.hok, rfl, q⟩
  | .brk, ⟨_, _, _, q⟩ => exact q.elim
  | .cont, ⟨_, _, _, q⟩ => exact q.elim
end

section
variable {X : Cx} {CX : CXT} {k : Nat} {f : Addr} {fd : FuncData} {ps : List Str} {sp : Sp} {E : XK} {x : Str} {p pos : Pos} {e : Expr} {es : List Expr} {t : TA}
/-- the callee runs -/
theorem run_g {pins : List (Addr × Obj)} {σ : L2.St} {H : Hp} {s : Shared} {Q : VK} {us : List Value} {vs : List V} (F : FnG X.prog X.w X.K X.mg X.base CX k f fd ps sp) (hr : RoomG k X.A) (hb : Binds X.K fd ps []) (hx : Passes CX X E)
    (I : Inv X pins σ H s) (r : Vals vs us) (h : sp vs H Q E) : wpAny (model X.prog X.w) X.A (call (.ref f) us) (EP X pins σ Q) X.xe s := by
  have lenU : us.length = ps.length := r.length ▸ F.len vs H Q E h
  have bd : BindsTo s fd ⟨us, []⟩ (ps.zip us) := by
    have q := hb s us I.kIn (by rw [List.append_nil]; exact lenU)
    rwa [List.append_nil] at q
  refine wpAny_call (codeAny_mono (F.run X.A X.stack s H ⟨us, []⟩ us vs Q E hr I.env0 bd r h) fun out s' post => ?_)
  match out, post with
  | .error e, post => exact hx pins σ H s e s' I post
  | .ok (.ret u), post => exact I.after post
  | .ok .next, post => exact False.elim post
  | .ok .brk, post => exact False.elim post
  | .ok .cont, post => exact False.elim post
theorem call_g (F : FnG X.prog X.w X.K X.mg X.base CX k f fd ps sp) (hr : RoomG k X.A) (hg : Gl X x) (hm : X.mg x = some (.ref f)) (hk : PySem.W.keepIn X.K (.ref f) = true) (hb : Binds X.K fd ps []) (hx : Passes CX X E)
    (ha : PA X (e :: es) t) (hdb : (x == ("__debug__" : Str)) = false) (st : starEach (e :: es) X.env = (false, eval e X.env) :: starEach es X.env) (pl : (backTo pos (starEach es X.env)).any (·.1) = false) : PE X (.Call (.Name x p) (e :: es) [] pos) (tCall sp [] E t) := by
  constructor
  intro pins s σ H Q I h
  refine wpAny_Call_Name_kw (ld_glob I hg hm (PySem.W.callWith_K (h₀ := X.base) I.ok.mod.kin hk (thn (ha.run pos pins s σ H _ I h) ?_) st pl) hdb)
  rintro us s1 ⟨vs, H1, I1, r, q⟩
  rw [List.append_nil] at q
  exact ⟨I1.kIn, run_g F hr hb hx I1 r q⟩
theorem call_g0 (F : FnG X.prog X.w X.K X.mg X.base CX k f fd ps sp) (hr : RoomG k X.A) (hg : Gl X x) (hm : X.mg x = some (.ref f)) (hk : PySem.W.keepIn X.K (.ref f) = true) (hb : Binds X.K fd ps []) (hx : Passes CX X E) (hdb : (x == ("__debug__" : Str)) = false) :
    PE X (.Call (.Name x p) [] [] pos) (tCall sp [] E tNil) := by
  constructor
  intro pins s σ H Q I h
  exact wpAny_Call_Name_kw (ld_glob I hg hm (PySem.W.callWith_K0 I.kIn hk (run_g (us := []) F hr hb hx I .nil h)) hdb)
end

/-- the law's def, called at the end of the top -/
theorem law_g {P : Program} {w : World} {K : PySem.W.Frag} {mg mb : Str → Option Value} {CX : CXT} {k : Nat} {fa a : Addr} {fd : FuncData} {x : Str} {sp : Sp} {s₁ : Shared} {vs : List Value} {ns : List Int}
    (KX : K.In s₁.heap) (hns : s₁.heap.Ns mainGlobals mg) (hb : s₁.heap.Ns builtinsNs mb) (hbb : ∀ x : Str, x ≠ "__name__" → mb x = bootBuiltins x) (hlim : s₁.heap.NoLimit) (hg : s₁.gens = #[])
    (ha : s₁.heap.get? a = some { cls := .type "list", data := .seq vs.toArray }) (hi : IntsAre vs ns) (hl : ns.length ≤ sizeLine) (hr : RoomG k callerA)
    (F : ∀ B : Heap, K.In B → B.Ns mainGlobals mg → FnG P w K mg B CX k fa fd [x] sp) (bind : ∀ (s : Shared) (u : Value), BindsTo s fd ⟨[u], []⟩ [(x, u)])
    (hsp : ∀ H : Hp, SqL K H a (ns.map V.int) → sp [.ref a] H (fun v _ => v = .bl true) fun _ _ _ => False) (hCX : ∀ H e s', CX [] H s₁ (fun _ _ _ => False) e s' → False) :
    codeAny (model P w) callerA (.call (.ref fa) ⟨[.ref a], []⟩) (fun r s' => r = .ok (.ret (.bool true)) ∧ OldK s₁.heap s'.heap ∧ s'.os = s₁.os ∧ AllBare s'.gens) s₁ := by
  have core : ∀ (o : Obj) (H : Hp), s₁.heap.get? a = some o → (∀ es ep, o.data ≠ .dict es ep) → (∀ b u, H b = some u → b = a ∧ K.lookup a = none ∧ ∃ y, u = .frz o y) → SqL K H a (ns.map V.int) → HOk P w H s₁.heap →
      codeAny (model P w) callerA (.call (.ref fa) ⟨[.ref a], []⟩) (fun r s' => r = .ok (.ret (.bool true)) ∧ OldK s₁.heap s'.heap ∧ s'.os = s₁.os ∧ AllBare s'.gens) s₁ := by
    intro o H go nd only hS hok
    have off : ∀ b ob, s₁.heap.get? b = some ob → ((K.lookup b).isSome ∨ ∃ es ep, ob.data = .dict es ep) → (hidT s₁.heap H).get? b = some ob := by
      intro b ob e why
      refine hidT_get e ?_
      cases q : H b with
      | none => rfl
      | some u =>
        obtain ⟨rfl, kn, _⟩ := only b u q
        rcases why with z | ⟨es, ep, z⟩
        · rw [kn] at z; cases z
        · rw [go] at e; cases e
          exact (nd es ep z).elim
    have nsO : ∀ {b : Addr} {m : Str → Option Value}, s₁.heap.Ns b m → (hidT s₁.heap H).Ns b m := fun ⟨ob, es, ep, e, d, r⟩ => ⟨ob, es, ep, off _ _ e (.inr ⟨es, ep, d⟩), d, r⟩
    have inK : K.In (hidT s₁.heap H) := fun b ob e => off b ob (KX b ob e) (.inl (by rw [e]; rfl))
    obtain ⟨mc, l1, l2⟩ := hlim
    have env0 : Env0 P w K mg (hidT s₁.heap H) callerA [] s₁ H := {
      frames := rfl
      mod := ⟨inK, nsO hns, ⟨mb, nsO hb, hbb⟩, ⟨mc, nsO l1, l2⟩⟩
      bs := fun b ob e => of_hidT e
      bsz := Nat.le_of_eq (hidT_size s₁.heap H)
      funs := trivial
      frf := fun b z => nomatch z
      hok := hok
      bare := .of_eq hg }
    refine codeAny_mono ((F _ inK (nsO hns)).run callerA [] s₁ H ⟨[.ref a], []⟩ [.ref a] [.ref a] _ _ hr env0 (bind s₁ (.ref a)) (.cons rfl .nil) (hsp H hS)) fun out s' post => ?_
    match out, post with
    | .error e, post => exact (hCX H e s' post).elim
    | .ok .next, post => exact False.elim post
    | .ok .brk, post => exact False.elim post
    | .ok .cont, post => exact False.elim post
    | .ok (.ret u), ⟨v, H', os, bare, un, hok', rv, q⟩ =>
      have q : v = .bl true := q
      subst q
      obtain rfl : u = Value.bool true := rv
      refine ⟨rfl, OldK.of_keep fun b ob e => ?_, os, bare⟩
      cases hq : H b with
      | none => exact un.keep b ob e hq (fun z => nomatch z) (fun z => nomatch z)
      | some y =>
        obtain ⟨rfl, _, z, rfl⟩ := only b y hq
        rw [go] at e; cases e
        exact (hok' b _ (un.frzs b _ z hq)).1
  have rv := vals_ints hi
  cases hk : K.lookup a with
  | some o =>
    have e := KX a o hk
    rw [ha] at e; cases e
    refine core _ (fun _ => none) ha (fun es ep z => nomatch z) (fun b u z => nomatch z) (.inr ⟨_, vs.toArray, _, hk, rfl, rfl, rfl, ?_, by simpa using rv⟩) fun b u z => nomatch z
    rw [List.size_toArray, hi.length]; exact hl
  | none =>
    have at_ : ∀ b u, (if b = a then some (HO.frz { cls := .type "list", data := .seq vs.toArray } (.lst (ns.map V.int))) else none) = some u → b = a ∧ u = .frz { cls := .type "list", data := .seq vs.toArray } (.lst (ns.map V.int)) := by
      intro b u z
      split at z
      · cases z; exact ⟨by assumption, rfl⟩
      · cases z
    refine core _ (fun b => if b = a then some (.frz { cls := .type "list", data := .seq vs.toArray } (.lst (ns.map V.int))) else none) ha (fun es ep z => nomatch z) (fun b u z => ?_) (.inl (.inr ⟨_, if_pos rfl⟩)) fun b u z => ?_
    · obtain ⟨h1, h2⟩ := at_ b u z
      exact ⟨h1, hk, _, h2⟩
    · obtain ⟨rfl, rfl⟩ := at_ b u z
      exact ⟨ha, by rw [List.length_map]; exact hl, vs, _, rv, ha⟩
theorem walk_g {l : PySem.W.OpenLaw} {n k : Nat} {q : Program} {loose : List Str} {XP : (Str → Option Value) → Heap → Prop} {YP : World → Heap → Prop} {d : DefRec} {K : Params → PySem.W.Frag} {sp : World → Sp} {x : Str}
    (hn : l.most = some n) (hn2 : n ≤ sizeLine) (hdf : d.params.defaults = []) (hr : RoomG k callerA) (hY : ∀ (w : World) (h : Heap), YP w h → (K w.params).In h)
    (F : ∀ (w : World) (mg : Str → Option Value) (fa : Addr) (h : Heap), (K w.params).In h → h.Ns mainGlobals mg → mg d.name = some (.ref fa) →
      ∃ fd : FuncData, (∀ (s : Shared) (u : Value), BindsTo s fd ⟨[u], []⟩ [(x, u)]) ∧ ∀ B : Heap, (K w.params).In B → B.Ns mainGlobals mg → FnG l.prog w (K w.params) mg B CX0 k fa fd [x] (sp w))
    (hsp : ∀ (w : World) (H : Hp) (a : Addr) (ns : List Int), ns.length ≤ n → SqL (K w.params) H a (ns.map V.int) → sp w [.ref a] H (fun v _ => v = .bl true) fun _ _ _ => False) :
    PySem.W.WalkO q loose XP YP l.row.toRowW d [] (fun f vs => PySem.call f vs) := by
  apply Att.attach_call hn hdf
  intro w s₀ s₁ mg mb fa o pm cd doc a vs ns G Y ho hd hcd hmg hobj hints hlen hg
  have KX := hY w _ Y
  obtain ⟨fd, hb, hF⟩ := F w mg fa _ KX G.T.g hmg
  exact law_g KX G.T.g G.T.b G.T.builtins G.T.nolimit hg hobj hints (Nat.le_trans hlen hn2) hr hF hb (fun H hS => hsp w H a ns hlen hS) fun _ _ _ z => z
end G

set_option Elab.async false
set_option linter.all false
set_option maxRecDepth 100000
/-! GRep: repr, max with a default, get of a written dict. -/
namespace G
open PySem PySem.Spec PyProof.Rows L2

section
variable {K : PySem.W.Frag} {H : Hp}
mutual
theorem Dp.noDict : ∀ (p : PyData) (v : V), Dp K H v p → p.hasDict = false
  | .none, _, _ => by simp only [PyData.hasDict]
  | .bool _, _, _ => by simp only [PyData.hasDict]
  | .int _, _, _ => by simp only [PyData.hasDict]
  | .str _, _, _ => by simp only [PyData.hasDict]
  | .tuple xs, _, h => by
    simp only [PyData.hasDict]
    cases h with
    | tup _ h3 => exact DpAll.noDict xs _ h3
  | .list xs, _, h => by
    simp only [PyData.hasDict]
    cases h with
    | lst _ h3 => exact DpAll.noDict xs _ h3
  | .dict _, _, h => by cases h
theorem DpAll.noDict : ∀ (ps : List PyData) (vs : List V), DpAll K H vs ps → PyData.hasDictAll ps = false
  | [], _, _ => by simp only [PyData.hasDictAll]
  | p :: ps, _, h => by
    cases h with
    | cons h1 h2 => simp only [PyData.hasDictAll, Dp.noDict p _ h1, DpAll.noDict ps _ h2, Bool.or_false]
end
theorem dps_int : ∀ ns : List Int, DpAll K H (ns.map V.int) (ns.map PyData.int)
  | [] => .nil
  | n :: ns => .cons (.int n) (dps_int ns)
end

section
variable {X : Cx} {pos p px apos kp : Pos} {a b : Expr} {da db : EEnv → EH → R EV}
def rRepr (K : PySem.W.Frag) : List V → Hp → VK → Prop := fun vs H Q => ∃ (x : V) (d : PyData), vs = [x] ∧ Dp K H x d ∧ d.showable = true ∧ d.depth ≤ 60 ∧ d.shown.length ≤ sizeLine ∧ Q (.str d.shown) H
theorem cr_repr (hg : X.A.guards = some []) (hu : X.A.units + 64 < cLine) : CallR X (.builtin "repr") (rRepr X.K) := by
  intro pins s σ H xs us Q I r h
  obtain ⟨x, d, rfl, hd, sh, dp, sz, q⟩ := h
  have nd := Dp.noDict d x hd
  obtain ⟨u, rfl, ru⟩ := Vals.one r
  have I' : ∀ t, EP X pins σ Q (.str d.shown t) { s with toks := s.toks + 1 } := fun t => ⟨.str d.shown, H, I.tok _, ⟨_, rfl⟩, q⟩
  have big : ∀ a : Addr, u = .ref a → wpAny (model X.prog X.w) X.A (call (.builtin "repr") [u]) (EP X pins σ Q) X.xe s := by
    intro a e
    obtain ⟨as, rd⟩ := Dp.reads I d x u hd ru
    subst e
    exact repr_of_reads' rd sh (PyData.noDict_hsm nd) hg (by omega) (fun _ _ e => e) (fun h' u tk hk => ⟨.str d.shown, H, I.kept hk, ⟨_, rfl⟩, q⟩) sz
  cases hd with
  | non => cases ru; exact PySem.P.repr_of_none (by simpa [PyData.shown] using I' s.toks)
  | bl c => cases ru; exact PySem.P.repr_of_bool (by simpa [PyData.shown] using I' s.toks)
  | int i =>
    obtain ⟨t, rfl⟩ := ru
    refine PySem.P.repr_of_int (by simpa [PyData.showable] using sh) (by simpa [PyData.shown] using I' s.toks)
  | str y =>
    obtain ⟨t, rfl⟩ := ru
    refine PySem.P.repr_of_str (by simpa [PyData.shown] using I' s.toks) (by simpa only [PyData.shown] using sz)
  | lst _ _ => exact big _ ru
  | tup _ _ => exact big _ ru

theorem s_repr (hgd : X.A.guards = some []) (hu : X.A.units + 64 < cLine) (hg : X.env.scope.names.lookup ("repr" : Str) = some .globalImplicit) (hm : X.mg "repr" = none) (na : nst a = true) (ha : PE X a (tI X.K da)) :
    PE X (.Call (.Name "repr" p) [a] [] pos) (tI X.K fun e h => (da e h).bind fun x h => reprV x.settle h) := by
  refine PE.imp (pe_callB (cr_repr hgd hu) (gl_of hg) hm (by decide +kernel) (pa_cons ha pa_nil (star_cons na)) (by decide) (by decide) (star_cons na) rfl) fun σ H Q t => ?_
  refine tI_un (r := fun x H Q => rRepr X.K [x] H Q) (f := fun x h => reprV x.settle h) (fun A ρ0 h0 H0 ρ h H v x Q s r out => ?_) σ H Q t
  obtain ⟨rv, rel⟩ := r.settle
  unfold reprV at out
  split at out
  · rename_i d e
    unfold reprP at out
    split at out
    · rename_i c
      exact ⟨x, d, rfl, dataOf_dp rv rel e, c.1, c.2.1, c.2.2, out_oks out s rel⟩
    · exact out.elim
  · exact out.elim

/-! ### max(x, default=y) -/
def rMaxD (K : PySem.W.Frag) : List V → List V → Hp → VK → Prop := fun vs zs H Q => ∃ (a : Addr) (ns : List Int) (k : Int), vs = [.ref a] ∧ SqL K H a (ns.map V.int) ∧ zs = [.int k] ∧
  (ns = [] → Q (.int k) H) ∧ ∀ n r, ns = n :: r → Q (.int (r.foldl max n)) H
theorem dps0 : ∀ ns : List Int, PyData.depthAll (ns.map PyData.int) = 0
  | [] => by simp [PyData.depthAll]
  | n :: ns => by
    have := dps0 ns
    simp only [List.map_cons, PyData.depthAll, PyData.depth]
    omega
theorem cr_maxd (hc : X.calm = true) (hu : X.A.units + 64 < cLine) : CallRK X (.builtin "max") ["default"] (rMaxD X.K) := by
  intro pins s σ H xs zs us ws Q I r rz h
  obtain ⟨l, ns, k, rfl, hl, rfl, h0, h1⟩ := h
  obtain ⟨u, rfl, ru⟩ := Vals.one rz
  obtain rfl : us = [.ref l] := Vals.ref1 r
  obtain ⟨its, rv, pl, _⟩ := I.list hl
  obtain ⟨as, rd⟩ := Dp.readsAll I _ _ _ (dps_int (K := X.K) (H := H) ns) rv
  have al : PySem.W.AlikeAll (ns.map PyData.int) := by
    refine ⟨fun x hx y hy => ?_, fun x hx => ?_⟩
    · obtain ⟨i, _, rfl⟩ := List.mem_map.mp hx
      obtain ⟨j, _, rfl⟩ := List.mem_map.mp hy
      rfl
    · obtain ⟨i, _, rfl⟩ := List.mem_map.mp hx
      exact fun z => nomatch z
  have dpt : PyData.depthAll (ns.map PyData.int) = 0 := by
    exact dps0 ns
  refine PySem.W.max_list_default (I.ok.hd hc) pl.isList rd al (by rw [dpt]; omega) (fun e h' tk hk => ?_) fun y ys i v h' tk bs e hv rd2 hk => ?_
  · exact ⟨.int k, H, I.kept hk, ru, h0 (by simpa using e)⟩
  · cases ns with
    | nil => cases e
    | cons n r =>
      cases e
      rw [PySem.W.maxD_ints] at rd2
      cases rd2
      exact ⟨.int _, H, I.kept hk, ⟨_, rfl⟩, h1 n r rfl⟩
theorem maxL_fold : ∀ (r : List Int) (n : Int), r.foldl max n = maxL (n :: r)
  | [], n => rfl
  | x :: r, n => by
    have hle : ∀ (l : List Int) (m : Int), m ≤ l.foldl max m ∧ (∀ y ∈ l, y ≤ l.foldl max m) ∧ (l.foldl max m = m ∨ l.foldl max m ∈ l) := by
      intro l
      induction l with
      | nil => intro m; exact ⟨Int.le_refl _, (fun y z => by cases z), .inl rfl⟩
      | cons b l ih =>
        intro m
        obtain ⟨k1, k2, k3⟩ := ih (max m b)
        simp only [List.foldl_cons]
        refine ⟨by omega, fun y hy => ?_, ?_⟩
        · rcases List.mem_cons.mp hy with rfl | hy
          · omega
          · exact k2 y hy
        · rcases k3 with k3 | k3
          · rw [k3]
            rcases Int.le_total m b with q | q
            · exact .inr (by rw [Int.max_eq_right q]; exact List.mem_cons_self)
            · exact .inl (Int.max_eq_left q)
          · exact .inr (List.mem_cons_of_mem _ k3)
    obtain ⟨k1, k2, k3⟩ := hle (x :: r) n
    refine (maxL_uniq (ns := n :: x :: r) ?_ fun y hy => ?_).symm
    · rcases k3 with k3 | k3
      · rw [k3]; exact List.mem_cons_self
      · exact List.mem_cons_of_mem _ k3
    · rcases List.mem_cons.mp hy with rfl | hy
      · exact k1
      · exact k2 y hy
theorem s_maxd (hc : X.calm = true) (hu : X.A.units + 64 < cLine) (hg : X.env.scope.names.lookup ("max" : Str) = some .globalImplicit) (hm : X.mg "max" = none) (na : nst a = true) (ha : PE X a (tI X.K da)) (hb : PE X b (tI X.K db)) :
    PE X (.Call (.Name "max" p) [a] [⟨some "default", b, kp⟩] pos) (tI X.K fun e h => (da e h).bind fun x h => (db e h).bind fun y h => maxdV x.settle y.settle h) := by
  refine PE.imp (pe_callBK (cr_maxd hc hu) (gl_of hg) hm (by decide +kernel) (pa_cons ha pa_nil (star_cons na)) (pk_cons hb pk_nil) (by decide) (by decide) (by rw [star_cons na]; rfl) (by rw [star_cons na]; rfl)) fun σ H Q t => ?_
  refine tI_op (r := fun x y H Q => rMaxD X.K [x] [y] H Q) (fun A ρ0 h0 H0 ρ h H v w x y Q s rel rv rw out => ?_) σ H Q t
  unfold maxdV at out
  split at out
  · rename_i xs k e1
    cases rv_int rw
    split at out
    · rename_i ns e3
      obtain ⟨q, us, rfl, h1, h2⟩ := rv.lst rel e1
      cases h2.ints e3
      refine ⟨q, ns, k, rfl, .inl (.inl h1), rfl, fun z => ?_, fun n r z => ?_⟩
      · subst z
        exact out_oki out s rel
      · subst z
        rw [maxL_fold]
        exact out_oki out s rel
    · exact out.elim
  · exact out.elim

/-! ### d.get(x, y), d a written dict -/
def rGet (K : PySem.W.Frag) (q : Addr) : R2 := fun x y H Q => ∃ (z : Str) (r : Option Value), x = .str z ∧ PySem.W.nsIn K q z = some r ∧ ((r = none ∧ Q y H) ∨ ∃ u v, r = some u ∧ RelV v u ∧ Q v H)
theorem pe_gget {x : Str} {q : Addr} {es : Array DictEntry} {n : Nat} {ta tb : TE} (hg : PE X (.Name x px) (tC (.ref q))) (hl : X.K.lookup q = some ⟨.type "dict", none, .dict es n, #[]⟩) (hk : PySem.W.KeysLit X.w.params es.toList) (low : (q == sysModules) = false)
    (ha : PE X a ta) (hb : PE X b tb) (m : M2 X (.Name x px) "get" apos a b pos) : PE X (.Call (.Attribute (.Name x px) "get" apos) [a, b] [] pos) (tOp (rGet X.K q) ta tb) := by
  refine ⟨fun pins s σ H Q I h => ?_⟩
  refine wpAny_Call_method m.base m.few m.line PySem.F.plainAttrs_dict PySem.F.slot_dict_get PySem.F.type_dict_get (thn (hg.run pins s σ H (fun v H1 => v = .ref q ∧ tOp (rGet X.K q) ta tb σ H1 Q) I ⟨rfl, h⟩) ?_)
  rintro u s1 ⟨_, H1, I1, ru, rfl, h1⟩
  obtain rfl : u = Value.ref q := ru
  have hm := PySem.W.mapOf_K (prog := X.prog) (w := X.w) I1.kIn hl hk
  refine ⟨hm.typeIs, hm.noDict, ?_⟩
  rw [m.trees]
  refine Calls.callWith_builtin rfl (Calls.evalArgs_plain (Calls.spliced_cons (thn (ha.run pins s1 σ H1 _ I1 h1) ?_)))
  rintro v2 s2 ⟨y, H2, I2, ry, h2⟩
  refine Calls.spliced_cons (thn (hb.run pins s2 σ H2 _ I2 h2) ?_)
  rintro v3 s3 ⟨d, H3, I3, rd, z, r, rfl, hn, h3⟩
  refine Calls.spliced_nil ?_
  obtain ⟨t, rfl⟩ := ry
  have hm3 := PySem.W.mapOf_K (prog := X.prog) (w := X.w) I3.kIn hl hk
  refine call_meetsIn PySem.F.slot_dict_get hm3.typeIs PySem.F.entry_dict_get (PySem.F.args_dict_get_3 _ _ _) (meets_dict_get_default (strKind X.prog X.w) q (strKind_is X.prog X.w z t) low v3) ⟨_, hm3, ?_⟩
  rw [PySem.W.find_K hl hn]
  rcases h3 with ⟨rfl, h3⟩ | ⟨u, v, rfl, ru, h3⟩
  · exact ⟨d, H3, I3.tok _, rd, h3⟩
  · exact ⟨v, H3, I3.tok _, ru, h3⟩
theorem m2_of {o : Expr} {m : Str} (hb : attributeBase o m X.env (eval o X.env) = eval o X.env) (hl : (apos.endLine == pos.line) = true) (na : nst a = true) (nb : nst b = true) : M2 X o m apos a b pos where
  base := hb
  line := hl
  few := few_of (by simp [nsts, na, nb]) (by simp)
  trees := by rw [star_cons na, star_cons nb]; rfl
theorem s_gget {x : Str} {q : Addr} {kvs : List (Str × PyData)} (hg : PE X (.Name x px) (tC (.ref q))) (hk : KD X.K X.w q kvs) (hl : (apos.endLine == pos.line) = true) (na : nst a = true) (nb : nst b = true) (ha : PE X a (tI X.K da)) (hb : PE X b (tI X.K db)) :
    PE X (.Call (.Attribute (.Name x px) "get" apos) [a, b] [] pos) (tI X.K fun e h => (da e h).bind fun x h => (db e h).bind fun y h => ggetV (some kvs) x.settle y.settle h) := by
  obtain ⟨es, n, k1, k2, k3, k4⟩ := hk
  refine PE.imp (pe_gget hg k1 k2 k3 ha hb (m2_of rfl hl na nb)) fun σ H Q t => ?_
  refine tI_op (fun A ρ0 h0 H0 ρ h H v w x y Q s rel rv rw out => ?_) σ H Q t
  unfold ggetV at out
  split at out
  · rename_i kvs' z e1
    cases e1
    cases rv_str rv
    have k5 := k4 z
    cases e3 : kvs.lookup z with
    | none =>
      rw [e3] at k5 out
      refine ⟨z, none, rfl, k5, .inl ⟨rfl, ?_⟩⟩
      cases w with
      | tl _ => exact rw.elim
      | td _ => exact rw.elim
      | pv p => exact out ρ y H s ⟨rw, rel⟩
      | fl p => exact out ρ y H s ⟨rw, rel⟩
      | ref p => exact out ρ y H s ⟨rw, rel⟩
      | fn p => exact out ρ y H s ⟨rw, rel⟩
    | some d =>
      rw [e3] at k5 out
      obtain ⟨u, v, k6, k7, k8⟩ := k5
      exact ⟨z, some u, rfl, k6, .inr ⟨u, v, rfl, k7, Out.val out s rel (k8 _ _)⟩⟩
  · exact out.elim
end
end G

set_option Elab.async false
set_option linter.all false
set_option maxRecDepth 100000
/-! GZip: xs[::2], xs[1::2], list(zip(x, y)). -/
namespace G
open PySem PySem.Spec PyProof.Rows L2

/-! ### each second one -/
theorem fm_congr {α β : Type} {f g : α → Option β} : ∀ {l : List α}, (∀ x ∈ l, f x = g x) → l.filterMap f = l.filterMap g
  | [], _ => rfl
  | x :: l, h => by
    rw [List.filterMap_cons, List.filterMap_cons, h x List.mem_cons_self, fm_congr fun y hy => h y (List.mem_cons_of_mem _ hy)]
theorem ev_range : ∀ {α : Type} (xs : List α), (List.range ((xs.length + 1) / 2)).filterMap (fun k => xs[2 * k]?) = everyP 0 xs
  | _, [] => by simp [everyP]
  | _, [x] => by simp [everyP, List.range_succ]
  | _, x :: y :: r => by
    have e : ((x :: y :: r).length + 1) / 2 = (r.length + 1) / 2 + 1 := by simp; omega
    rw [e, List.range_succ_eq_map, List.filterMap_cons]
    simp only [Nat.mul_zero, List.getElem?_cons_zero, everyP, List.cons.injEq, true_and]
    rw [List.filterMap_map, ← ev_range r]
    refine fm_congr fun k _ => ?_
    show (x :: y :: r)[2 * (k + 1)]? = r[2 * k]?
    rw [show 2 * (k + 1) = (2 * k + 1) + 1 by omega, List.getElem?_cons_succ, List.getElem?_cons_succ]
theorem ev_range1 {α : Type} (xs : List α) : (List.range (xs.length / 2)).filterMap (fun k => xs[2 * k + 1]?) = everyP 1 xs := by
  cases xs with
  | nil => simp [everyP]
  | cons x r =>
    show _ = everyP 0 r
    rw [← ev_range r]
    simp only [List.length_cons]
    refine fm_congr fun k _ => ?_
    rw [List.getElem?_cons_succ]
theorem everyP_len : ∀ {α : Type} (k : Nat) (xs : List α), (everyP k xs).length ≤ xs.length
  | _, _, [] => by cases ‹Nat› <;> simp [everyP]
  | _, 0, x :: xs => by simp only [everyP, List.length_cons]; have := everyP_len 1 xs; omega
  | _, k + 1, x :: xs => by simp only [everyP, List.length_cons]; have := everyP_len k xs; omega
theorem pick_every0 (its : List Value) : slicePick its.toArray none none (some 2) = (everyP 0 its).toArray := by
  unfold slicePick
  have hb : sliceBounds none none (some 2) its.toArray.size = (0, (its.length : Int), 2) := by simp [sliceBounds]
  rw [hb, ← ev_range its]
  unfold sliceRange
  congr 1
  have hc : (if (2 : Int) > 0 then (if (0 : Int) < its.length then ((its.length : Int) - 0 + 2 - 1) / 2 else 0) else (if (0 : Int) > its.length then (0 - (its.length : Int) - 2 - 1) / (-2) else 0)).toNat = (its.length + 1) / 2 := by
    rw [if_pos (by decide)]
    split <;> omega
  dsimp only
  rw [hc, List.filterMap_map]
  refine fm_congr fun k _ => ?_
  have : ((0 : Int) + 2 * (k : Int)).toNat = 2 * k := by omega
  show its.toArray[((0 : Int) + 2 * (k : Int)).toNat]? = _
  rw [this]
  simp
theorem pick_every1 (its : List Value) : slicePick its.toArray (some 1) none (some 2) = (everyP 1 its).toArray := by
  unfold slicePick
  have hb : sliceBounds (some 1) none (some 2) its.toArray.size = (max 0 (min 1 (its.length : Int)), (its.length : Int), 2) := by simp [sliceBounds]
  rw [hb, ← ev_range1 its]
  unfold sliceRange
  congr 1
  have hc : (if (2 : Int) > 0 then (if max 0 (min 1 (its.length : Int)) < its.length then ((its.length : Int) - max 0 (min 1 (its.length : Int)) + 2 - 1) / 2 else 0) else (if max 0 (min 1 (its.length : Int)) > its.length then (max 0 (min 1 (its.length : Int)) - (its.length : Int) - 2 - 1) / (-2) else 0)).toNat = its.length / 2 := by
    rw [if_pos (by decide)]
    split <;> omega
  dsimp only
  rw [hc, List.filterMap_map]
  refine fm_congr fun k hk => ?_
  have hk := List.mem_range.mp hk
  have : (max 0 (min 1 (its.length : Int)) + 2 * (k : Int)).toNat = 2 * k + 1 := by omega
  show its.toArray[(max 0 (min 1 (its.length : Int)) + 2 * (k : Int)).toNat]? = _
  rw [this]
  simp
theorem vals_every : ∀ {k : Nat} {xs : List V} {us : List Value}, Vals xs us → Vals (everyP k xs) (everyP k us)
  | _, _, _, .nil => by cases ‹Nat› <;> exact .nil
  | 0, _, _, .cons r t => .cons r (vals_every t)
  | k + 1, _, _, .cons _ t => vals_every (k := k) t
theorem RPs.every {K : PySem.W.Frag} {L : Addr → Prop} {H : Hp} : ∀ {k : Nat} {ps : List PyData} {vs : List V}, RPs K L H ps vs → RPs K L H (everyP k ps) (everyP k vs)
  | _, _, _, .nil => by cases ‹Nat› <;> exact .nil
  | 0, _, _, .cons r t => .cons r t.every
  | k + 1, _, _, .cons _ t => t.every (k := k)
def loB : Nat → Option Expr → Bool
  | 0, none => true
  | 1, some (.Constant (.int i) _ _) => decide (i = 1)
  | _, _ => false
def tEvery (K : PySem.W.Frag) (k : Nat) (te : TE) : TE := fun σ H Q => te σ H fun x H1 => ∃ a xs, x = .ref a ∧ SqL K H1 a xs ∧ ∀ p, H1 p = none → Q (.ref p) (upd H1 p (.lst (everyP k xs)))
section
variable {X : Cx} {pos : Pos} {a : Expr} {da : EEnv → EH → R EV}
theorem pe_every {te : TE} {k j : Nat} {lo : Option Expr} {p1 p3 : Pos} (hl : loB k lo = true) (he : PE X a te) : PE X (.Subscript a (.Slice lo none (some (.Constant (.int 2) j p1)) p3) pos) (tEvery X.K k te) := by
  refine ⟨fun pins s σ H Q I h => ?_⟩
  refine Subscript_ (thn (he.run pins s σ H _ I h) fun v s1 ⟨x, H1, I1, r1, q1⟩ => ?_)
  obtain ⟨b, xs, ex, hx, q⟩ := q1
  subst ex
  cases r1
  have hst : PO X (some (.Constant (.int 2) j p1)) (tPart (tC (.int 2))) := po_some pe_int
  obtain ⟨lv, tl, hlo, hpick, htl⟩ : ∃ (lv : Option Int) (tl : TO), PO X lo tl ∧ (∀ its : List Value, slicePick its.toArray lv none (some 2) = (everyP k its).toArray) ∧ (∀ σ H, tl σ H fun o H2 => o = lv ∧ H2 = H) := by
    cases k with
    | zero =>
      cases lo with
      | none => exact ⟨none, _, po_none, pick_every0, fun _ _ => ⟨rfl, rfl⟩⟩
      | some _ => cases hl
    | succ k =>
      cases k with
      | succ k => cases lo <;> cases hl
      | zero =>
        cases lo with
        | none => cases hl
        | some lo =>
          unfold loB at hl
          split at hl
          · rename_i e; cases e
          · rename_i i jj pp e1 e2
            cases e2
            have hi : i = 1 := of_decide_eq_true hl
            subst hi
            exact ⟨some 1, _, po_some pe_int, pick_every1, fun _ _ => ⟨_, rfl, rfl, rfl⟩⟩
          · cases hl
  refine wpAny_Slice (thn (hlo.run pins s1 σ H1 _ I1 (htl σ H1)) fun vl s2 ⟨l, H2, I2, pl, el, e2⟩ => ?_)
  subst el e2
  refine thn (po_none.run pins s2 σ H2 (fun o H3 => o = none ∧ H3 = H2) I2 ⟨rfl, rfl⟩) fun vu s3 ⟨u, H3, I3, pu, eu, e3⟩ => ?_
  subst eu e3
  refine thn (hst.run pins s3 σ H3 (fun o H4 => o = some 2 ∧ H4 = H3) I3 ⟨2, rfl, rfl, rfl⟩) fun vs s4 ⟨o, H4, I4, ps, eo, e4⟩ => ?_
  subst eo e4
  have I5 : Inv X pins σ H4 { s4 with heap := s4.heap.push { cls := .type "slice", data := .fields #[vl, vu, vs] } } := I4.kept (t' := s4.toks) fun b ob q => Heap.get?_push_of_some _ q
  obtain ⟨its, r, ht, hz⟩ := I5.list hx
  have hlen := r.length
  show wpAny (model X.prog X.w) X.A (subscriptTail a (.Slice lo none (some (.Constant (.int 2) j p1)) p3) (.ref b) (.ref s4.heap.objs.size)) (EP X pins σ Q) X.xe { s4 with heap := s4.heap.push { cls := .type "slice", data := .fields #[vl, vu, vs] } }
  refine tail_any (ops := [.ref b, .ref s4.heap.objs.size]) ht.isList.typeIs (PySem.slot_list_getitem.lookup) ?_ (by with_unfolding_all rfl)
  refine wpAny_getItem_list_slice ht.isList (Heap.IsSliceOf.new _ vl vu vs) pl pu ps (by decide) ?_ (by rw [List.size_toArray]; omega)
  rw [hpick]
  have hk := everyP_len k xs
  refine ⟨.ref _, _, I5.laid (t' := s4.toks) (o := .lst (everyP k xs)) (fun b ob q => Heap.get?_push_of_some _ q) (Nat.le_refl _) ?_, rfl, q _ (I5.hok.fresh (Nat.le_refl _))⟩
  exact ⟨by omega, _, 0, vals_every r, Heap.get?_push_size _ rfl⟩
theorem s_every {k j : Nat} {lo : Option Expr} {p1 p3 : Pos} (hl : loB k lo = true) (ha : PE X a (tI X.K da)) : PE X (.Subscript a (.Slice lo none (some (.Constant (.int 2) j p1)) p3) pos) (tI X.K fun e h => (da e h).bind fun x h => everyV k x.settle h) := by
  refine PE.imp (pe_every hl ha) ?_
  rintro σ H Q ⟨A, ρ, h, e, rel, re, out⟩
  refine ⟨A, ρ, h, e, rel, re, ?_⟩
  revert out
  show Out X.K A ρ h H ((da e h).bind _) Q → _
  cases da e h with
  | exc _ _ => intro out; exact out
  | bad => intro out; exact out
  | ok v h1 =>
    intro out ρ1 x H1 s1 r1
    have out : Out X.K A ρ h H (everyV k v.settle h1) Q := out
    unfold everyV at out
    split at out
    · rename_i xs e1
      obtain ⟨rv, rel1⟩ := r1.settle
      obtain ⟨b, vs, rfl, h2, h3⟩ := RV.lst rv rel1 e1
      refine ⟨b, vs, rfl, SqL.of h2, fun p np => ?_⟩
      exact Out.newL out s1 rel1 h3.every np
    · exact out.elim
end
end G

set_option Elab.async false
set_option linter.all false
set_option maxRecDepth 100000
set_option maxHeartbeats 2000000
/-! GLz: list(zip(x, y)), x and y a list or a tuple. -/
namespace GZ
open PySem PySem.Spec PyProof.Rows L2
theorem zl_len : typeLookup (.type "zip") "__len__" = pure none := am_miss_of_fast (by decide +kernel)
theorem zl_hint : typeLookup (.type "zip") "__length_hint__" = pure none := am_miss_of_fast (by decide +kernel)

section
variable {prog : Program} {w : World} {A : Around} {E : Value → Shared → Prop} {s : Shared} {z TI TO T i1 i2 L : Addr} {f : Bool} {oT : Obj} {fp1 fp2 : List Addr} {n1 n2 i : Nat} {P1 P2 : Nat → Value → Prop} {St1 St2 : Nat → Heap → Prop}

theorem held_item {Q : Value → Shared → Prop} (Z : ZipSep2 z TI TO i1 i2 fp1 fp2) (Da : Draws prog w A i1 fp1 n1 P1 St1) (Db : Draws prog w A i2 fp2 n2 P2 St2)
    (hz : IsZipHeld s.heap z TI TO T f) (hT : s.heap.get? T = some oT) (hTI : IsTupOf2 s.heap TI (.ref i1) (.ref i2)) (sa : St1 i s.heap) (sb : St2 i s.heap) (la : i < n1) (lb : i < n2)
    (hQ : ∀ u v h' tk, P1 i u → P2 i v → IsZipHeld h' z TI TO T true → St1 (i + 1) h' → St2 (i + 1) h' → IsTupOf2 h' s.heap.objs.size u v → h'.objs.size = s.heap.objs.size + 1 →
      (∀ c o, c ≠ z → c ≠ i1 → c ≠ i2 → s.heap.get? c = some o → h'.get? c = some o) → Q (.ref s.heap.objs.size) { s with heap := h', toks := tk }) :
    wpAny (model prog w) A (Builtin.«zip.__next__» ⟨[.ref z], []⟩) (fun fin s' => ∃ v, fin = .done (.ret v) ∧ Q v s') E s := by
  obtain ⟨hp, gs, dr, tk0, os⟩ := s
  show wpAny _ _ (field (.ref z) 2 >>= _) _ _ _
  refine wpAny_bind (wpAny_field hz rfl (x := .bool false) rfl ?_)
  show wpAny _ _ (field (.ref z) 3 >>= _) _ _ _
  refine wpAny_bind (wpAny_field hz rfl (x := .ref TI) rfl ?_)
  refine wpAny_bind (wpAny_seqItems hTI rfl ?_)
  show wpAny _ _ (Builtin.SmallTypes.ownedTupleIsFree (.ref z) >>= _) _ _ _
  refine wpAny_bind (wpAny_tupleHeld_zip hz hT fun ha hza hsa => ?_)
  simp only [Bool.false_eq_true, if_false]
  refine wpAny_bind ?_
  rw [← Array.forIn_toList]
  simp only [List.forIn_cons, List.forIn_nil]
  refine wpAny_bind (wpAny_bind (wpAny_holding ?_))
  show wpAny _ _ (Builtin.SmallTypes.nextOf (.ref i1) >>= _) _ _ ⟨ha, gs, dr, tk0, os⟩
  refine wpAny_bind (Da.item i _ _ _ la (Da.over sa hsa Z.zf1) fun u hb tkb pu sna hsb => wpAny_pure ?_)
  replace hsb : Heap.SameBut i1 ha hb := hsb
  refine wpAny_pure ?_
  refine wpAny_bind (wpAny_bind (wpAny_holding ?_))
  show wpAny _ _ (Builtin.SmallTypes.nextOf (.ref i2) >>= _) _ _ ⟨hb, gs, dr, tkb, os⟩
  refine wpAny_bind (Db.item i _ _ _ lb (Db.over (Db.over sb hsa Z.zf2) hsb Z.sep1_2) fun v hc tkc pv snb hsc => wpAny_pure ?_)
  replace hsc : Heap.SameBut i2 hb hc := hsc
  refine wpAny_pure (wpAny_pure ?_)
  show wpAny _ _ (newTuple [u, v] >>= _) _ _ _
  refine wpAny_bind (wpAny_newTuple ?_)
  have hsz : hc.objs.size = hp.objs.size := by rw [hsc.1, hsb.1, hsa.1]
  have hzc : IsZipHeld hc z TI TO T true := hsc.extBut _ _ Z.zi2 (hsb.extBut _ _ Z.zi1 hza)
  have hkc : ∀ c o, c ≠ z → c ≠ i1 → c ≠ i2 → hp.get? c = some o → hc.get? c = some o := fun c o c1 c2 c3 e => hsc.extBut _ _ c3 (hsb.extBut _ _ c2 (hsa.extBut _ _ c1 e))
  have st1 : St1 (i + 1) hc := Da.over sna hsc Z.sep2_1
  refine wpAny_pure ⟨_, rfl, ?_⟩
  show Q (.ref hc.objs.size) _
  have hpq : IsTupOf2 (hc.push { cls := .type "tuple", data := .seq #[u, v] }) hc.objs.size u v := Heap.get?_push_size _ rfl
  have hzq : (hc.push { cls := .type "tuple", data := .seq #[u, v] }).objs.size = hc.objs.size + 1 := Heap.size_push ..
  rw [hsz] at hpq hzq ⊢
  exact hQ u v _ tkc pu pv (Heap.get?_push_of_some _ hzc) (Da.frame _ _ _ st1 fun b _ o e => Heap.get?_push_of_some _ e) (Db.frame _ _ _ snb fun b _ o e => Heap.get?_push_of_some _ e) hpq hzq fun c o c1 c2 c3 e => Heap.get?_push_of_some _ (hkc c o c1 c2 c3 e)

theorem held_end {Q : Fin → Shared → Prop} (Z : ZipSep2 z TI TO i1 i2 fp1 fp2) (Da : Draws prog w A i1 fp1 n1 P1 St1) (Db : Draws prog w A i2 fp2 n2 P2 St2)
    (hz : IsZipHeld s.heap z TI TO T f) (hT : s.heap.get? T = some oT) (hTI : IsTupOf2 s.heap TI (.ref i1) (.ref i2)) (sa : St1 i s.heap) (sb : St2 i s.heap) (la : i ≤ n1) (lb : i ≤ n2) (hend : i = n1 ∨ i = n2)
    (hE : ∀ h' tk e, (∀ c o, c ≠ z → c ≠ i1 → c ≠ i2 → s.heap.get? c = some o → h'.get? c = some o) → (∃ o, h'.get? e = some o ∧ o.cls = .type "StopIteration") → E (.ref e) { s with heap := h', toks := tk }) :
    wpAny (model prog w) A (Builtin.«zip.__next__» ⟨[.ref z], []⟩) Q E s := by
  obtain ⟨hp, gs, dr, tk0, os⟩ := s
  show wpAny _ _ (field (.ref z) 2 >>= _) _ _ _
  refine wpAny_bind (wpAny_field hz rfl (x := .bool false) rfl ?_)
  show wpAny _ _ (field (.ref z) 3 >>= _) _ _ _
  refine wpAny_bind (wpAny_field hz rfl (x := .ref TI) rfl ?_)
  refine wpAny_bind (wpAny_seqItems hTI rfl ?_)
  show wpAny _ _ (Builtin.SmallTypes.ownedTupleIsFree (.ref z) >>= _) _ _ _
  refine wpAny_bind (wpAny_tupleHeld_zip hz hT fun ha hza hsa => ?_)
  simp only [Bool.false_eq_true, if_false]
  refine wpAny_bind ?_
  rw [← Array.forIn_toList]
  simp only [List.forIn_cons, List.forIn_nil]
  refine wpAny_bind (wpAny_bind (wpAny_holding ?_))
  show wpAny _ _ (Builtin.SmallTypes.nextOf (.ref i1) >>= _) _ _ ⟨ha, gs, dr, tk0, os⟩
  by_cases hlt : i < n1
  · refine wpAny_bind (Da.item i _ _ _ hlt (Da.over sa hsa Z.zf1) fun u hb tkb pu sna hsb => wpAny_pure ?_)
    replace hsb : Heap.SameBut i1 ha hb := hsb
    have hi2 : i = n2 := by omega
    refine wpAny_pure ?_
    refine wpAny_bind (wpAny_bind (wpAny_holding ?_))
    show wpAny _ _ (Builtin.SmallTypes.nextOf (.ref i2) >>= _) _ _ ⟨hb, gs, dr, tkb, os⟩
    refine wpAny_bind (Db.done ⟨hb, gs, dr, tkb, os⟩ _ _ (by rw [← hi2]; exact Db.over (Db.over sb hsa Z.zf2) hsb Z.sep1_2) fun hc e hsc he => ?_)
    replace hsc : Heap.ExtBut i2 hb hc := hsc
    exact hE hc tkb e (fun c o c1 c2 c3 x => hsc _ _ c3 (hsb.extBut _ _ c2 (hsa.extBut _ _ c1 x))) he
  · have hi1 : i = n1 := by omega
    refine wpAny_bind (Da.done ⟨ha, gs, dr, tk0, os⟩ _ _ (by rw [← hi1]; exact Da.over sa hsa Z.zf1) fun hc e hsc he => ?_)
    replace hsc : Heap.ExtBut i1 ha hc := hsc
    exact hE hc tk0 e (fun c o c1 c2 _ x => hsc _ _ c2 (hsa.extBut _ _ c1 x)) he

/-- a zip on its way; L is written meanwhile -/
def ZSt (z TI TO i1 i2 L : Addr) (St1 St2 : Nat → Heap → Prop) (i : Nat) (h : Heap) : Prop :=
  IsTupOf2 h TI (.ref i1) (.ref i2) ∧ St1 i h ∧ St2 i h ∧
    ((IsZip h z TI TO .none ∧ ∃ a b, IsTupOf2 h TO a b) ∨ ∃ T f oT, IsZipHeld h z TI TO T f ∧ h.get? T = some oT ∧ T ≠ z ∧ T ≠ i1 ∧ T ≠ i2 ∧ T ≠ L)
theorem ZSt.keep (Da : Draws prog w A i1 fp1 n1 P1 St1) (Db : Draws prog w A i2 fp2 n2 P2 St2) {h h' : Heap} (x : ZSt z TI TO i1 i2 L St1 St2 i h) (hk : ∀ b o, b ≠ L → h.get? b = some o → h'.get? b = some o)
    (h1 : L ∉ fp1) (h2 : L ∉ fp2) (h3 : L ≠ z) (h4 : L ≠ TI) (h5 : L ≠ TO) : ZSt z TI TO i1 i2 L St1 St2 i h' := by
  obtain ⟨a, b, c, d⟩ := x
  refine ⟨hk _ _ (Ne.symm h4) a, Da.frame _ _ _ b fun q hq o e => hk q o (fun z => h1 (z ▸ hq)) e, Db.frame _ _ _ c fun q hq o e => hk q o (fun z => h2 (z ▸ hq)) e, ?_⟩
  rcases d with ⟨d, u, v, e⟩ | ⟨T, f, oT, d, e, r1, r2, r3, r4⟩
  · exact .inl ⟨hk _ _ (Ne.symm h3) d, u, v, hk _ _ (Ne.symm h5) e⟩
  · exact .inr ⟨T, f, oT, hk _ _ (Ne.symm h3) d, hk _ _ r4 e, r1, r2, r3, r4⟩

theorem z_item {Q : Option Value → Shared → Prop} (Z : ZipSep2 z TI TO i1 i2 fp1 fp2) (Da : Draws prog w A.in1 i1 fp1 n1 P1 St1) (Db : Draws prog w A.in1 i2 fp2 n2 P2 St2)
    (st : ZSt z TI TO i1 i2 L St1 St2 i s.heap) (hL : L < s.heap.objs.size) (la : i < n1) (lb : i < n2)
    (hQ : ∀ u v h' tk, P1 i u → P2 i v → ZSt z TI TO i1 i2 L St1 St2 (i + 1) h' → IsTupOf2 h' s.heap.objs.size u v → h'.objs.size = s.heap.objs.size + 1 →
      (∀ c o, c ≠ z → c ≠ TO → c ≠ i1 → c ≠ i2 → s.heap.get? c = some o → h'.get? c = some o) → Q (some (.ref s.heap.objs.size)) { s with heap := h', toks := tk }) :
    wpAny (model prog w) A (pyNext (.ref z)) Q E s := by
  obtain ⟨hTI, sa, sb, hz⟩ := st
  have lt : ∀ {c o}, s.heap.get? c = some o → s.heap.objs.size ≠ c := fun e => Nat.ne_of_gt (Heap.lt_size e)
  have na : s.heap.objs.size ≠ i1 := let ⟨_, e⟩ := Da.live _ _ sa; lt e
  have nb : s.heap.objs.size ≠ i2 := let ⟨_, e⟩ := Db.live _ _ sb; lt e
  rcases hz with ⟨hz, u0, v0, hTO⟩ | ⟨T, f, oT, hz, hT, r1, r2, r3, r4⟩
  · have hTy : s.TypeIs (.ref z) "zip" := ⟨_, hz, rfl⟩
    unfold pyNext
    refine wpAny_bind (wpAny_attempt (wpAny_callSpecial?_slot (name := Str.ofString "__next__") hTy F.slot_zip_next
      (wpAny_call_entry F.slot_zip_next hTy F.entry_zip_next (zipD2_next_item Z Da Db hz hTI hTO sa sb la lb fun u v h' tk pu pv hz' hTO' sa' sb' hT' hsz hk => wpAny_pure ?_) (F.args_zip_next_1 _))))
    exact hQ u v h' tk pu pv ⟨hk _ _ Z.TIz Z.TITO Z.TIi1 Z.TIi2 hTI, sa', sb', .inr ⟨s.heap.objs.size, false, _, hz', hT', lt hz, na, nb, Nat.ne_of_gt hL⟩⟩ hT' hsz hk
  · have hTy : s.TypeIs (.ref z) "zip" := ⟨_, hz, rfl⟩
    unfold pyNext
    refine wpAny_bind (wpAny_attempt (wpAny_callSpecial?_slot (name := Str.ofString "__next__") hTy F.slot_zip_next
      (wpAny_call_entry F.slot_zip_next hTy F.entry_zip_next (held_item Z Da Db hz hT hTI sa sb la lb fun u v h' tk pu pv hz' sa' sb' hT' hsz hk => wpAny_pure ?_) (F.args_zip_next_1 _))))
    exact hQ u v h' tk pu pv ⟨hk _ _ Z.TIz Z.TIi1 Z.TIi2 hTI, sa', sb', .inr ⟨T, true, oT, hz', hk _ _ r1 r2 r3 hT, r1, r2, r3, r4⟩⟩ hT' hsz fun c o c1 _ c3 c4 e => hk c o c1 c3 c4 e
theorem z_end {Q : Option Value → Shared → Prop} (Z : ZipSep2 z TI TO i1 i2 fp1 fp2) (Da : Draws prog w A.in1 i1 fp1 n1 P1 St1) (Db : Draws prog w A.in1 i2 fp2 n2 P2 St2)
    (st : ZSt z TI TO i1 i2 L St1 St2 i s.heap) (la : i ≤ n1) (lb : i ≤ n2) (hend : i = n1 ∨ i = n2)
    (hQ : ∀ h' tk, (∀ c o, c ≠ z → c ≠ TO → c ≠ i1 → c ≠ i2 → s.heap.get? c = some o → h'.get? c = some o) → Q none { s with heap := h', toks := tk }) :
    wpAny (model prog w) A (pyNext (.ref z)) Q E s := by
  obtain ⟨hTI, sa, sb, hz⟩ := st
  rcases hz with ⟨hz, u0, v0, hTO⟩ | ⟨T, f, oT, hz, hT, r1, r2, r3, r4⟩
  · have hTy : s.TypeIs (.ref z) "zip" := ⟨_, hz, rfl⟩
    unfold pyNext
    refine wpAny_bind (wpAny_attempt (wpAny_callSpecial?_slot (name := Str.ofString "__next__") hTy F.slot_zip_next
      (wpAny_call_entry F.slot_zip_next hTy F.entry_zip_next (zipD2_next_end Z Da Db hz hTI hTO sa sb la lb hend fun h' tk e hk he => ?_) (F.args_zip_next_1 _))))
    obtain ⟨o, ho, hc⟩ := he
    exact wpAny_bind (wpAny_isInstance (T := "StopIteration") (b := true) ⟨o, ho, hc⟩ isSubtype_stop (wpAny_pure (hQ _ tk hk)))
  · have hTy : s.TypeIs (.ref z) "zip" := ⟨_, hz, rfl⟩
    unfold pyNext
    refine wpAny_bind (wpAny_attempt (wpAny_callSpecial?_slot (name := Str.ofString "__next__") hTy F.slot_zip_next
      (wpAny_call_entry F.slot_zip_next hTy F.entry_zip_next (held_end Z Da Db hz hT hTI sa sb la lb hend fun h' tk e hk he => ?_) (F.args_zip_next_1 _))))
    obtain ⟨o, ho, hc⟩ := he
    exact wpAny_bind (wpAny_isInstance (T := "StopIteration") (b := true) ⟨o, ho, hc⟩ isSubtype_stop (wpAny_pure (hQ _ tk fun c o c1 _ c3 c4 e => hk c o c1 c3 c4 e)))
end

/-- the tuples made so far -/
structure ZG (P1 P2 : Nat → Value → Prop) (lo : Addr) (h : Heap) (as : List Addr) : Prop where
  rise : as.Pairwise (· < ·)
  above : ∀ a ∈ as, lo < a
  pairs : ∀ (j : Nat) (a : Addr), as[j]? = some a → ∃ u v, P1 j u ∧ P2 j v ∧ IsTupOf2 h a u v
section
variable {prog : Program} {w : World} {A : Around} {s : Shared} {R : Result → Shared → Prop} {z TI TO i1 i2 : Addr} {fp1 fp2 : List Addr} {n1 n2 : Nat} {P1 P2 : Nat → Value → Prop} {St1 St2 : Nat → Heap → Prop}
theorem z_loop (L lo : Addr) (Z : ZipSep2 z TI TO i1 i2 fp1 fp2) (Da : Draws prog w A.in1.in1 i1 fp1 n1 P1 St1) (Db : Draws prog w A.in1.in1 i2 fp2 n2 P2 St2)
    (lz : z ≤ lo) (lT : TO ≤ lo) (l1 : i1 ≤ lo) (l2 : i2 ≤ lo) (lL : L ≤ lo) (m1 : L ∉ fp1) (m2 : L ∉ fp2) (d1 : L ≠ z) (d2 : L ≠ TI) (d3 : L ≠ TO) (d4 : L ≠ i1) (d5 : L ≠ i2) (hn : min n1 n2 ≤ sizeLine) (res : Value) {hs : Heap}
    (hR : ∀ h' tk acc c as, (∀ b o, b ≠ L → b ≠ z → b ≠ TO → b ≠ i1 → b ≠ i2 → hs.get? b = some o → h'.get? b = some o) → h'.get? L = some { cls := .type "list", dict := none, data := .seq acc c, slots := #[] } → as.length = min n1 n2 → ZG P1 P2 lo h' as →
      acc.toList = as.map Value.ref → R (.ok (.ret res)) { s with heap := h', toks := tk }) :
    ∀ (k i : Nat) (h : Heap) (tk c : Nat) (acc : Array Value) (as : List Addr), min n1 n2 - i = k → i ≤ min n1 n2 → ZSt z TI TO i1 i2 L St1 St2 i h → (∀ b o, b ≠ L → b ≠ z → b ≠ TO → b ≠ i1 → b ≠ i2 → hs.get? b = some o → h.get? b = some o) →
      h.get? L = some { cls := .type "list", dict := none, data := .seq acc c, slots := #[] } → acc.toList = as.map Value.ref → as.length = i → ZG P1 P2 lo h as → lo < h.objs.size →
      codeAny (model prog w) A (.builtin "list.extend.loop" ⟨[.ref L, .ref z, res], []⟩) R { s with heap := h, toks := tk } := by
  have far : ∀ {a : Addr}, lo < a → a ≠ L ∧ a ≠ z ∧ a ≠ TO ∧ a ≠ i1 ∧ a ≠ i2 := fun h => ⟨Nat.ne_of_gt (Nat.lt_of_le_of_lt lL h), Nat.ne_of_gt (Nat.lt_of_le_of_lt lz h), Nat.ne_of_gt (Nat.lt_of_le_of_lt lT h), Nat.ne_of_gt (Nat.lt_of_le_of_lt l1 h), Nat.ne_of_gt (Nat.lt_of_le_of_lt l2 h)⟩
  intro k
  induction k with
  | zero =>
    intro i h tk c acc as hk hi hst hkeep hS hacc hal hG hIs
    refine codeAny_builtin PySem.F.entry_extend_loop ?_
    rw [Around.under_plainId PySem.F.plain_extend_loop _]
    show wpAny _ A.in1 (pyNext (.ref z) >>= _) _ _ _
    refine wpAny_bind (z_end (s := { s with heap := h, toks := tk }) (A := A.in1) Z Da Db hst (by omega) (by omega) (by omega) fun h' tk' he => ?_)
    refine wpAny_pure (hR h' tk' acc c as (fun b o h1 h2 h3 h4 h5 e => he b o h2 h3 h4 h5 (hkeep b o h1 h2 h3 h4 h5 e)) (he _ _ d1 d3 d4 d5 hS) (by omega) ⟨hG.rise, hG.above, fun j a hj => ?_⟩ hacc)
    obtain ⟨u, v, e1, e2, e3⟩ := hG.pairs j a hj
    obtain ⟨f1, f2, f3, f4, f5⟩ := far (hG.above a (List.mem_of_getElem? hj))
    exact ⟨u, v, e1, e2, he a _ f2 f3 f4 f5 e3⟩
  | succ k ih =>
    intro i h tk c acc as hk hi hst hkeep hS hacc hal hG hIs
    have hsz : acc.size = i := by rw [← Array.length_toList, hacc, List.length_map, hal]
    refine codeAny_builtin PySem.F.entry_extend_loop ?_
    rw [Around.under_plainId PySem.F.plain_extend_loop _]
    show wpAny _ A.in1 (pyNext (.ref z) >>= _) _ _ _
    refine wpAny_bind (z_item (s := { s with heap := h, toks := tk }) (A := A.in1) Z Da Db hst (Heap.lt_size hS) (by omega) (by omega) fun u v h' tk' pu pv hst' ht hzz hkp => ?_)
    dsimp only at ht hzz hkp ⊢
    have hS' := hkp L _ d1 d3 d4 d5 hS
    have up : ∀ b o, b ≠ L → h'.get? b = some o → (h'.update L (Obj.mapSeq (·.push (Value.ref h.objs.size)))).get? b = some o := fun b o hb e => (Heap.get?_update_other _ _ (Ne.symm hb)).trans e
    obtain ⟨g1, g2, g3, g4, g5⟩ := far hIs
    show wpAny _ A.in1 (updateSeq L (·.push (Value.ref h.objs.size)) >>= _) _ _ _
    refine wpAny_bind ?_
    refine wpAny_updateSeq hS' rfl (wpAny_pure ⟨plainId_quiet PySem.F.plain_extend_loop _, ih (i + 1) _ tk' _ (acc.push (Value.ref h.objs.size)) (as ++ [h.objs.size]) (by omega) (by omega) (hst'.keep Da Db up m1 m2 d1 d2 d3)
      (fun b o h1 h2 h3 h4 h5 e => up b o h1 (hkp b o h2 h3 h4 h5 (hkeep b o h1 h2 h3 h4 h5 e))) (Heap.get?_update_self _ hS' rfl) (by rw [Array.toList_push, hacc, List.map_append]; rfl) (by rw [List.length_append, hal]; rfl) ⟨?_, ?_, ?_⟩ ?_⟩) (by rw [hsz]; omega) (by show (acc.push (Value.ref h.objs.size)).size ≤ sizeLine + 1; rw [Array.size_push, hsz]; omega)
    · refine List.pairwise_append.mpr ⟨hG.rise, List.pairwise_singleton _ _, fun a ha b hb => ?_⟩
      rw [List.mem_singleton.mp hb]
      obtain ⟨j, hj⟩ := List.mem_iff_getElem?.mp ha
      obtain ⟨_, _, _, _, e⟩ := hG.pairs j a hj
      exact Heap.lt_size e
    · intro a ha
      rcases List.mem_append.mp ha with ha | ha
      · exact hG.above a ha
      · rw [List.mem_singleton.mp ha]; exact hIs
    · intro j b hj
      rcases Nat.lt_trichotomy j as.length with h1 | h1 | h1
      · rw [List.getElem?_append_left h1] at hj
        obtain ⟨u', v', e1, e2, e3⟩ := hG.pairs j b hj
        obtain ⟨f1, f2, f3, f4, f5⟩ := far (hG.above b (List.mem_of_getElem? hj))
        exact ⟨u', v', e1, e2, up b _ f1 (hkp b _ f2 f3 f4 f5 e3)⟩
      · subst h1
        have hb : h.objs.size = b := by simpa using hj
        subst hb
        exact ⟨u, v, by rw [hal]; exact pu, by rw [hal]; exact pv, up _ _ g1 ht⟩
      · rw [List.getElem?_eq_none (by rw [List.length_append, List.length_singleton]; omega)] at hj
        cases hj
    · have e : (h'.update L (Obj.mapSeq (·.push (Value.ref h.objs.size)))).get? h.objs.size = _ := up _ _ g1 ht
      exact Nat.lt_trans hIs (Heap.lt_size e)

theorem z_hintless {E : Value → Shared → Prop} {r : Addr} (hT : s.TypeIs (.ref r) "zip") {Q : Bool → Shared → Prop} (h : Q true s) : wpAny (model prog w) A (Builtin.List.listLengthHint (.ref r)) Q E s := by
  unfold Builtin.List.listLengthHint
  refine wpAny_bind (wpAny_specialOf hT zl_len ?_)
  show wpAny _ _ (specialOf (Value.ref r) (Str.ofString "__length_hint__") >>= _) _ _ _
  refine wpAny_bind (wpAny_specialOf hT zl_hint ?_)
  exact wpAny_pure h
end
section
variable {prog : Program} {w : World} {A : Around} {E : Value → Shared → Prop} {s : Shared} {R : Result → Shared → Prop} {z TI TO i1 i2 : Addr} {fp1 fp2 : List Addr} {n1 n2 : Nat} {P1 P2 : Nat → Value → Prop} {St1 St2 : Nat → Heap → Prop}
/-- list.__init__ over a new zip -/
theorem z_init (L lo : Addr) (Z : ZipSep2 z TI TO i1 i2 fp1 fp2) (Da : Draws prog w A.in1.in1 i1 fp1 n1 P1 St1) (Db : Draws prog w A.in1.in1 i2 fp2 n2 P2 St2)
    (lz : z ≤ lo) (lT : TO ≤ lo) (l1 : i1 ≤ lo) (l2 : i2 ≤ lo) (lL : L ≤ lo) (m1 : L ∉ fp1) (m2 : L ∉ fp2) (d1 : L ≠ z) (d2 : L ≠ TI) (d3 : L ≠ TO) (d4 : L ≠ i1) (d5 : L ≠ i2) (hn : min n1 n2 ≤ sizeLine)
    (hS : s.heap.get? L = some { cls := .type "list", data := .seq #[] }) (hlo : lo < s.heap.objs.size) (hz : IsZip s.heap z TI TO .none) (hTO : ∃ a b, IsTupOf2 s.heap TO a b) (hTI : IsTupOf2 s.heap TI (.ref i1) (.ref i2)) (sa : St1 0 s.heap) (sb : St2 0 s.heap)
    (hR : ∀ h' tk acc c as, (∀ b o, b ≠ L → b ≠ z → b ≠ TO → b ≠ i1 → b ≠ i2 → s.heap.get? b = some o → h'.get? b = some o) → h'.get? L = some { cls := .type "list", dict := none, data := .seq acc c, slots := #[] } → as.length = min n1 n2 → ZG P1 P2 lo h' as →
      acc.toList = as.map Value.ref → R (.ok (.ret .none)) { s with heap := h', toks := tk }) :
    wpAny (model prog w) A.in1 (Builtin.«list.__init__» ⟨[.ref L, .ref z], []⟩)
      (fun fin s' => match fin with | .done f => R (.ok f) s' | .again c' => c'.quiet = true ∧ codeAny (model prog w) A c' R s') (fun e s' => R (.error e) s') s := by
  show wpAny _ _ (do let old ← Builtin.List.listItems (.ref L); Builtin.List.listUpdate (.ref L) (fun _ => #[]); letGo old.toList.reverse; Builtin.List.listExtendWith (.ref L) (.ref z) .none) _ _ s
  refine wpAny_bind ?_
  unfold Builtin.List.listItems
  refine wpAny_bind (wpAny_seqItems hS rfl (wpAny_pure ?_))
  show wpAny _ _ (updateSeq L (fun _ => #[]) >>= fun _ => letGo (#[] : Array Value).toList.reverse >>= fun _ => Builtin.List.listExtendWith (.ref L) (.ref z) .none) _ _ s
  refine wpAny_bind (wpAny_updateSeq hS rfl ?_)
  have hSa := Heap.get?_update_self (Obj.mapSeq (fun _ => (#[] : Array Value))) hS rfl
  have oth : ∀ b o, b ≠ L → s.heap.get? b = some o → (s.heap.update L (Obj.mapSeq (fun _ => (#[] : Array Value)))).get? b = some o :=
    fun b o hb e => (Heap.get?_update_other _ _ (Ne.symm hb)).trans e
  refine wpAny_bind (wpAny_letGo ?_)
  unfold Builtin.List.listExtendWith
  have hza := oth _ _ (Ne.symm d1) hz
  refine wpAny_bind (wpAny_typeOf (T := "zip") ⟨_, hza, rfl⟩ ?_)
  have q1 : Builtin.List.listSameRef (.ref L) (.ref z) = false := by simp [Builtin.List.listSameRef, d1]
  have q2 : (Value.type "zip" == Value.type "list") = false := by decide
  have q3 : (Value.type "zip" == Value.type "tuple") = false := by decide
  simp only [q1, q2, q3, Bool.or_false, Bool.false_eq_true, if_false]
  refine wpAny_bind (wpAny_pyIter_zip hza ?_)
  refine wpAny_bind (wpAny_holding (z_hintless ⟨_, hza, rfl⟩ ?_))
  show wpAny _ _ (rule "list.extend.makes-room" >>= fun _ => Builtin.List.listTouch (.ref L) >>= fun _ => again (.builtin "list.extend.loop" ⟨[.ref L, .ref z, .none], []⟩)) _ _ _
  refine wpAny_bind (wpAny_rule ?_)
  refine wpAny_bind ?_
  show wpAny _ _ (updateSeq L (·.push .none) >>= fun _ => updateSeq L (·.pop)) _ _ _
  refine wpAny_bind (wpAny_updateSeq hSa rfl ?_)
  have hSb := Heap.get?_update_self (Obj.mapSeq (·.push Value.none)) hSa rfl
  refine wpAny_updateSeq (hz := by seq_fits) hSb rfl ?_
  have hSc := Heap.get?_update_self (Obj.mapSeq (·.pop)) hSb rfl
  generalize hh : ((s.heap.update L (Obj.mapSeq (fun _ => (#[] : Array Value)))).update L (Obj.mapSeq (·.push Value.none))).update L (Obj.mapSeq (·.pop)) = hq at hSc ⊢
  have all : ∀ b o, b ≠ L → s.heap.get? b = some o → hq.get? b = some o := fun b o hb e => by
    rw [← hh]
    exact (Heap.get?_update_other _ _ (Ne.symm hb)).trans ((Heap.get?_update_other _ _ (Ne.symm hb)).trans (oth b o hb e))
  have hsq : hq.objs.size = s.heap.objs.size := by rw [← hh]; simp [Heap.size_update]
  have st0 : ZSt z TI TO i1 i2 L St1 St2 0 s.heap := ⟨hTI, sa, sb, .inl ⟨hz, hTO⟩⟩
  refine wpAny_pure ⟨plainId_quiet PySem.F.plain_extend_loop _, ?_⟩
  exact z_loop (s := s) (hs := s.heap) L lo Z Da Db lz lT l1 l2 lL m1 m2 d1 d2 d3 d4 d5 hn .none hR _ 0 hq _ _ #[] [] (Nat.sub_zero _) (Nat.zero_le _) (st0.keep Da Db all m1 m2 d1 d2 d3) (fun b o h1 _ _ _ _ e => all b o h1 e) hSc rfl rfl ⟨List.Pairwise.nil, (fun _ ha => nomatch ha), (fun j a hj => by simp at hj)⟩ (by rw [hsq]; exact hlo)
end
end GZ

set_option Elab.async false
set_option linter.all false
set_option maxRecDepth 100000
set_option maxHeartbeats 2000000
namespace GZ
open PySem PySem.Spec PyProof.Rows L2

/-! ### the pairs tracked -/
def putZ : Hp → List Addr → List (V × V) → Hp
  | G, t :: ts, q :: qs => putZ (upd G t (.tup [q.1, q.2])) ts qs
  | G, _, _ => G
theorem putZ_off {b : Addr} : ∀ (ts : List Addr) (qs : List (V × V)) (G : Hp), b ∉ ts → putZ G ts qs b = G b
  | [], _, _, _ => rfl
  | _ :: _, [], _, _ => rfl
  | t :: ts, q :: qs, G, no => by
    show putZ (upd G t (.tup [q.1, q.2])) ts qs b = G b
    rw [putZ_off ts qs _ (fun y => no (List.mem_cons_of_mem _ y)), upd_ne (fun y => no (by rw [y]; exact List.mem_cons_self))]
theorem putZ_at : ∀ (ts : List Addr) (qs : List (V × V)) (G : Hp), ts.Nodup → ∀ (j : Nat) (t : Addr) (q : V × V), ts[j]? = some t → qs[j]? = some q → putZ G ts qs t = some (.tup [q.1, q.2])
  | [], _, _, _, _, _, _, e, _ => by simp at e
  | _ :: _, [], _, _, _, _, _, _, e => by simp at e
  | t0 :: ts, q0 :: qs, G, nd, 0, t, q, e1, e2 => by
    cases e1
    cases e2
    show putZ (upd G t0 (.tup [q0.1, q0.2])) ts qs t0 = _
    rw [putZ_off ts qs _ (List.nodup_cons.mp nd).1, upd_same]
  | t0 :: ts, q0 :: qs, G, nd, j + 1, t, q, e1, e2 => putZ_at ts qs _ (List.nodup_cons.mp nd).2 j t q (by simpa using e1) (by simpa using e2)
theorem refs_vals : ∀ ts : List Addr, Vals (ts.map V.ref) (ts.map Value.ref)
  | [] => .nil
  | _ :: ts => .cons rfl (refs_vals ts)
section
variable {X : Cx}
theorem z_laid {pins : List (Addr × Obj)} {σ : L2.St} {G : Hp} {s : Shared} {g : Heap} {tk : Nat} {xs ys : List V} {us vs : List Value} {acc : Array Value} {c : Nat} {ts : List Addr} {L : Addr} (I : Inv X pins σ G s) (hL : s.heap.objs.size ≤ L) (rx : Vals xs us) (ry : Vals ys vs) (hz : xs.length ≤ sizeLine)
    (keep : ∀ b o, s.heap.get? b = some o → g.get? b = some o) (atL : g.get? L = some { cls := .type "list", dict := none, data := .seq acc c, slots := #[] }) (hl : ts.length = min xs.length ys.length) (zg : ZG (fun j u => us[j]? = some u) (fun j v => vs[j]? = some v) L g ts) (hacc : acc.toList = ts.map Value.ref) :
    ∃ G' : Hp, (∀ b o, G b = some o → G' b = some o) ∧ G L = none ∧ (∀ t ∈ ts, G t = none) ∧ L ∉ ts ∧ G' L = some (.lst (ts.map V.ref)) ∧ (∀ (j : Nat) (t : Addr) (q : V × V), ts[j]? = some t → (xs.zip ys)[j]? = some q → G' t = some (.tup [q.1, q.2])) ∧ Inv X pins σ G' { s with heap := g, toks := tk } := by
  have noL : L ∉ ts := fun y => Nat.lt_irrefl _ (zg.above _ y)
  have nd : ts.Nodup := List.Pairwise.imp (fun {a b} (h : a < b) => Nat.ne_of_lt h) zg.rise
  have freeT : ∀ t ∈ ts, G t = none := fun t ht => I.hok.fresh (Nat.le_of_lt (Nat.lt_of_le_of_lt hL (zg.above t ht)))
  have freeL : G L = none := I.hok.fresh hL
  have ats := putZ_at ts (xs.zip ys) (upd G L (.lst (ts.map V.ref))) nd
  have off : ∀ b, b ∉ ts → b ≠ L → putZ (upd G L (.lst (ts.map V.ref))) ts (xs.zip ys) b = G b := fun b a1 a2 => by rw [putZ_off ts _ _ a1, upd_ne a2]
  have old : ∀ b o, s.heap.get? b = some o → b ∉ ts ∧ b ≠ L := fun b o e => ⟨fun y => absurd (Heap.lt_size e) (Nat.not_lt.mpr (Nat.le_trans hL (Nat.le_of_lt (zg.above b y)))), fun y => absurd (Heap.lt_size e) (Nat.not_lt.mpr (y ▸ hL))⟩
  have kp : ∀ b u, G b = some u → putZ (upd G L (.lst (ts.map V.ref))) ts (xs.zip ys) b = some u := fun b u e => by
    rw [off b (fun y => by rw [freeT b y] at e; cases e) (fun y => by rw [y, freeL] at e; cases e)]
    exact e
  have eL : putZ (upd G L (.lst (ts.map V.ref))) ts (xs.zip ys) L = some (.lst (ts.map V.ref)) := by rw [putZ_off ts _ _ noL, upd_same]
  refine ⟨putZ (upd G L (.lst (ts.map V.ref))) ts (xs.zip ys), kp, freeL, freeT, noL, eL, ats, ?_⟩
  refine I.call' (ch := []) rfl ⟨fun b o q _ _ _ => keep b o q, fun b o q _ _ _ => ⟨o.slots, keep b o q⟩, fun b o q n _ => ?_, fun b o q _ => ⟨o, keep b o q⟩, fun b _ q => kp b _ q, fun b _ u q => kp b _ q, fun b ps q => ⟨#[], by rw [kp b _ q]; simp⟩⟩ (fun b u q => ?_) I.bare fun b y => by simp at y
  · obtain ⟨y1, y2⟩ := old b o q
    rw [off b y1 y2]
    exact n
  · by_cases hb : b ∈ ts
    · obtain ⟨j, ej⟩ := List.mem_iff_getElem?.mp hb
      obtain ⟨u1, v1, e1, e2, e3⟩ := zg.pairs j b ej
      have hj := (List.getElem?_eq_some_iff.mp ej).1
      have hx : j < xs.length := by omega
      have hy : j < ys.length := by omega
      have ep : (xs.zip ys)[j]? = some (xs[j], ys[j]) := by
        rw [List.getElem?_eq_getElem (by rw [List.length_zip]; omega), List.getElem_zip]
      have := ats j b _ ej ep
      rw [this] at q
      cases q
      obtain ⟨u', f1, f2⟩ := rx.get (List.getElem?_eq_getElem hx)
      obtain ⟨v', f3, f4⟩ := ry.get (List.getElem?_eq_getElem hy)
      rw [e1] at f1; cases f1
      rw [e2] at f3; cases f3
      exact ⟨by show 2 ≤ sizeLine; decide, [u1, v1], .cons f2 (.cons f4 .nil), ⟨_, e3, rfl, _, rfl⟩⟩
    · by_cases hb2 : b = L
      · rw [hb2] at q ⊢
        rw [eL] at q
        cases q
        refine ⟨by rw [List.length_map]; omega, acc.toList, c, by rw [hacc]; exact refs_vals ts, ?_⟩
        rw [Array.toArray_toList]
        exact atL
      · rw [off b hb hb2] at q
        exact (I.hok b u q).stay (fun d v _ y => keep d v y) (fun d y => kp d _ y) fun d _ y => kp d _ y
/-- a list or a tuple that is drawn from -/
theorem z_draw {pins : List (Addr × Obj)} {σ : L2.St} {G : Hp} {s : Shared} {a : Addr} {xs : List V} (I : Inv X pins σ G s) (h : SqL X.K G a xs ∨ SqT X.K G a xs) : ∃ (us : List Value) (o : Obj) (HH : Heap → Prop) (St : Addr → Nat → Heap → Prop), Vals xs us ∧ xs.length ≤ sizeLine ∧ a < s.heap.objs.size ∧ Begins (.ref a) o HH ∧ HH s.heap ∧
    (∀ (A : Around) (it : Addr), A.handled = none → a ≠ it → Draws X.prog X.w A it [it, a] us.length (fun i v => us[i]? = some v) (St it)) ∧ (∀ (g : Heap) (it : Addr), (∀ b o, s.heap.get? b = some o → g.get? b = some o) → g.get? it = some o → St it 0 g) := by
  rcases h with h | h
  · obtain ⟨us, rv, p, hz⟩ := I.list h
    refine ⟨us, _, _, fun it i g => g.IsListIter it a i ∧ g.IsList a us.toArray, rv, hz, p.lt, begins_list a us.toArray, p.isList, fun A it hh ne => ?_, fun g it hk e => ⟨⟨_, e, rfl, rfl⟩, p.isList.at fun o e' => hk _ o e'⟩⟩
    have := Draws.list (prog := X.prog) (w := X.w) hh it a ne us.toArray
    simpa using this
  · obtain ⟨us, rv, p, hz⟩ := I.tuple h
    obtain ⟨o1, ho1, _⟩ := id p
    refine ⟨us, _, _, fun it i g => g.IsTupleIter it a i ∧ g.IsTuple a us.toArray, rv, hz, Heap.lt_size ho1, begins_tuple a us.toArray, p, fun A it hh ne => ?_, fun g it hk e => ⟨⟨_, e, rfl, rfl⟩, ?_⟩⟩
    · have := Draws.tuple (prog := X.prog) (w := X.w) hh it a ne us.toArray
      simpa using this
    · obtain ⟨o, ho, r⟩ := id p
      exact ⟨o, hk _ _ ho, r⟩
theorem off2 {n a b : Nat} (h1 : n ≠ a) (h2 : n ≠ b) : (n : Addr) ∉ ([a, b] : List Addr) := fun h => by
  rcases List.mem_cons.mp h with h | h
  · exact h1 h
  · exact h2 (List.mem_singleton.mp h)
theorem sep_of (n a b : Nat) (la : a < n) (lb : b < n) : ZipSep2 (n + 4) (n + 2) (n + 3) n (n + 1) [n, a] [n + 1, b] where
  TIz := fun h => by have h : n + 2 = n + 4 := h
                     omega
  TOz := fun h => by have h : n + 3 = n + 4 := h
                     omega
  TITO := fun h => by have h : n + 2 = n + 3 := h
                      omega
  TIi1 := fun h => by have h : n + 2 = n := h
                      omega
  mem1 := List.mem_cons_self
  zf1 := off2 (by omega) (by omega)
  Tf1 := off2 (by omega) (by omega)
  TIi2 := fun h => by have h : n + 2 = n + 1 := h
                      omega
  mem2 := List.mem_cons_self
  zf2 := off2 (by omega) (by omega)
  Tf2 := off2 (by omega) (by omega)
  sep1_2 := off2 (by omega) (by omega)
  sep2_1 := off2 (by omega) (by omega)
def tLZip (K : PySem.W.Frag) (ta : TA) : TE := fun σ H Q => ta σ H fun vs G => ∃ a b xs ys, vs = [.ref a, .ref b] ∧ (SqL K G a xs ∨ SqT K G a xs) ∧ (SqL K G b ys ∨ SqT K G b ys) ∧
  ∀ (G' : Hp) (p : Addr) (ts : List Addr), (∀ b o, G b = some o → G' b = some o) → G p = none → (∀ t ∈ ts, G t = none) → p ∉ ts → G' p = some (.lst (ts.map V.ref)) → ts.length = min xs.length ys.length →
    (∀ (j : Nat) (t : Addr) (q : V × V), ts[j]? = some t → (xs.zip ys)[j]? = some q → G' t = some (.tup [q.1, q.2])) → Q (.ref p) G'
theorem pe_lzip {e e2 : Expr} {ta : TA} {p p2 pos pos2 : Pos} (hc : X.calm = true) (hg : Gl X "list") (hm : X.mg "list" = none) (hg2 : Gl X "zip") (hm2 : X.mg "zip" = none) (ha : PA X [e, e2] ta)
    (hs : starEach [e, e2] X.env = (false, eval e X.env) :: starEach [e2] X.env) (hpl : (backTo pos2 (starEach [e2] X.env)).any (·.1) = false)
    (hs2 : starEach [.Call (.Name "zip" p2) [e, e2] [] pos2] X.env = (false, eval (.Call (.Name "zip" p2) [e, e2] [] pos2) X.env) :: starEach [] X.env := by rfl) :
    PE X (.Call (.Name "list" p) [.Call (.Name "zip" p2) [e, e2] [] pos2] [] pos) (tLZip X.K ta) := by
  refine ⟨fun pins s σ H Q I h => ?_⟩
  refine Call_ (ld_blt I hg hm boot_list (PyProof.Rows.callWith_type1 (args_cons (Call_ (ld_blt I hg2 hm2 PyProof.Rows.boot_zip (PyProof.Rows.callWith_type1 (thn (ha.run pos2 pins s σ H _ I h) fun us s1 ⟨vs, G, I1, r1, q1⟩ => ?_) hs hpl))) hs2) hs2 rfl))
  obtain ⟨a, b, xs, ys, ex, sx, sy, q⟩ := q1
  subst ex
  cases r1 with
  | cons ra rr =>
    cases rr with
    | cons rb rr =>
      cases rr
      cases ra
      cases rb
      obtain ⟨us, o1, HH1, St1, rx, zx, la, B1, h1, D1, k1⟩ := z_draw I1 sx
      obtain ⟨vs, o2, HH2, St2, ry, zy, lb, B2, h2, D2, k2⟩ := z_draw I1 sy
      refine zip_begins2 B1 B2 h1 h2 fun g hz hTI hTO g1 g2 gsz gk => ?_
      refine args_nil ?_
      have hh := I1.ok.hd hc
      have I2 : Inv X pins σ G { s1 with heap := g } := I1.kept (t' := s1.toks) gk
      show wpAny (model X.prog X.w) X.A (call (.type "list") [.ref (s1.heap.objs.size + 4)]) _ _ { s1 with heap := g }
      refine callType_codes (Q₁ := fun obj s₁ => obj = .ref g.objs.size ∧ s₁ = { s1 with heap := g.push { cls := .type "list", data := .seq #[] } }) PySem.F.called_list (PySem.F.typeCall_list_1 _) PySem.F.entry_list_init
        (code_list_new _ ⟨rfl, rfl⟩) fun obj s₁ h₁ => ?_
      obtain ⟨rfl, rfl⟩ := h₁
      have up : ∀ c o, g.get? c = some o → (g.push { cls := .type "list", data := .seq #[] }).get? c = some o := fun c o e => Heap.get?_push_of_some _ e
      have atL : (g.push { cls := .type "list", data := .seq #[] }).get? g.objs.size = some { cls := .type "list", data := .seq #[] } := Heap.get?_push_size _ rfl
      have lx := rx.length
      have ly := ry.length
      have sep := sep_of s1.heap.objs.size a b la lb
      have w0 : s1.heap.objs.size < g.objs.size := by rw [gsz]; exact Nat.lt_add_of_pos_right (by decide)
      have w1 : s1.heap.objs.size + 1 < g.objs.size := by rw [gsz]; exact Nat.add_lt_add_left (by decide) _
      have w2 : s1.heap.objs.size + 2 < g.objs.size := by rw [gsz]; exact Nat.add_lt_add_left (by decide) _
      have w3 : s1.heap.objs.size + 3 < g.objs.size := by rw [gsz]; exact Nat.add_lt_add_left (by decide) _
      have w4 : s1.heap.objs.size + 4 < g.objs.size := by rw [gsz]; exact Nat.add_lt_add_left (by decide) _
      have wa : a < g.objs.size := Nat.lt_trans la w0
      have wb : b < g.objs.size := Nat.lt_trans lb w0
      have mn : min us.length vs.length ≤ sizeLine := Nat.le_trans (Nat.min_le_left _ _) (by rw [← lx]; exact zx)
      refine ⟨⟨_, atL, rfl⟩, PySem.F.args_list_init_2 _ _, ?_⟩
      refine z_init (A := X.A.in1) g.objs.size g.objs.size sep (D1 _ _ hh (Nat.ne_of_lt la)) (D2 _ _ hh (Nat.ne_of_lt (Nat.lt_succ_of_lt lb))) (Nat.le_of_lt w4) (Nat.le_of_lt w3) (Nat.le_of_lt w0) (Nat.le_of_lt w1) (Nat.le_refl _) (off2 (Nat.ne_of_gt w0) (Nat.ne_of_gt wa)) (off2 (Nat.ne_of_gt w1) (Nat.ne_of_gt wb)) (Nat.ne_of_gt w4) (Nat.ne_of_gt w2) (Nat.ne_of_gt w3) (Nat.ne_of_gt w0) (Nat.ne_of_gt w1) mn
        atL (by rw [Heap.size_push]; exact Nat.lt_succ_self _) (up _ _ hz) ⟨_, _, up _ _ hTO⟩ (up _ _ hTI) (k1 _ _ (fun c o e => up _ _ (gk c o e)) (up _ _ g1)) (k2 _ _ (fun c o e => up _ _ (gk c o e)) (up _ _ g2)) fun g' tk acc c ts hk hS hk0 zg hacc => ?_
      have keep : ∀ b o, s1.heap.get? b = some o → g'.get? b = some o := fun b o e => by
        have hb : b < s1.heap.objs.size := Heap.lt_size e
        exact hk b o (Nat.ne_of_lt (Nat.lt_trans hb w0)) (Nat.ne_of_lt (Nat.lt_of_lt_of_le hb (Nat.le_add_right _ _))) (Nat.ne_of_lt (Nat.lt_of_lt_of_le hb (Nat.le_add_right _ _))) (Nat.ne_of_lt hb) (Nat.ne_of_lt (Nat.lt_of_lt_of_le hb (Nat.le_add_right _ _))) (up _ _ (gk b o e))
      obtain ⟨G', a1, a2, a3, a4, a5, a6, J⟩ := z_laid (tk := tk) I1 (L := g.objs.size) (Nat.le_of_lt w0) rx ry zx keep hS (by rw [hk0, lx, ly]) zg hacc
      exact ⟨rfl, .ref _, G', J, rfl, q G' _ ts a1 a2 a3 a4 a5 (by rw [hk0, lx, ly]) a6⟩
end
end GZ
namespace G
open PySem PySem.Spec PyProof.Rows L2
section
variable {K : PySem.W.Frag} {A : Addr → Prop} {ρ : List Addr} {h : EH} {H H' : Hp}
/-- more is there; all stays -/
theorem Stp.grow (g : ∀ b o, H b = some o → H' b = some o) : Stp A ρ h H ρ h H' :=
  ⟨List.prefix_refl _, fun a u h1 h2 => ⟨h1, g a u h2⟩, (Stp.refl (A := A) (h := h) (H := H)).new, fun x u e => ⟨u, g x u e⟩, fun x u _ e => g x u e⟩
theorem Rel.grow (r : Rel K A ρ h H) (g : ∀ b o, H b = some o → H' b = some o) : Rel K A ρ h H' := by
  refine ⟨r.len, r.inj, fun i ob a e1 e2 => ?_, fun a z => ?_, r.apart⟩
  · have z := r.obj i ob a e1 e2
    cases ob with
    | lst xs =>
      obtain ⟨us, k1, k2⟩ := z
      exact ⟨us, g _ _ k1, RPs.mono (fun b u k3 k4 => ⟨k3, g b u k4⟩) _ _ k2⟩
    | dct kvs =>
      obtain ⟨us, k1, k0, k2⟩ := z
      exact ⟨us, g _ _ k1, k0, RPs.mono (fun b u k3 k4 => ⟨k3, g b u k4⟩) _ _ k2⟩
    | ins _ _ => exact z
    | dead => trivial
  · obtain ⟨u, k⟩ := r.adm a z
    exact ⟨u, g _ _ k⟩
/-- .. and held apart: what was free -/
theorem Rel.growP (r : Rel K A ρ h H) {p : Addr} (np : H p = none) (g : ∀ b o, H b = some o → H' b = some o) (e : ∃ o, H' p = some o) : Rel K (fun b => A b ∨ b = p) ρ h H' := by
  have nl := r.fresh np
  have w : ∀ b u, ¬ LA A ρ h b → H b = some u → ¬ LA (fun b => A b ∨ b = p) ρ h b ∧ H' b = some u := fun b u k3 k4 => ⟨by
    rintro (k5 | k5 | k5)
    · exact k3 (.inl k5)
    · exact k3 (.inr k5)
    · exact ne_of_none k4 np k5, g b u k4⟩
  refine ⟨r.len, r.inj, fun i ob a e1 e2 => ?_, fun a z => ?_, fun a z => ?_⟩
  · have z := r.obj i ob a e1 e2
    cases ob with
    | lst xs =>
      obtain ⟨us, k1, k2⟩ := z
      exact ⟨us, g _ _ k1, RPs.mono w _ _ k2⟩
    | dct kvs =>
      obtain ⟨us, k1, k0, k2⟩ := z
      exact ⟨us, g _ _ k1, k0, RPs.mono w _ _ k2⟩
    | ins _ _ => exact z
    | dead => trivial
  · rcases z with z | z
    · obtain ⟨u, k⟩ := r.adm a z
      exact ⟨u, g _ _ k⟩
    · rw [z]; exact e
  · rcases z with z | z
    · exact r.apart a z
    · subst z; exact fun k => nl (.inl k)
theorem zip_rps {L : Addr → Prop} : ∀ {ps qs : List PyData} {us vs : List V} {ts : List Addr}, RPs K L H' ps us → RPs K L H' qs vs → ts.length = min us.length vs.length → (∀ t ∈ ts, ¬ L t) →
    (∀ (j : Nat) (t : Addr) (q : V × V), ts[j]? = some t → (us.zip vs)[j]? = some q → H' t = some (.tup [q.1, q.2])) → RPs K L H' (List.zipWith (fun x y => PyData.tuple [x, y]) ps qs) (ts.map V.ref)
  | _, _, _, _, [], .nil, _, _, _, _ => .nil
  | _, _, _, _, [], .cons _ _, .nil, _, _, _ => .nil
  | _, _, _, _, [], .cons _ _, .cons _ _, l, _, _ => by simp at l
  | _, _, _, _, t :: ts, .nil, _, l, _, _ => by simp at l
  | _, _, _, _, t :: ts, .cons _ _, .nil, l, _, _ => by simp at l
  | _, _, _, _, t :: ts, .cons r1 t1, .cons r2 t2, l, no, at' => by
    refine .cons (.tup (no t List.mem_cons_self) (.inl (at' 0 t _ rfl rfl)) (.cons r1 (.cons r2 .nil))) ?_
    refine zip_rps t1 t2 (by simp at l; omega) (fun y hy => no y (List.mem_cons_of_mem _ hy)) fun j y q e1 e2 => at' (j + 1) y q (by simpa using e1) (by simpa using e2)
end
section
variable {X : Cx} {pos pos2 p p2 : Pos} {a b : Expr} {da db : EEnv → EH → R EV}
theorem RV.sqAny {K : PySem.W.Frag} {A : Addr → Prop} {ρ : List Addr} {h : EH} {H : Hp} {v : EV} {x : V} {xs : List PyData} (rv : RV K ρ (LA A ρ h) H v x) (rel : Rel K A ρ h H) (e : seqOf h v = some xs) : ∃ q us, x = .ref q ∧ (SqL K H q us ∨ SqT K H q us) ∧ RPs K (LA A ρ h) H xs us := by
  unfold seqOf at e
  split at e
  · cases e
    obtain ⟨q, us, rfl, k1, k2, k3⟩ := RP.seqL rv
    exact ⟨q, us, rfl, .inl (.inl (.inl k2)), k3⟩
  · cases e
    obtain ⟨q, us, rfl, k1, k2⟩ := RP.seqT rv
    exact ⟨q, us, rfl, .inr k1, k2⟩
  · exact rv.elim
  · cases e
    obtain ⟨q, us, rfl, k1, k2⟩ := rv
    refine ⟨q, us, rfl, .inl ?_, k2⟩
    rcases k1 with k1 | k1
    · exact .inl k1.2
    · exact .inr k1
  · split at e
    · rename_i n xs' eh
      cases e
      obtain ⟨q, rfl, k⟩ := rv
      obtain ⟨us, k1, k2⟩ := rel.at eh k
      exact ⟨q, us, rfl, .inl (.inl (.inl k1)), k2⟩
    · cases e
  · cases e
theorem s_lzip (hc : X.calm = true) (hg : X.env.scope.names.lookup ("list" : Str) = some .globalImplicit) (hm : X.mg "list" = none) (hg2 : X.env.scope.names.lookup ("zip" : Str) = some .globalImplicit) (hm2 : X.mg "zip" = none) (ns : nst a = true) (ns2 : nst b = true) (ha : PE X a (tI X.K da)) (hb : PE X b (tI X.K db)) :
    PE X (.Call (.Name "list" p) [.Call (.Name "zip" p2) [a, b] [] pos2] [] pos) (tI X.K fun e h => (da e h).bind fun x h => (db e h).bind fun y h => lzipV x.settle y.settle h) := by
  refine PE.imp (GZ.pe_lzip hc (gl_of hg) hm (gl_of hg2) hm2 (s_args ns ha (s_args ns2 hb s_args0)) (by rw [star_cons ns]) (by rw [star_cons ns2]; rfl)) ?_
  rintro σ H Q ⟨A, ρ, h, e, rel, re, out⟩
  refine ⟨A, ρ, h, e, rel, re, ?_⟩
  revert out
  show Out X.K A ρ h H ((da e h).bind _) Q → OutA X.K A ρ h H ((da e h).bind _) _
  cases da e h with
  | exc _ _ => intro out; exact out
  | bad => intro out; exact out
  | ok v h1 =>
    show Out X.K A ρ h H ((db e h1).bind _) Q → OutA X.K A ρ h H (((db e h1).bind _).bind _) _
    cases db e h1 with
    | exc _ _ => intro out; exact out
    | bad => intro out; exact out
    | ok v2 h2 =>
      intro out ρ1 xs G s1 rel1 rvs
      have out : Out X.K A ρ h H (lzipV v.settle v2.settle h2) Q := out
      unfold lzipV at out
      split at out
      · rename_i xs0 ys0 ex ey
        obtain ⟨x1, x2, rfl, rv1, rv2⟩ : ∃ x1 x2, xs = [x1, x2] ∧ RV X.K ρ1 (LA A ρ1 h2) G v.settle x1 ∧ RV X.K ρ1 (LA A ρ1 h2) G v2.settle x2 := by
          match xs, rvs with
          | [x1, x2], q => exact ⟨x1, x2, rfl, q.1, q.2.1⟩
        obtain ⟨q1, us, rfl, k1, k2⟩ := RV.sqAny rv1 rel1 ex
        obtain ⟨q2, vs, rfl, k3, k4⟩ := RV.sqAny rv2 rel1 ey
        refine ⟨q1, q2, us, vs, rfl, k1, k3, fun G' p ts a1 a2 a3 a4 a5 a6 a7 => ?_⟩
        have s2 : Stp A ρ1 h2 G ρ1 h2 G' := Stp.grow a1
        have rps := zip_rps (L := fun b => LA A ρ1 h2 b ∨ b = p) (K := X.K) (H' := G') (RPs.mono (fun b u k5 k6 => ⟨fun z => z.elim k5 (ne_of_none k6 a2), a1 b u k6⟩) _ _ k2) (RPs.mono (fun b u k5 k6 => ⟨fun z => z.elim k5 (ne_of_none k6 a2), a1 b u k6⟩) _ _ k4) a6
          (fun t ht z => z.elim (rel1.fresh (a3 t ht)) fun z => a4 (z ▸ ht)) a7
        exact out ρ1 _ G' (s1.trans s2) ⟨p, _, rfl, s1.free a2, rel1.fresh a2, a5, rps, rel1.growP a2 a1 ⟨_, a5⟩, rel1.grow a1⟩
      · exact out.elim
end
end G

set_option Elab.async false
set_option linter.all false
set_option maxRecDepth 100000
/-! GFun: calls of defs, and a def by its body. -/
namespace G
open PySem PySem.Spec PyProof.Rows L2

/-- what a def promises, by what it does on data -/
def spI (K : PySem.W.Frag) (c : List EV → EH → R EV) : Sp := fun vs H Q _ => ∃ A ρ h evs, Rel K A ρ h H ∧ RVs K ρ (LA A ρ h) H evs vs ∧ Out K A ρ h H (c evs h) Q

section
variable {X : Cx} {pos p : Pos} {a : Expr} {es : List Expr} {x : Str} {f : Addr} {fd : FuncData} {ps : List Str} {n : Nat} {c : List EV → EH → R EV} {ds : EEnv → EH → R (List EV)}
theorem call_in : ∀ σ H Q, tI X.K (fun e h => (ds e h).bind fun vs h => c vs h) σ H Q → tCall (spI X.K c) [] E0 (tA X.K ds) σ H Q := by
  rintro σ H Q ⟨A, ρ, h, e, rel, re, out⟩
  refine ⟨A, ρ, h, e, rel, re, ?_⟩
  revert out
  show Out X.K A ρ h H ((ds e h).bind _) Q → _
  cases ds e h with
  | exc _ _ => exact id
  | bad => exact id
  | ok vs h1 =>
    intro out ρ1 xs H1 s1 rel1 rvs
    refine ⟨A, ρ1, h1, vs, rel1, by rw [List.append_nil]; exact rvs, Out.weakS s1 out⟩
theorem s_call (F : FnG X.prog X.w X.K X.mg X.base CX0 n f fd ps (spI X.K c)) (hr : RoomG n X.A) (hg : X.env.scope.names.lookup x = some .globalImplicit) (hm : X.mg x = some (.ref f)) (hk : PySem.W.keepIn X.K (.ref f) = true) (hb : Binds X.K fd ps [])
    (hd : (x == ("__debug__" : Str)) = false) (ns : nsts (a :: es) = true) (hs : PA X (a :: es) (tA X.K ds)) : PE X (.Call (.Name x p) (a :: es) [] pos) (tI X.K fun e h => (ds e h).bind fun vs h => c vs h) := by
  have ns' := ns
  simp only [nsts, Bool.and_eq_true] at ns'
  exact PE.imp (call_g F hr (gl_of hg) hm hk hb pass0 hs hd (star_cons ns'.1) (star_any ns'.2)) call_in
theorem s_call0 (F : FnG X.prog X.w X.K X.mg X.base CX0 n f fd ps (spI X.K c)) (hr : RoomG n X.A) (hg : X.env.scope.names.lookup x = some .globalImplicit) (hm : X.mg x = some (.ref f)) (hk : PySem.W.keepIn X.K (.ref f) = true) (hb : Binds X.K fd ps [])
    (hd : (x == ("__debug__" : Str)) = false) : PE X (.Call (.Name x p) [] [] pos) (tI X.K fun e h => (R.ok [] h : R (List EV)).bind fun vs h => c vs h) := by
  refine PE.imp (call_g0 F hr (gl_of hg) hm hk hb pass0 hd) ?_
  rintro σ H Q ⟨A, ρ, h, e, rel, re, out⟩
  exact ⟨A, ρ, h, [], rel, trivial, out⟩
end

/-! ### at a def's end its own mutable objects are left behind -/
section
variable {K : PySem.W.Frag} {A : Addr → Prop} {ρ ρ1 : List Addr} {h h1 : EH} {H H1 : Hp}
theorem pre_take (p : ρ <+: ρ1) (hl : ρ.length = h.length) : ρ1.take h.length = ρ := by
  obtain ⟨t, rfl⟩ := p
  rw [← hl]
  simp
theorem live_cut (s : Stp A ρ h H ρ1 h1 H1) (hl : ρ.length = h.length) {b : Addr} (l : Live ρ (h1.take h.length) b) : Live ρ1 h1 b := by
  obtain ⟨i, o, e1, e2, e3⟩ := l
  have hi : i < ρ.length := (List.getElem?_eq_some_iff.mp e1).1
  obtain ⟨t, rfl⟩ := s.pre
  rw [List.getElem?_take_of_lt (by omega)] at e2
  exact ⟨i, o, by rw [List.getElem?_append_left hi]; exact e1, e2, e3⟩
theorem la_cut (s : Stp A ρ h H ρ1 h1 H1) (hl : ρ.length = h.length) {b : Addr} (l : LA A ρ (h1.take h.length) b) : LA A ρ1 h1 b := l.elim (fun z => .inl (live_cut s hl z)) .inr
theorem rel_cut (s : Stp A ρ h H ρ1 h1 H1) (hl : ρ.length = h.length) (r : Rel K A ρ1 h1 H1) : Rel K A ρ (h1.take h.length) H1 ∧ Stp A ρ h H ρ (h1.take h.length) H1 := by
  have hl1 := r.len
  have hle := s.le
  have up : ∀ {i : Nat} {b : Addr}, ρ[i]? = some b → ρ1[i]? = some b := fun {i b} e => by
    obtain ⟨t, rfl⟩ := s.pre
    rw [List.getElem?_append_left (List.getElem?_eq_some_iff.mp e).1]
    exact e
  have up2 : ∀ {i : Nat} {o : EO}, (h1.take h.length)[i]? = some o → h1[i]? = some o := fun {i o} e => by
    have := (List.getElem?_eq_some_iff.mp e).1
    rw [List.length_take] at this
    rw [List.getElem?_take_of_lt (by omega)] at e
    exact e
  refine ⟨⟨by rw [List.length_take]; omega, fun i j b o o' e1 e2 k1 k2 => r.inj i j b o o' (up e1) (up e2) (up2 k1) (up2 k2), fun i o b e1 e2 => (r.obj i o b (up2 e1) (up e2)).weak fun c z => la_cut s hl z, r.adm, fun b z k => r.apart b z (live_cut s hl k)⟩,
    List.prefix_refl _, fun b o k e => ⟨fun z => (s.ext b o k e).1 (la_cut s hl z), (s.ext b o k e).2⟩, (Stp.refl (A := A) (h := h) (H := H)).new, s.dom, s.keep⟩
theorem fin_ret {v w : EV} {x : V} {h2 : EH} (s : Stp A ρ h H ρ1 h1 H1) (hl : ρ.length = h.length) (rr : RR K A H ρ1 h1 H1 v x) (e : retV h.length v h1 = .ok w h2) : Stp A ρ h H ρ h2 H1 ∧ RR K A H ρ h2 H1 w x := by
  obtain ⟨rel2, s2⟩ := rel_cut s hl rr.rel
  unfold retV at e
  cases v with
  | pv p =>
    simp at e
    obtain ⟨rfl, rfl⟩ := e
    exact ⟨s2, RP.weak rr.1 fun b z => la_cut s hl z, rel2⟩
  | tl xs =>
    simp at e
    obtain ⟨rfl, rfl⟩ := e
    obtain ⟨a, vs, rfl, k1, k2, k3, k4, k5, k6⟩ := rr
    refine ⟨s2, a, vs, rfl, k1, fun z => k2 (la_cut s hl z), k3, k4.weak fun b z => z.elim (fun z => .inl (la_cut s hl z)) .inr, ?_, rel2⟩
    refine ⟨rel2.len, rel2.inj, fun i o b e1 e2 => ?_, k5.adm, fun b z k => k5.apart b z (live_cut s hl k)⟩
    have hi : i < h.length := by
      have := (List.getElem?_eq_some_iff.mp e1).1
      rw [List.length_take] at this
      omega
    rw [List.getElem?_take_of_lt hi] at e1
    have e2' : ρ1[i]? = some b := by
      obtain ⟨t, ht⟩ := s.pre
      rw [← ht, List.getElem?_append_left (List.getElem?_eq_some_iff.mp e2).1]
      exact e2
    exact (k5.obj i o b e1 e2').weak fun c z => z.elim (fun z => .inl (live_cut s hl z)) .inr
  | td _ => exact rr.elim
  | fl _ => simp at e
  | fn _ => simp at e
  | ref m =>
    obtain ⟨⟨a, rfl, ha⟩, rel⟩ := rr
    simp only at e
    split at e
    · rename_i hm
      simp at e
      obtain ⟨rfl, rfl⟩ := e
      refine ⟨s2, ⟨a, rfl, ?_⟩, rel2⟩
      obtain ⟨t, ht⟩ := s.pre
      rw [← ht, List.getElem?_append_left (by omega)] at ha
      exact ha
    · rename_i hm
      split at e
      · rename_i xs em
        simp at e
        obtain ⟨rfl, rfl⟩ := e
        have lv : Live ρ1 h1 a := ⟨m, _, ha, em, by simp⟩
        obtain ⟨vs, k1, k2⟩ := rel.at em ha
        have nl : ¬ Live ρ (h1.take h.length) a := by
          rintro ⟨i, o, e1, e2, e3⟩
          have hi : i < h.length := by
            have := (List.getElem?_eq_some_iff.mp e2).1
            rw [List.length_take] at this
            omega
          rw [List.getElem?_take_of_lt hi] at e2
          have e1' : ρ1[i]? = some a := by
            obtain ⟨t, ht⟩ := s.pre
            rw [← ht, List.getElem?_append_left (List.getElem?_eq_some_iff.mp e1).1]
            exact e1
          have := rel.inj i m a o _ e1' ha e2 em e3 (by simp)
          omega
        have la : ∀ b, LA A ρ (h1.take h.length) b ∨ b = a → LA A ρ1 h1 b := fun b z => z.elim (fun z => la_cut s hl z) fun z => .inl (z ▸ lv)
        have la' : ∀ b, LA (fun b => A b ∨ b = a) ρ (h1.take h.length) b → LA A ρ1 h1 b := fun b z => z.elim (fun z => .inl (live_cut s hl z)) fun z => z.elim .inr fun z => .inl (z ▸ lv)
        refine ⟨s2, a, vs, rfl, s.new m a (by omega) ha, fun z => z.elim nl fun z => rel.apart a z lv, k1, k2.weak la, ⟨rel2.len, rel2.inj, fun i o b e1 e2 => ?_, fun b z => ?_, fun b z k => ?_⟩, rel2⟩
        · have hi : i < h.length := by
            have := (List.getElem?_eq_some_iff.mp e1).1
            rw [List.length_take] at this
            omega
          rw [List.getElem?_take_of_lt hi] at e1
          have e2' : ρ1[i]? = some b := by
            obtain ⟨t, ht⟩ := s.pre
            rw [← ht, List.getElem?_append_left (List.getElem?_eq_some_iff.mp e2).1]
            exact e2
          exact (rel.obj i o b e1 e2').weak la'
        · rcases z with z | rfl
          · exact rel.adm b z
          · exact ⟨_, k1⟩
        · rcases z with z | rfl
          · exact rel2.apart b z k
          · exact nl k
      · cases e
end

section
variable {P : Program} {w : World} {K : PySem.W.Frag} {mg : Str → Option Value} {base : Heap}
theorem start_rel {A : Addr → Prop} {ρ : List Addr} {L : Addr → Prop} {H : Hp} {d : FD} {N : List Str} (hn : d.ns = N.length) : ∀ {evs : List EV} {vs : List V}, RVs K ρ L H evs vs → RE K ρ L H (startE d evs) (L2.start N vs) := by
  intro evs vs r
  have hl := r.length
  refine ⟨by simp [startE, L2.start, hn, hl], fun i v e => ?_⟩
  have get : ∀ {evs : List EV} {vs : List V} {i : Nat} {v : EV}, RVs K ρ L H evs vs → evs[i]? = some v → ∃ x, vs[i]? = some x ∧ RV K ρ L H v x := by
    intro evs
    induction evs with
    | nil => intro vs i v _ e; simp at e
    | cons u us ih =>
      intro vs i v r e
      cases vs with
      | nil => exact r.elim
      | cons y ys =>
        cases i with
        | zero => simp at e; subst e; exact ⟨y, rfl, r.1⟩
        | succ i => obtain ⟨x, k1, k2⟩ := ih r.2 (by simpa using e); exact ⟨x, by simpa using k1, k2⟩
  unfold startE at e
  unfold L2.start
  by_cases c : i < evs.length
  · rw [List.getElem?_append_left (by simpa using c), List.getElem?_map] at e
    cases z : evs[i]? with
    | none => rw [z] at e; cases e
    | some u =>
      rw [z] at e
      cases e
      obtain ⟨x, k1, k2⟩ := get r z
      refine ⟨x, ?_, k2⟩
      rw [List.getElem?_append_left (by simp; omega), List.getElem?_map, k1]
      rfl
  · rw [List.getElem?_append_right (by simpa using c), List.getElem?_replicate] at e
    split at e <;> cases e
/-- a def by its body -/
theorem fn_step {x qual : Str} {st : Stmt} {f : Addr} {fd : FuncData} {N ps : List Str} {n i : Nat} {T : Tab} {F : List FD} {d : FD} (hF : F[i]? = some d) (Fn : Fun K x qual st f fd) (S : FnScope N ps (defScope st)) (hp : d.np = ps.length) (hn : d.ns = N.length)
    (hb : ∀ (cdv : Value) (A : Around) (outer : List Env) (s : Shared) (H : Hp), RoomG n (A.deeper (envOfC qual (defScope st) s.heap.objs.size f cdv)) →
      PSs (cxOf CX0 P w K mg base N qual (defScope st) f cdv A outer s H E0).nox (defBody st) (tS K (denSs T (callD T F n) d.body))) :
    FnG P w K mg base CX0 (n + 1) f fd ps (spI K (callD T F (n + 1) i)) := by
  refine fun_g Fn S (fun vs H Q E h => ?_) (fun cdv A outer s H vs Q E hr h => ?_)
  · obtain ⟨A, ρ, h, evs, _, rvs, out⟩ := h
    rw [← rvs.length]
    unfold callD at out
    rw [hF] at out
    have out : Out K A ρ h H (if evs.length = d.np then finV h.length (denSs T (callD T F n) d.body (startE d evs) h) else .bad) Q := out
    split at out
    · rename_i e; rw [e, hp]
    · exact out.elim
  · obtain ⟨B, ρ, h, evs, rel, rvs, out⟩ := h
    have hb' := hb cdv A outer s H hr
    have hb2 : PSs (cxOf CX0 P w K mg base N qual (defScope st) f cdv A outer s H E).nox (defBody st) (tS K (denSs T (callD T F n) d.body)) := hb'
    refine ⟨_, hb2.nox, B, ρ, h, startE d evs, rel, start_rel (A := B) hn rvs, ?_⟩
    unfold callD at out
    rw [hF] at out
    have out : Out K B ρ h H (if evs.length = d.np then finV h.length (denSs T (callD T F n) d.body (startE d evs) h) else .bad) Q := out
    split at out
    · revert out
      cases denSs T (callD T F n) d.body (startE d evs) h with
      | nx e' h' =>
        intro out ρ1 σ1 H1 s1 rel1 _
        obtain ⟨rel2, s2⟩ := rel_cut s1 rel.len rel1
        exact out ρ .non H1 s2 ⟨.non, rel2⟩
      | ret v h' =>
        intro out ρ1 x1 H1 s1 r1
        have out : Out K B ρ h H (retV h.length v h') Q := out
        cases er : retV h.length v h' with
        | ok u h2 =>
          rw [er] at out
          obtain ⟨s2, r2⟩ := fin_ret s1 rel.len r1 er
          exact out ρ x1 H1 s2 r2
        | exc _ _ => rw [er] at out; exact out.elim
        | bad => rw [er] at out; exact out.elim
      | brk _ _ => intro out; exact out.elim
      | ct _ _ => intro out; exact out.elim
      | exc _ _ _ => intro out; exact out.elim
      | bad => intro out; exact out.elim
    · exact out.elim
theorem fn_zero {f : Addr} {fd : FuncData} {ps : List Str} {i : Nat} {T : Tab} {F : List FD} : FnG P w K mg base CX0 0 f fd ps (spI K (callD T F 0 i)) :=
  ⟨fun vs H Q E h => by obtain ⟨_, _, _, _, _, _, out⟩ := h; exact out.elim, fun _ _ _ _ _ _ _ _ _ _ _ _ _ h => by obtain ⟨_, _, _, _, _, _, out⟩ := h; exact out.elim⟩
end
end G

set_option Elab.async false
set_option linter.all false
set_option maxRecDepth 100000
/-! GChk: a checker: that a term of GCore tells what a piece of the text does; the checker is right. -/
namespace G
open PySem PySem.Spec PyProof.Rows L2

structure CG where
  fns : List Str
  consts : List Str
  dicts : List Str := []

def visB (sc : Scope) (x : Str) : Bool :=
  match sc.names.lookup x with
  | some .local => true
  | some .cell => true
  | some .free => true
  | _ => false
def glB (sc : Scope) (x : Str) : Bool :=
  match sc.names.lookup x with
  | some .globalImplicit => true
  | _ => false
def stB (sc : Scope) (x : Str) : Bool :=
  match sc.names.lookup x with
  | some .local => true
  | some .cell => true
  | _ => false
def okn (x : Str) : Bool := !(x == ("__debug__" : Str)) && !(x == ("__classdict__" : Str))
def litB : PyData → Const → Bool
  | .none, .none => true
  | .bool b, .bool c => b == c
  | .int i, .int j => decide (i = j)
  | .str x, .str y => decide (x = y)
  | _, _ => false
def opB : BOp → Operator → Bool
  | .add, .Add => true | .sub, .Sub => true | .mul, .Mult => true | .fdiv, .FloorDiv => true | .mod, .Mod => true | .pow, .Pow => true
  | _, _ => false
def copB : COp → CmpOp → Bool
  | .eq, .Eq => true | .ne, .NotEq => true | .lt, .Lt => true | .le, .LtE => true | .gt, .Gt => true | .ge, .GtE => true | .isin, .In => true | .notin, .NotIn => true
  | _, _ => false
def isSet : Expr → Bool
  | .Set _ _ _ => true
  | _ => false
def isSlice : Expr → Bool
  | .Slice _ _ _ _ => true
  | _ => false
def isCall0 : Expr → Bool
  | .Call _ [] _ _ => true
  | _ => false
def isComp : Expr → Bool
  | .ListComp _ _ _ _ => true
  | .SetComp _ _ _ _ => true
  | .DictComp _ _ _ _ _ => true
  | _ => false
def isTup : Expr → Bool
  | .Tuple _ _ _ => true
  | _ => false
def nonnil {α : Type} : List α → Bool
  | [] => false
  | _ => true
def ownS (N : List Str) (own : List Nat) : List (Str × Nat) := own.map fun i => (N.getD i Str.empty, i)
theorem ownS_snd (N : List Str) (own : List Nat) : (ownS N own).map (·.2) = own := by
  unfold ownS
  rw [List.map_map]
  exact List.map_id own

def isCall : Expr → Bool
  | .Call _ _ _ _ => true
  | _ => false
mutual
def tstB : IE → Bool
  | .ife _ _ _ => false
  | .own _ => false
  | .not a => tstB a
  | .and es => tstBs es
  | .or es => tstBs es
  | _ => true
def tstBs : IEs → Bool
  | .nil => true
  | .cons a r => tstB a && tstBs r
end
mutual
def chkT (N : List Str) : IT → Scope → Expr → Bool
  | .nm i, sc, e => match e with
    | .Name x _ => decide (N[i]? = some x) && stB sc x
    | _ => false
  | .tp ts, sc, e => match e with
    | .Tuple es _ _ => chkTs N ts sc es
    | _ => false
def chkTs (N : List Str) : ITs → Scope → List Expr → Bool
  | .nil, _, es => match es with
    | [] => true
    | _ => false
  | .cons t r, sc, es => match es with
    | e :: es => nst e && chkT N t sc e && chkTs N r sc es
    | [] => false
end
def tyB : List Ty → Scope → Expr → Bool
  | [t], sc, .Name y _ => decide (y = t.py) && glB sc y
  | _, _, _ => false
section
variable (cg : CG) (N : List Str)
mutual
def chkE : IE → Scope → Expr → Bool
  | .var i, sc, e => match e with
    | .Name x _ => decide (N[i]? = some x) && visB sc x && okn x
    | _ => false
  | .lit p, _, e => match e with
    | .Constant c _ _ => litB p c
    | _ => false
  | .glob k, sc, e => match e with
    | .Name x _ => decide (cg.consts[k]? = some x) && glB sc x && okn x
    | _ => false
  | .bin o a b, sc, e => match e with
    | .BinOp l op r _ => opB o op && chkE a sc l && chkE b sc r
    | _ => false
  | .neg a, sc, e => match e with
    | .UnaryOp .USub x _ => chkE a sc x
    | _ => false
  | .not a, sc, e => match e with
    | .UnaryOp .Not x _ => chkE a sc x
    | _ => false
  | .cmp o a b, sc, e => match e with
    | .Compare l [op] [r] _ => copB o op && !isSet r && chkE a sc l && chkE b sc r
    | _ => false
  | .isN a, sc, e => match e with
    | .Compare l [.Is] [.Constant .none _ _] _ => chkE a sc l
    | _ => false
  | .notN a, sc, e => match e with
    | .Compare l [.IsNot] [.Constant .none _ _] _ => chkE a sc l
    | _ => false
  | .chain o p a b c, sc, e => match e with
    | .Compare l [op, op'] [m, r] _ => copB o op && copB p op' && !isSet r && chkE a sc l && chkE b sc m && chkE c sc r
    | _ => false
  | .and es, sc, e => match e with
    | .BoolOp .And vs _ => chkEs es sc vs
    | _ => false
  | .or es, sc, e => match e with
    | .BoolOp .Or vs _ => chkEs es sc vs
    | _ => false
  | .ife c a b, sc, e => match e with
    | .IfExp t x y _ => tstB c && chkE c sc t && chkE a sc x && chkE b sc y
    | _ => false
  | .tup es, sc, e => match e with
    | .Tuple vs _ _ => chkEs es sc vs
    | _ => false
  | .lst es, sc, e => match e with
    | .List vs _ => chkEs es sc vs
    | _ => false
  | .ix a b, sc, e => match e with
    | .Subscript o i _ => !isSlice i && chkE a sc o && chkE b sc i
    | _ => false
  | .sl a lo hi, sc, e => match e with
    | .Subscript o (.Slice l u none _) _ => chkE a sc o && chkO lo sc l && chkO hi sc u
    | _ => false
  | .rev a, sc, e => match e with
    | .Subscript o (.Slice none none (some (.UnaryOp .USub (.Constant (.int 1) _ _) _)) _) _ => chkE a sc o
    | _ => false
  | .dlit ks a, sc, e => match e with
    | .Subscript (.Dict es vs _) i _ => !isSlice i && dlitB ks es vs && nonnil ks && decide (ks.length ≤ 15) && chkE a sc i
    | _ => false
  | .dnew ks es, sc, e => match e with
    | .Dict keys vals _ => nonnil ks && decide (ks.length ≤ 15) && chkDs es sc ks keys vals
    | _ => false
  | .dget a k, sc, e => match e with
    | .Subscript o (.Constant (.str x) _ _) _ => decide (x = k) && chkE a sc o
    | _ => false
  | .gdget d a, sc, e => match e with
    | .Subscript (.Name x _) i _ => decide (cg.dicts[d]? = some x) && glB sc x && okn x && !isSlice i && chkE a sc i
    | _ => false
  | .gdin d a, sc, e => match e with
    | .Compare l [.In] [.Name x _] _ => decide (cg.dicts[d]? = some x) && glB sc x && okn x && chkE a sc l
    | _ => false
  | .gget d a b, sc, e => match e with
    | .Call (.Attribute (.Name x _) at_ apos) [v, w] [] pos => decide (cg.dicts[d]? = some x) && glB sc x && okn x && decide (at_ = "get") && (apos.endLine == pos.line) && nst v && nst w && chkE a sc v && chkE b sc w
    | _ => false
  | .repr a, sc, e => match e with
    | .Call (.Name x _) [v] [] _ => decide (x = "repr") && glB sc x && nst v && chkE a sc v
    | _ => false
  | .maxd a b, sc, e => match e with
    | .Call (.Name x _) [v] [⟨some y, w, _⟩] _ => decide (x = "max") && decide (y = "default") && glB sc x && nst v && chkE a sc v && chkE b sc w
    | _ => false
  | .every k a, sc, e => match e with
    | .Subscript o (.Slice lo none (some (.Constant (.int i) _ _)) _) _ => decide (i = 2) && loB k lo && chkE a sc o
    | _ => false
  | .lzip a b, sc, e => match e with
    | .Call (.Name x _) [.Call (.Name y _) [v, w] [] _] [] _ => decide (x = "list") && decide (y = "zip") && glB sc x && glB sc y && nst v && nst w && chkE a sc v && chkE b sc w
    | _ => false
  | .own a, sc, e => !isComp e && chkE a sc e
  | .call f es, sc, e => match e with
    | .Call (.Name x _) vs [] _ => decide (cg.fns[f]? = some x) && glB sc x && okn x && chkEs es sc vs
    | _ => false
  | .bi b es, sc, e => match e with
    | .Call (.Name x _) vs [] _ => decide (x = b.name) && glB sc x && nonnil vs && chkEs es sc vs
    | _ => false
  | .bm m o es, sc, e => match e with
    | .Call (.Attribute oe at_ apos) vs [] pos => decide (at_ = m.name) && !isCall0 oe && (apos.endLine == pos.line) && nonnil vs && decide (vs.length < 20) && chkE o sc oe && chkEs es sc vs
    | _ => false
  | .bm0 m o, sc, e => match e with
    | .Call (.Attribute oe at_ apos) [] [] pos => decide (at_ = m.name) && !isCall0 oe && (apos.endLine == pos.line) && chkE o sc oe
    | _ => false
  | .isi a ts, sc, e => match e with
    | .Call (.Name x _) [v, t] [] _ => decide (x = "isinstance") && glB sc x && nst v && chkE a sc v && tyB ts sc t
    | _ => false
  | .comp elt tg it c own, sc, e => match e with
    | .ListComp el [⟨t, iter, ifs, asy⟩] scope _ => decide (asy = 0) && blkC N sc scope (ownS N own) && !isSet iter && chkW it sc t iter && chkT N tg scope t && tg.names.all (fun i => decide (i ∈ own)) && chkC c (relS scope sc) ifs && chkE elt (relS scope sc) el
    | _ => false
def chkEs : IEs → Scope → List Expr → Bool
  | .nil, _, es => match es with
    | [] => true
    | _ => false
  | .cons a r, sc, es => match es with
    | e :: es => nst e && chkE a sc e && chkEs r sc es
    | [] => false
def chkDs : IEs → Scope → List Str → List (Option Expr) → List Expr → Bool
  | .nil, _, ks, keys, vals => match ks, keys, vals with
    | [], [], [] => true
    | _, _, _ => false
  | .cons a r, sc, ks, keys, vals => match ks, keys, vals with
    | k :: ks, some (.Constant (.str x) _ _) :: keys, v :: vals => decide (x = k) && chkE a sc v && chkDs r sc ks keys vals
    | _, _, _ => false
def chkO : IO → Scope → Option Expr → Bool
  | .no, _, o => match o with
    | none => true
    | _ => false
  | .yes a, sc, o => match o with
    | some e => chkE a sc e
    | none => false
def chkC : IO → Scope → List Expr → Bool
  | .no, _, es => match es with
    | [] => true
    | _ => false
  | .yes a, sc, es => match es with
    | [e] => tstB a && chkE a sc e
    | _ => false
def chkW : IW → Scope → Expr → Expr → Bool
  | .seq a, sc, _, e => chkE a sc e
  | .range1 a, sc, _, e => match e with
    | .Call (.Name x _) [v] [] _ => decide (x = "range") && glB sc x && nst v && chkE a sc v
    | _ => false
  | .range2 a b, sc, _, e => match e with
    | .Call (.Name x _) [v, w] [] _ => decide (x = "range") && glB sc x && nst v && nst w && chkE a sc v && chkE b sc w
    | _ => false
  | .zip a b, sc, t, e => match e with
    | .Call (.Name x _) [v, w] [] _ => isTup t && decide (x = "zip") && glB sc x && nst v && nst w && chkE a sc v && chkE b sc w
    | _ => false
  | .enum a, sc, t, e => match e with
    | .Call (.Name x _) [v] [] _ => isTup t && decide (x = "enumerate") && glB sc x && nst v && chkE a sc v
    | _ => false
end
end

def bltNames : List Str := ["len", "int", "str", "list", "tuple", "all", "max", "min", "sum", "isinstance", "range", "zip", "enumerate", "bool", "repr"]
/-- what the top has left -/
structure GOk (P : Program) (w : World) (K : PySem.W.Frag) (mg : Str → Option Value) (base : Heap) (T : Tab) (F : List FD) (cg : CG) (n : Nat) : Prop where
  fns : ∀ (i : Nat) (x : Str), cg.fns[i]? = some x → ∃ f fd ps, mg x = some (.ref f) ∧ PySem.W.keepIn K (.ref f) = true ∧ Binds K fd ps [] ∧ FnG P w K mg base CX0 n f fd ps (spI K (callD T F n i))
  consts : ∀ (i : Nat) (x : Str) (p : PyData), cg.consts[i]? = some x → T.consts[i]? = some p → ∃ u v, mg x = some u ∧ RelV v u ∧ ∀ L H, RP K L H p v
  blt : ∀ x ∈ bltNames, mg x = none
  dcts : ∀ (i : Nat) (x : Str), cg.dicts[i]? = some x → ∃ (a : Addr) (kvs : List (Str × PyData)), mg x = some (.ref a) ∧ T.dicts[i]? = some kvs ∧ KD K w a kvs
theorem bi_mem (b : BI) : b.name ∈ bltNames := by cases b <;> decide +kernel
theorem ty_mem (t : Ty) : t.py ∈ bltNames := by cases t <;> decide +kernel
structure XOk (T : Tab) (F : List FD) (cg : CG) (N : List Str) (n : Nat) (X : Cx) (sc : Scope) : Prop where
  eN : X.N = N
  nd : N.Nodup
  sc : X.env.scope = sc
  calm : X.calm = true
  xe : X.xe = fun _ _ => False
  room : RoomG n X.A
  g : GOk X.prog X.w X.K X.mg X.base T F cg n

theorem visB_ok {sc : Scope} {x : Str} (h : visB sc x = true) : Vis sc x := by
  unfold visB at h
  unfold Vis
  cases z : sc.names.lookup x with
  | none => rw [z] at h; cases h
  | some k => rw [z] at h; cases k <;> simp at h ⊢
theorem glB_ok {sc : Scope} {x : Str} (h : glB sc x = true) : sc.names.lookup x = some .globalImplicit := by
  unfold glB at h
  split at h
  · assumption
  · cases h
theorem okn1 {x : Str} (h : okn x = true) : (x == ("__debug__" : Str)) = false := by
  unfold okn at h
  simp only [Bool.and_eq_true, Bool.not_eq_true'] at h
  exact h.1
theorem okn2 {x : Str} (h : okn x = true) : (x == ("__classdict__" : Str)) = false := by
  unfold okn at h
  simp only [Bool.and_eq_true, Bool.not_eq_true'] at h
  exact h.2
theorem opB_ok {o : BOp} {op : Operator} (h : opB o op = true) : op = o.py := by
  cases o <;> cases op <;> first | rfl | (simp [opB] at h)
theorem copB_ok {o : COp} {op : CmpOp} (h : copB o op = true) : op = o.py := by
  cases o <;> cases op <;> first | rfl | (simp [copB] at h)
theorem behind_ok {op : CmpOp} {e : Expr} (h : isSet e = false) : behindInMarks op e = false := by
  cases e <;> first | rfl | (simp [isSet] at h)
theorem plain_ok {e : Expr} (h : isSlice e = false) : PlainIx e := by
  intro o i
  cases e <;> first | rfl | (simp [isSlice] at h)
theorem base_ok {o : Expr} {name : Str} {env : Env} (h : isCall0 o = false) : attributeBase o name env (eval o env) = eval o env := by
  cases o
  case Call f as kws pos =>
    cases as with
    | nil => simp [isCall0] at h
    | cons a as => cases f <;> rfl
  all_goals rfl
theorem folded_ok {e : Expr} {env : Env} (h : isSet e = false) : ∀ x, foldedSetIterable e env x = pure x := by
  intro x
  cases e <;> first | rfl | (simp [isSet] at h)

theorem lit_ok {X : Cx} {p : PyData} {c : Const} {k : Nat} {pos : Pos} (h : litB p c = true) : PE X (.Constant c k pos) (tI X.K fun _ h => .ok (.pv p) h) := by
  cases p <;> cases c <;> simp [litB] at h
  · exact s_const pe_non fun _ _ => .non
  · subst h; exact s_const pe_bl fun _ _ => .bl _
  · subst h; exact s_const pe_int fun _ _ => .int _
  · subst h; exact s_const pe_str fun _ _ => .str _

section
variable {T : Tab} {F : List FD} {cg : CG} {N : List Str} {n : Nat}
theorem XOk.hu {X : Cx} {sc : Scope} (x : XOk T F cg N n X sc) : X.A.units + 64 < cLine := x.room.rm.units
theorem XOk.blk {X : Cx} {sc : Scope} (x : XOk T F cg N n X sc) (s : Shared) (H : Hp) (scope : Scope) (C : Addr) (cl : List (Str × Addr)) (fp : List Addr) : XOk T F cg N n (X.blk s H scope (compEnvC scope cl C X.env) fp) (relS scope sc) :=
  ⟨x.eN, x.nd, by rw [← x.sc]; rfl, x.calm, rfl, x.room, x.g⟩


mutual
theorem chkT_ok {X : Cx} {rs : Scope} (hN : X.N = N) (nd : N.Nodup) (hc : X.calm = true) (hst : ∀ x, stB rs x = true → Loc X.env.scope x ∧ (X.fn x = true ∨ X.env.scope.names.lookup x = some .local)) : ∀ (t : IT) (e : Expr), chkT N t rs e = true → PG X e (gT X.K t)
  | .nm i, e, h => by
    unfold chkT at h
    split at h
    · simp only [Bool.and_eq_true, decide_eq_true_eq] at h
      obtain ⟨k1, k2⟩ := hst _ h.2
      exact g_name (hN ▸ nd) (hN ▸ h.1) k1 k2
    · cases h
  | .tp ts, e, h => by
    unfold chkT at h
    split at h
    · obtain ⟨k1, k2, k3⟩ := chkTs_ok hN nd hc hst ts _ h
      exact g_tup hc k1 k2 k3
    · cases h
theorem chkTs_ok {X : Cx} {rs : Scope} (hN : X.N = N) (nd : N.Nodup) (hc : X.calm = true) (hst : ∀ x, stB rs x = true → Loc X.env.scope x ∧ (X.fn x = true ∨ X.env.scope.names.lookup x = some .local)) : ∀ (ts : ITs) (es : List Expr), chkTs N ts rs es = true → nsts es = true ∧ es.length = ts.len ∧ PGs X es (gTs X.K ts)
  | .nil, es, h => by
    unfold chkTs at h
    split at h
    · exact ⟨rfl, rfl, g_nil⟩
    · cases h
  | .cons t r, es, h => by
    unfold chkTs at h
    split at h
    · simp only [Bool.and_eq_true] at h
      obtain ⟨k1, k2, k3⟩ := chkTs_ok hN nd hc hst r _ h.2
      exact ⟨by simp [nsts, h.1.1, k1], by simp [ITs.len, k2], g_cons h.1.1 (chkT_ok hN nd hc hst t _ h.1.2) k3⟩
    · cases h
end
/-- a comprehension's block: its own names may be stored -/
theorem blk_st {X : Cx} {s : Shared} {H : Hp} {scope : Scope} {C : Addr} {cl : List (Str × Addr)} {fp : List Addr} :
    ∀ x, stB scope x = true → Loc (X.blk s H scope (compEnvC scope cl C X.env) fp).env.scope x ∧ ((X.blk s H scope (compEnvC scope cl C X.env) fp).fn x = true ∨ (X.blk s H scope (compEnvC scope cl C X.env) fp).env.scope.names.lookup x = some .local) := by
  intro x h
  unfold stB at h
  have keep : ∀ {k : NameKind}, k ≠ .free → scope.names.lookup x = some k → (relS scope X.env.scope).names.lookup x = some k := fun hk e => lookup_relS_keep hk e
  split at h
  · rename_i e
    have e' := keep (by decide) e
    exact ⟨.inl e', .inr e'⟩
  · rename_i e
    have e' := keep (by decide) e
    exact ⟨.inr e', .inl (by show (scope.names.lookup x == some .cell) = true; rw [e]; rfl)⟩
  · cases h
theorem boolAnd {es : IEs} {a b : IE} {call : Nat → List EV → EH → R EV} {e : EEnv} {h : EH} : (denAnd T call (.cons a (.cons b es)) e h).bind (fun x h => asB x h) =
    ((den T call a e h).bind fun x h => asB x h).bind fun t h => if t = true then (denAnd T call (.cons b es) e h).bind (fun x h => asB x h) else .ok false h := by
  simp only [denAnd, R.bind_assoc]
  congr 1
  funext x h
  congr 1
  funext t h
  cases t <;> rfl
theorem boolOr {es : IEs} {a b : IE} {call : Nat → List EV → EH → R EV} {e : EEnv} {h : EH} : (denOr T call (.cons a (.cons b es)) e h).bind (fun x h => asB x h) =
    ((den T call a e h).bind fun x h => asB x h).bind fun t h => if t = true then .ok true h else (denOr T call (.cons b es) e h).bind (fun x h => asB x h) := by
  simp only [denOr, R.bind_assoc]
  congr 1
  funext x h
  congr 1
  funext t h
  cases t <;> rfl
theorem boolNot {a : IE} {call : Nat → List EV → EH → R EV} {e : EEnv} {h : EH} : (den T call (.not a) e h).bind (fun x h => asB x h) = ((den T call a e h).bind fun x h => asB x h).bind fun t h => .ok (!t) h := by
  simp only [den, R.bind_assoc]
  congr 1
  funext x h
  unfold notV asB
  split <;> rfl

theorem both {X : Cx} {e : Expr} {d : EEnv → EH → R EV} {b : Bool} (h : PE X e (tI X.K d)) (he : ∀ whole, isTrue e X.env whole = (do let v ← whole; standAt e.pos; holding [v] (truthy v))) :
    PE X e (tI X.K d) ∧ (b = true → PT X e (tT X.K fun e h => (d e h).bind fun x h => asB x h)) := ⟨h, fun _ => t_val h he⟩
mutual
theorem chkE_ok : ∀ (ie : IE) (X : Cx) (sc : Scope) (e : Expr), XOk T F cg N n X sc → chkE cg N ie sc e = true →
    PE X e (tI X.K (den T (callD T F n) ie)) ∧ (tstB ie = true → PT X e (tT X.K fun e h => (den T (callD T F n) ie e h).bind fun x h => asB x h))
  | .var i, X, sc, e, xo, h => by
    unfold chkE at h
    split at h
    · rename_i x pos
      simp only [Bool.and_eq_true, decide_eq_true_eq] at h
      exact both (s_var (X := X) (pos := pos) (xo.eN ▸ h.1.1) (xo.sc ▸ visB_ok h.1.2) (okn1 h.2) (okn2 h.2)) fun _ => rfl
    · cases h
  | .lit p, X, sc, e, xo, h => by
    unfold chkE at h
    split at h
    · exact ⟨lit_ok h, fun _ => t_val (lit_ok h) fun _ => rfl⟩
    · cases h
  | .glob k, X, sc, e, xo, h => by
    unfold chkE at h
    split at h
    · simp only [Bool.and_eq_true, decide_eq_true_eq] at h
      have key : ∀ {pos : Pos}, PE X (.Name _ pos) (tI X.K (den T (callD T F n) (.glob k))) := fun {pos} => by
        cases z : T.consts[k]? with
        | none =>
          refine ⟨fun pins s σ H Q I q => ?_⟩
          obtain ⟨A, ρ, h, e, rel, re, out⟩ := q
          simp only [den, z] at out
          exact out.elim
        | some p =>
          obtain ⟨u, v, h1, h2, h3⟩ := xo.g.consts k _ p h.1.1 z
          have q := s_const (X := X) (pe_glob (pos := pos) (gl_of (xo.sc ▸ glB_ok h.1.2)) h1 h2 (okn1 h.2)) h3
          refine PE.imp q fun σ H Q => ?_
          simp only [tI, den, z]
          exact id
      exact ⟨key, fun _ => t_val key fun _ => rfl⟩
    · cases h
  | .bin o a b, X, sc, e, xo, h => by
    unfold chkE at h
    split at h
    · simp only [Bool.and_eq_true] at h
      cases opB_ok h.1.1
      exact both (s_bin (X := X) (o := o) (chkE_ok a X sc _ xo h.1.2).1 (chkE_ok b X sc _ xo h.2).1) fun _ => rfl
    · cases h
  | .neg a, X, sc, e, xo, h => by
    unfold chkE at h
    split at h
    · exact both (s_neg (X := X) (chkE_ok a X sc _ xo h).1) fun _ => rfl
    · cases h
  | .not a, X, sc, e, xo, h => by
    unfold chkE at h
    split at h
    · have q := chkE_ok a X sc _ xo h
      refine ⟨s_not q.1, fun t => PT.imp (t_not (q.2 t)) fun σ H Q => ?_⟩
      simp only [tT, boolNot]
      exact id
    · cases h
  | .cmp o a b, X, sc, e, xo, h => by
    unfold chkE at h
    split at h
    · simp only [Bool.and_eq_true, Bool.not_eq_true'] at h
      cases copB_ok h.1.1.1
      have qa := (chkE_ok a X sc _ xo h.1.2).1
      have qb := (chkE_ok b X sc _ xo h.2).1
      exact ⟨s_cmp xo.hu (behind_ok h.1.1.2) qa qb, fun _ => t_cmp xo.hu (behind_ok h.1.1.2) qa qb⟩
    · cases h
  | .isN a, X, sc, e, xo, h => by
    unfold chkE at h
    split at h
    · have q := (chkE_ok a X sc _ xo h).1
      exact ⟨s_isN q, fun _ => t_isN q⟩
    · cases h
  | .notN a, X, sc, e, xo, h => by
    unfold chkE at h
    split at h
    · have q := (chkE_ok a X sc _ xo h).1
      exact ⟨s_notN q, fun _ => t_notN q⟩
    · cases h
  | .chain o p a b c, X, sc, e, xo, h => by
    unfold chkE at h
    split at h
    · simp only [Bool.and_eq_true, Bool.not_eq_true'] at h
      cases copB_ok h.1.1.1.1.1
      cases copB_ok h.1.1.1.1.2
      have qa := (chkE_ok a X sc _ xo h.1.1.2).1
      have qb := (chkE_ok b X sc _ xo h.1.2).1
      have qc := (chkE_ok c X sc _ xo h.2).1
      exact ⟨s_chain xo.hu (behind_ok h.1.1.1.2) qa qb qc, fun _ => t_chain xo.hu (behind_ok h.1.1.1.2) qa qb qc⟩
    · cases h
  | .and es, X, sc, e, xo, h => by
    unfold chkE at h
    split at h
    · obtain ⟨k1, k2⟩ := chkAnd_ok es X sc _ xo h _
      exact ⟨k1, fun t => (k2 t).pt⟩
    · cases h
  | .or es, X, sc, e, xo, h => by
    unfold chkE at h
    split at h
    · obtain ⟨k1, k2⟩ := chkOr_ok es X sc _ xo h _
      exact ⟨k1, fun t => (k2 t).pt⟩
    · cases h
  | .ife c a b, X, sc, e, xo, h => by
    unfold chkE at h
    split at h
    · simp only [Bool.and_eq_true] at h
      exact ⟨s_ife ((chkE_ok c X sc _ xo h.1.1.2).2 h.1.1.1) (chkE_ok a X sc _ xo h.1.2).1 (chkE_ok b X sc _ xo h.2).1, fun t => by cases t⟩
    · cases h
  | .tup es, X, sc, e, xo, h => by
    unfold chkE at h
    split at h
    · exact both (s_tup (X := X) (chkEs_ok es X sc _ xo h).2.2) fun _ => rfl
    · cases h
  | .lst es, X, sc, e, xo, h => by
    unfold chkE at h
    split at h
    · exact both (s_lst (X := X) (chkEs_ok es X sc _ xo h).2.2) fun _ => rfl
    · cases h
  | .ix a b, X, sc, e, xo, h => by
    unfold chkE at h
    split at h
    · simp only [Bool.and_eq_true, Bool.not_eq_true'] at h
      exact both (s_ix (X := X) (plain_ok h.1.1) (chkE_ok a X sc _ xo h.1.2).1 (chkE_ok b X sc _ xo h.2).1) fun _ => rfl
    · cases h
  | .sl a lo hi, X, sc, e, xo, h => by
    unfold chkE at h
    split at h
    · simp only [Bool.and_eq_true] at h
      exact both (s_sl (X := X) (chkE_ok a X sc _ xo h.1.1).1 (chkO_ok lo X sc _ xo h.1.2) (chkO_ok hi X sc _ xo h.2)) fun _ => rfl
    · cases h
  | .rev a, X, sc, e, xo, h => by
    unfold chkE at h
    split at h
    · exact both (s_rev (X := X) (chkE_ok a X sc _ xo h).1) fun _ => rfl
    · cases h
  | .dlit ks a, X, sc, e, xo, h => by
    unfold chkE at h
    split at h
    · rename_i es vs p2 i pos
      simp only [Bool.and_eq_true, Bool.not_eq_true', decide_eq_true_eq] at h
      obtain ⟨⟨⟨⟨h1, h2⟩, h3⟩, h4⟩, h5⟩ := h
      refine both (s_dlit (X := X) (ks := ks) xo.hu (fun ov iv => ?_) h2 (fun z => by rw [z] at h3; cases h3) h4 (chkE_ok a X sc _ xo h5).1) fun _ => rfl
      cases i <;> first | rfl | (simp [isSlice] at h1)
    · cases h
  | .dnew ks es, X, sc, e, xo, h => by
    unfold chkE at h
    split at h
    · rename_i keys vals pos
      simp only [Bool.and_eq_true, decide_eq_true_eq] at h
      obtain ⟨⟨h1, h2⟩, h3⟩ := h
      obtain ⟨k1, k2, k3, k4⟩ := chkDs_ok es X sc ks keys vals xo h3 pos
      refine both (s_dnew (X := X) k1 k2 k3 (fun z => ?_) (by omega) h2) fun _ => rfl
      rw [z] at k4
      have : ks = [] := List.eq_nil_of_length_eq_zero k4.symm
      rw [this] at h1
      cases h1
    · cases h
  | .dget a k, X, sc, e, xo, h => by
    unfold chkE at h
    split at h
    · simp only [Bool.and_eq_true, decide_eq_true_eq] at h
      cases h.1
      exact both (s_dget (X := X) xo.hu (chkE_ok a X sc _ xo h.2).1) fun _ => rfl
    · cases h
  | .gdget d a, X, sc, e, xo, h => by
    unfold chkE at h
    split at h
    · rename_i x px i pos
      simp only [Bool.and_eq_true, Bool.not_eq_true', decide_eq_true_eq] at h
      obtain ⟨⟨⟨⟨h1, h2⟩, h3⟩, h4⟩, h5⟩ := h
      obtain ⟨p, kvs, g1, g2, g3⟩ := xo.g.dcts d x h1
      have q := s_gdget (X := X) (pos := pos) (fun ov iv => by cases i <;> first | rfl | (simp [isSlice] at h4)) (pe_glob (pos := px) (gl_of (xo.sc ▸ glB_ok h2)) g1 (show RelV (.ref p) (.ref p) from rfl) (okn1 h3)) g3 (chkE_ok a X sc _ xo h5).1
      have q2 : PE X (.Subscript (.Name x px) i pos) (tI X.K (den T (callD T F n) (.gdget d a))) := by
        refine PE.imp q fun σ H Q => ?_
        simp only [tI, den, g2]
        exact id
      exact both q2 fun _ => rfl
    · cases h
  | .gdin d a, X, sc, e, xo, h => by
    unfold chkE at h
    split at h
    · rename_i l x px pos
      simp only [Bool.and_eq_true, decide_eq_true_eq] at h
      obtain ⟨⟨⟨h1, h2⟩, h3⟩, h5⟩ := h
      obtain ⟨p, kvs, g1, g2, g3⟩ := xo.g.dcts d x h1
      have hg := pe_glob (X := X) (pos := px) (gl_of (xo.sc ▸ glB_ok h2)) g1 (show RelV (.ref p) (.ref p) from rfl) (okn1 h3)
      have qa := (chkE_ok a X sc _ xo h5).1
      refine ⟨PE.imp (s_gdin (pos := pos) hg g3 qa) fun σ H Q => ?_, fun _ => PT.imp (t_gdin (pos := pos) hg g3 qa) fun σ H Q => ?_⟩
      · simp only [tI, den, g2]
        exact id
      · simp only [tT, den, g2]
        exact id
    · cases h
  | .gget d a b, X, sc, e, xo, h => by
    unfold chkE at h
    split at h
    · rename_i x px at_ apos v w pos
      simp only [Bool.and_eq_true, decide_eq_true_eq] at h
      obtain ⟨⟨⟨⟨⟨⟨⟨⟨h1, h2⟩, h3⟩, rfl⟩, h4⟩, h5⟩, h6⟩, h7⟩, h8⟩ := h
      obtain ⟨p, kvs, g1, g2, g3⟩ := xo.g.dcts d x h1
      have q := s_gget (X := X) (pos := pos) (apos := apos) (pe_glob (pos := px) (gl_of (xo.sc ▸ glB_ok h2)) g1 (show RelV (.ref p) (.ref p) from rfl) (okn1 h3)) g3 h4 h5 h6 (chkE_ok a X sc _ xo h7).1 (chkE_ok b X sc _ xo h8).1
      have q2 : PE X (.Call (.Attribute (.Name x px) "get" apos) [v, w] [] pos) (tI X.K (den T (callD T F n) (.gget d a b))) := by
        refine PE.imp q fun σ H Q => ?_
        simp only [tI, den, g2]
        exact id
      exact both q2 fun _ => rfl
    · cases h
  | .repr a, X, sc, e, xo, h => by
    unfold chkE at h
    split at h
    · rename_i x p v pos
      simp only [Bool.and_eq_true, decide_eq_true_eq] at h
      obtain ⟨⟨⟨rfl, h1⟩, h2⟩, h3⟩ := h
      exact both (s_repr (X := X) (pos := pos) (p := p) xo.room.gd xo.hu (xo.sc ▸ glB_ok h1) (xo.g.blt _ (by simp [bltNames])) h2 (chkE_ok a X sc _ xo h3).1) fun _ => rfl
    · cases h
  | .maxd a b, X, sc, e, xo, h => by
    unfold chkE at h
    split at h
    · rename_i x p v y w kp pos
      simp only [Bool.and_eq_true, decide_eq_true_eq] at h
      obtain ⟨⟨⟨⟨⟨rfl, rfl⟩, h1⟩, h2⟩, h3⟩, h4⟩ := h
      exact both (s_maxd (X := X) (pos := pos) (p := p) (kp := kp) xo.calm xo.hu (xo.sc ▸ glB_ok h1) (xo.g.blt _ (by simp [bltNames])) h2 (chkE_ok a X sc _ xo h3).1 (chkE_ok b X sc _ xo h4).1) fun _ => rfl
    · cases h
  | .every k a, X, sc, e, xo, h => by
    unfold chkE at h
    split at h
    · simp only [Bool.and_eq_true, decide_eq_true_eq] at h
      obtain ⟨⟨rfl, h1⟩, h2⟩ := h
      exact both (s_every (X := X) h1 (chkE_ok a X sc _ xo h2).1) fun _ => rfl
    · cases h
  | .lzip a b, X, sc, e, xo, h => by
    unfold chkE at h
    split at h
    · simp only [Bool.and_eq_true, decide_eq_true_eq] at h
      obtain ⟨⟨⟨⟨⟨⟨⟨rfl, rfl⟩, h1⟩, h2⟩, h3⟩, h4⟩, h5⟩, h6⟩ := h
      exact both (s_lzip (X := X) xo.calm (xo.sc ▸ glB_ok h1) (xo.g.blt _ (by simp [bltNames])) (xo.sc ▸ glB_ok h2) (xo.g.blt _ (by simp [bltNames])) h3 h4 (chkE_ok a X sc _ xo h5).1 (chkE_ok b X sc _ xo h6).1) fun _ => rfl
    · cases h
  | .own a, X, sc, e, xo, h => by
    unfold chkE at h
    simp only [Bool.and_eq_true] at h
    exact ⟨s_own (chkE_ok a X sc _ xo h.2).1, fun t => by cases t⟩
  | .call f es, X, sc, e, xo, h => by
    unfold chkE at h
    split at h
    · rename_i x p vs pos
      simp only [Bool.and_eq_true, decide_eq_true_eq] at h
      obtain ⟨fa, fd, ps, h1, h2, h3, h4⟩ := xo.g.fns f x h.1.1.1
      have hg := xo.sc ▸ glB_ok h.1.1.2
      obtain ⟨k1, k2, k3⟩ := chkEs_ok es X sc vs xo h.2
      cases vs with
      | nil =>
        have q := s_call0 (X := X) (pos := pos) (p := p) h4 xo.room hg h1 h2 h3 (okn1 h.1.2)
        have : PE X (.Call (.Name x p) [] [] pos) (tI X.K (den T (callD T F n) (.call f es))) := by
          refine PE.imp q fun σ H Q => ?_
          cases es with
          | nil => exact id
          | cons _ _ => unfold chkEs at h; exact (Bool.false_ne_true h.2).elim
        exact ⟨this, fun _ => t_val this fun _ => rfl⟩
      | cons v vs =>
        exact both (s_call (X := X) (pos := pos) (p := p) h4 xo.room hg h1 h2 h3 (okn1 h.1.2) k1 k2) fun _ => rfl
    · cases h
  | .bi b es, X, sc, e, xo, h => by
    unfold chkE at h
    split at h
    · rename_i x p vs pos
      simp only [Bool.and_eq_true, decide_eq_true_eq] at h
      obtain ⟨⟨⟨rfl, h1⟩, h2⟩, h3⟩ := h
      have hg := xo.sc ▸ glB_ok h1
      obtain ⟨k1, k2, k3⟩ := chkEs_ok es X sc vs xo h3
      cases vs with
      | nil => simp [nonnil] at h2
      | cons v vs =>
        exact both (s_bi (X := X) (B := b) (p := p) (pos := pos) xo.calm hg (xo.g.blt _ (bi_mem b)) k1 k2) fun _ => rfl
    · cases h
  | .bm m o es, X, sc, e, xo, h => by
    unfold chkE at h
    split at h
    · rename_i oe at_ apos vs pos
      simp only [Bool.and_eq_true, decide_eq_true_eq, Bool.not_eq_true'] at h
      obtain ⟨⟨⟨⟨⟨⟨rfl, h1⟩, h2⟩, h3⟩, h4⟩, h5⟩, h6⟩ := h
      obtain ⟨k1, k2, k3⟩ := chkEs_ok es X sc vs xo h6
      cases vs with
      | nil => simp [nonnil] at h3
      | cons v vs =>
        exact both (s_bm (X := X) (M := m) (apos := apos) (pos := pos) (base_ok h1) h2 k1 (by simp at h4; omega) (chkE_ok o X sc _ xo h5).1 k2) fun _ => rfl
    · cases h
  | .bm0 m o, X, sc, e, xo, h => by
    unfold chkE at h
    split at h
    · rename_i oe at_ apos pos
      simp only [Bool.and_eq_true, decide_eq_true_eq, Bool.not_eq_true'] at h
      obtain ⟨⟨⟨rfl, h1⟩, h2⟩, h5⟩ := h
      exact both (s_bm0 (X := X) (M := m) (apos := apos) (pos := pos) (base_ok h1) h2 (chkE_ok o X sc _ xo h5).1) fun _ => rfl
    · cases h
  | .isi a ts, X, sc, e, xo, h => by
    unfold chkE at h
    split at h
    · rename_i x p v t pos
      simp only [Bool.and_eq_true, decide_eq_true_eq] at h
      obtain ⟨⟨⟨⟨rfl, h1⟩, h2⟩, h3⟩, h4⟩ := h
      have hg := xo.sc ▸ glB_ok h1
      unfold tyB at h4
      split at h4
      · rename_i ty y p2
        simp only [Bool.and_eq_true, decide_eq_true_eq] at h4
        obtain ⟨rfl, h5⟩ := h4
        have hg2 := xo.sc ▸ glB_ok h5
        exact both (s_isi1 (X := X) (t := ty) (pos := pos) (p1 := p) (p2 := p2) h2 hg (xo.g.blt _ (by simp [bltNames])) hg2 (xo.g.blt _ (ty_mem ty)) (chkE_ok a X sc _ xo h3).1) fun _ => rfl
      · cases h4
    · cases h
  | .comp elt tg it c own, X, sc, e, xo, h => by
    unfold chkE at h
    split at h
    · rename_i el t iter ifs asy scope pos
      simp only [Bool.and_eq_true, decide_eq_true_eq, Bool.not_eq_true'] at h
      obtain ⟨⟨⟨⟨⟨⟨⟨rfl, h1⟩, h2⟩, h3⟩, h4⟩, h5⟩, h6⟩, h7⟩ := h
      have hw := chkW_ok it X sc t iter xo h3
      have ok : BlkOk X.N X.env.scope scope (ownS N own) := by rw [xo.eN, xo.sc]; exact blkOk_by h1
      have hown : ∀ i ∈ tg.names, i ∈ own := by simpa using h5
      have q := pe_lc (X := X) (pos := pos) (elt := el) (tg := t) (iter := iter) (ifs := ifs) (scope := scope) (own := ownS N own) (g := gT X.K tg) (tt := tT X.K (denC T (callD T F n) c)) (te := tI X.K (den T (callD T F n) elt)) xo.calm (xo.eN ▸ xo.nd) hw ok (fun s H C cl fp => chkT_ok (X := X.blk s H scope (compEnvC scope cl C X.env) fp) xo.eN xo.nd xo.calm blk_st tg t h4)
        (fun s H C cl fp => chkC_ok c _ _ ifs (xo.blk s H scope C cl fp) h6) (fun s H C cl fp => (chkE_ok elt _ _ el (xo.blk s H scope C cl fp) h7).1) (folded_ok h2)
      rw [ownS_snd] at q
      have := PE.imp q (i_comp hown)
      exact ⟨this, fun _ => t_val this fun _ => rfl⟩
    · cases h
theorem chkEs_ok : ∀ (es : IEs) (X : Cx) (sc : Scope) (vs : List Expr), XOk T F cg N n X sc → chkEs cg N es sc vs = true →
    nsts vs = true ∧ PA X vs (tA X.K (dens T (callD T F n) es)) ∧ PA X vs (tP X.K (denP T (callD T F n) es))
  | .nil, X, sc, vs, xo, h => by
    unfold chkEs at h
    split at h
    · exact ⟨rfl, s_args0, s_disp0⟩
    · cases h
  | .cons a r, X, sc, vs, xo, h => by
    unfold chkEs at h
    split at h
    · simp only [Bool.and_eq_true] at h
      obtain ⟨k1, k2, k3⟩ := chkEs_ok r X sc _ xo h.2
      have q := (chkE_ok a X sc _ xo h.1.2).1
      exact ⟨by simp [nsts, h.1.1, k1], s_args h.1.1 q k2, s_disp h.1.1 q k3⟩
    · cases h
theorem chkDs_ok : ∀ (es : IEs) (X : Cx) (sc : Scope) (ks : List Str) (keys : List (Option Expr)) (vals : List Expr), XOk T F cg N n X sc → chkDs cg N es sc ks keys vals = true → ∀ pos,
    PD X pos ks keys vals (denP T (callD T F n) es) ∧ keys.all (·.isSome) = true ∧ keys.length = vals.length ∧ keys.length = ks.length
  | .nil, X, sc, ks, keys, vals, xo, h => by
    intro pos
    unfold chkDs at h
    split at h
    · exact ⟨pd_nil, rfl, rfl, rfl⟩
    · cases h
  | .cons a r, X, sc, ks, keys, vals, xo, h => by
    intro pos
    unfold chkDs at h
    split at h
    · simp only [Bool.and_eq_true, decide_eq_true_eq] at h
      obtain ⟨⟨h1, h2⟩, h3⟩ := h
      cases h1
      obtain ⟨k1, k2, k3, k4⟩ := chkDs_ok r X sc _ _ _ xo h3 pos
      exact ⟨pd_cons (chkE_ok a X sc _ xo h2).1 k1, by simpa using k2, by simp [k3], by simp [k4]⟩
    · cases h
theorem chkAnd_ok : ∀ (es : IEs) (X : Cx) (sc : Scope) (vs : List Expr), XOk T F cg N n X sc → chkEs cg N es sc vs = true → ∀ pos,
    PE X (.BoolOp .And vs pos) (tI X.K (denAnd T (callD T F n) es)) ∧ (tstBs es = true → PW X (.BoolOp .And vs pos) (tT X.K fun e h => (denAnd T (callD T F n) es e h).bind fun x h => asB x h))
  | .nil, X, sc, vs, xo, h => by
    intro pos
    exact ⟨⟨fun pins s σ H Q I q => by obtain ⟨_, _, _, _, _, _, out⟩ := q; exact out.elim⟩, fun _ => ⟨fun wh pins s σ H Q I q => by obtain ⟨_, _, _, _, _, _, out⟩ := q; exact out.elim⟩⟩
  | .cons a .nil, X, sc, vs, xo, h => by
    intro pos
    unfold chkEs at h
    split at h
    · rename_i v vs
      simp only [Bool.and_eq_true] at h
      have h2 := h.2
      unfold chkEs at h2
      split at h2
      · have q := chkE_ok a X sc _ xo h.1.2
        refine ⟨pe_one q.1, fun t => ?_⟩
        simp only [tstBs, Bool.and_true] at t
        exact t_and1 (q.2 t)
      · cases h2
    · cases h
  | .cons a (.cons b r), X, sc, vs, xo, h => by
    intro pos
    unfold chkEs at h
    split at h
    · rename_i v vs
      simp only [Bool.and_eq_true] at h
      have q := chkE_ok a X sc _ xo h.1.2
      obtain ⟨k1, k2⟩ := chkAnd_ok (.cons b r) X sc vs xo h.2 pos
      cases vs with
      | nil => unfold chkEs at h; exact (Bool.false_ne_true h.2).elim
      | cons v2 vs =>
        refine ⟨s_and q.1 k1, fun t => ?_⟩
        simp only [tstBs, Bool.and_eq_true] at t
        refine PW.imp (t_and (q.2 t.1) (k2 (by simp only [tstBs, Bool.and_eq_true]; exact t.2))) fun σ H Q => ?_
        simp only [tT, boolAnd]
        exact id
    · cases h
theorem chkOr_ok : ∀ (es : IEs) (X : Cx) (sc : Scope) (vs : List Expr), XOk T F cg N n X sc → chkEs cg N es sc vs = true → ∀ pos,
    PE X (.BoolOp .Or vs pos) (tI X.K (denOr T (callD T F n) es)) ∧ (tstBs es = true → PW X (.BoolOp .Or vs pos) (tT X.K fun e h => (denOr T (callD T F n) es e h).bind fun x h => asB x h))
  | .nil, X, sc, vs, xo, h => by
    intro pos
    exact ⟨⟨fun pins s σ H Q I q => by obtain ⟨_, _, _, _, _, _, out⟩ := q; exact out.elim⟩, fun _ => ⟨fun wh pins s σ H Q I q => by obtain ⟨_, _, _, _, _, _, out⟩ := q; exact out.elim⟩⟩
  | .cons a .nil, X, sc, vs, xo, h => by
    intro pos
    unfold chkEs at h
    split at h
    · rename_i v vs
      simp only [Bool.and_eq_true] at h
      have h2 := h.2
      unfold chkEs at h2
      split at h2
      · have q := chkE_ok a X sc _ xo h.1.2
        refine ⟨pe_one q.1, fun t => ?_⟩
        simp only [tstBs, Bool.and_true] at t
        exact t_or1 (q.2 t)
      · cases h2
    · cases h
  | .cons a (.cons b r), X, sc, vs, xo, h => by
    intro pos
    unfold chkEs at h
    split at h
    · rename_i v vs
      simp only [Bool.and_eq_true] at h
      have q := chkE_ok a X sc _ xo h.1.2
      obtain ⟨k1, k2⟩ := chkOr_ok (.cons b r) X sc vs xo h.2 pos
      cases vs with
      | nil => unfold chkEs at h; exact (Bool.false_ne_true h.2).elim
      | cons v2 vs =>
        refine ⟨s_or q.1 k1, fun t => ?_⟩
        simp only [tstBs, Bool.and_eq_true] at t
        refine PW.imp (t_or (q.2 t.1) (k2 (by simp only [tstBs, Bool.and_eq_true]; exact t.2))) fun σ H Q => ?_
        simp only [tT, boolOr]
        exact id
    · cases h
theorem chkO_ok : ∀ (o : IO) (X : Cx) (sc : Scope) (e : Option Expr), XOk T F cg N n X sc → chkO cg N o sc e = true → PO X e (tO X.K (denO T (callD T F n) o))
  | .no, X, sc, e, xo, h => by
    unfold chkO at h
    split at h
    · exact s_partN
    · cases h
  | .yes a, X, sc, e, xo, h => by
    unfold chkO at h
    split at h
    · exact s_part (chkE_ok a X sc _ xo h).1
    · cases h
theorem chkC_ok : ∀ (o : IO) (X : Cx) (sc : Scope) (es : List Expr), XOk T F cg N n X sc → chkC cg N o sc es = true → PTs X es (tT X.K (denC T (callD T F n) o))
  | .no, X, sc, e, xo, h => by
    unfold chkC at h
    split at h
    · exact c_no
    · cases h
  | .yes a, X, sc, e, xo, h => by
    unfold chkC at h
    split at h
    · simp only [Bool.and_eq_true] at h
      exact c_yes ((chkE_ok a X sc _ xo h.2).2 h.1)
    · cases h
theorem chkW_ok : ∀ (it : IW) (X : Cx) (sc : Scope) (t e : Expr), XOk T F cg N n X sc → chkW cg N it sc t e = true → PI X t e (tW X.K (denW T (callD T F n) it))
  | .seq a, X, sc, t, e, xo, h => by
    unfold chkW at h
    exact w_seq (chkE_ok a X sc _ xo h).1
  | .range1 a, X, sc, t, e, xo, h => by
    unfold chkW at h
    split at h
    · simp only [Bool.and_eq_true, decide_eq_true_eq] at h
      obtain ⟨⟨⟨rfl, h1⟩, h2⟩, h3⟩ := h
      exact w_range1 (xo.sc ▸ glB_ok h1) (xo.g.blt _ (by simp [bltNames])) h2 (chkE_ok a X sc _ xo h3).1
    · cases h
  | .range2 a b, X, sc, t, e, xo, h => by
    unfold chkW at h
    split at h
    · simp only [Bool.and_eq_true, decide_eq_true_eq] at h
      obtain ⟨⟨⟨⟨⟨rfl, h1⟩, h2⟩, h3⟩, h4⟩, h5⟩ := h
      exact w_range2 (xo.sc ▸ glB_ok h1) (xo.g.blt _ (by simp [bltNames])) h2 h3 (chkE_ok a X sc _ xo h4).1 (chkE_ok b X sc _ xo h5).1
    · cases h
  | .zip a b, X, sc, t, e, xo, h => by
    unfold chkW at h
    split at h
    · simp only [Bool.and_eq_true, decide_eq_true_eq] at h
      obtain ⟨⟨⟨⟨⟨⟨h0, rfl⟩, h1⟩, h2⟩, h3⟩, h4⟩, h5⟩ := h
      cases t <;> simp [isTup] at h0
      exact w_zip (xo.sc ▸ glB_ok h1) (xo.g.blt _ (by simp [bltNames])) h2 h3 (chkE_ok a X sc _ xo h4).1 (chkE_ok b X sc _ xo h5).1
    · cases h
  | .enum a, X, sc, t, e, xo, h => by
    unfold chkW at h
    split at h
    · simp only [Bool.and_eq_true, decide_eq_true_eq] at h
      obtain ⟨⟨⟨⟨h0, rfl⟩, h1⟩, h2⟩, h4⟩ := h
      cases t <;> simp [isTup] at h0
      exact w_enum (xo.sc ▸ glB_ok h1) (xo.g.blt _ (by simp [bltNames])) h2 (chkE_ok a X sc _ xo h4).1
    · cases h
end
end
end G

set_option Elab.async false
set_option linter.all false
set_option maxRecDepth 100000
/-! GChkS: the checker for statements, for a table of defs. -/
namespace G
open PySem PySem.Spec PyProof.Rows L2

/-- is this name = [..] stored on one line -/
def swC (sc : Scope) (x : Str) (p2 : Pos) : Expr → Bool
  | .ListComp _ _ scope pe => (sc.names.lookup x == some .local) && (p2.line == pe.line) && !(scope.names.any fun (n, k) => n == x && (k == .local || k == .cell))
  | _ => false
def isSC : Expr → Bool
  | .SetComp _ _ _ _ => true
  | .DictComp _ _ _ _ _ => true
  | _ => false
def locB (sc : Scope) (x : Str) : Bool :=
  match sc.names.lookup x with
  | some .local => true
  | _ => false
section
variable (cg : CG) (N : List Str)
mutual
def chkS : IS → Scope → Stmt → Bool
  | .asg i own a, sc, st => match st with
    | .Assign [.Name x _] e _ => decide (N[i]? = some x) && stB sc x && !isSC e && chkE cg N a sc e
    | _ => false
  | .asgT ts a, sc, st => match st with
    | .Assign [.Tuple es _ _] e _ => !isTup e && chkTs N ts sc es && chkE cg N a sc e
    | _ => false
  | .par2 i j a b, sc, st => match st with
    | .Assign [.Tuple [.Name x px, .Name y py] _ _] (.Tuple [e1, e2] _ _) _ => decide (N[i]? = some x) && decide (N[j]? = some y) && decide (i ≠ j) && decide (x ≠ y) && locB sc x && locB sc y && (px.line == py.line) && nst e1 && nst e2 &&
        !([e1, e2].all (foldedForSure 8)) && !([e1, e2].all (constantsAlone 8)) && chkE cg N a sc e1 && chkE cg N b sc e2
    | _ => false
  | .setix o i v, sc, st => match st with
    | .Assign [.Subscript oe ie _] e _ => !isSlice ie && chkE cg N o sc oe && chkE cg N i sc ie && chkE cg N v sc e
    | _ => false
  | .dput o k v, sc, st => match st with
    | .Assign [.Subscript oe (.Constant (.str x) _ _) _] e _ => decide (x = k) && chkE cg N o sc oe && chkE cg N v sc e
    | _ => false
  | .exp a, sc, st => match st with
    | .Expr e _ => !isComp e && chkE cg N a sc e
    | _ => false
  | .ret a, sc, st => match st with
    | .Return (some e) _ => chkE cg N a sc e
    | _ => false
  | .retN, _, st => match st with
    | .Return none _ => true
    | _ => false
  | .pass, _, st => match st with
    | .Pass _ => true
    | _ => false
  | .brk, _, st => match st with
    | .Break _ => true
    | _ => false
  | .iff c a b, sc, st => match st with
    | .If t s1 s2 _ => tstB c && chkE cg N c sc t && chkSs a sc s1 && chkSs b sc s2
    | _ => false
  | .for_ tg it b, sc, st => match st with
    | .For t iter body [] _ => !isSet iter && chkW cg N it sc t iter && chkT N tg sc t && chkSs b sc body
    | _ => false
  | .while_ c b, sc, st => match st with
    | .While t body [] _ => tstB c && chkE cg N c sc t && chkSs b sc body
    | _ => false
  | .try_ b, sc, st => match st with
    | .Try body (_ :: _) [] [] _ => chkSs b sc body
    | _ => false
  | .raise, _, st => match st with
    | .Raise _ _ _ => true
    | _ => false
def chkSs : ISs → Scope → List Stmt → Bool
  | .nil, _, sts => match sts with
    | [] => true
    | _ => false
  | .cons s r, sc, sts => match sts with
    | st :: sts => chkS s sc st && chkSs r sc sts
    | [] => false
end
end

theorem swaps_none {e : Expr} {l : Nat} {env : Env} (h : isComp e = false) : swapsWith e none l env = pure false := by
  cases e <;> first | rfl | (simp [isComp] at h)
theorem swaps_tup {e : Expr} {es : List Expr} {k : Nat} {p : Pos} {l : Nat} {env : Env} : swapsWithSole [.Tuple es k p] e l env = pure false := by
  cases e <;> rfl
theorem swaps_sub {e o i : Expr} {p : Pos} {l : Nat} {env : Env} : swapsWithSole [.Subscript o i p] e l env = pure false := by
  cases e <;> rfl
theorem swaps_sub1 {e o i : Expr} {p : Pos} {l : Nat} {env : Env} : swapsWith e (some (.Subscript o i p)) l env = pure false := by
  cases e <;> rfl
theorem stores_none {e : Expr} {es : List Expr} {k : Nat} {p : Pos} {env : Env} (h : isTup e = false) : swappedStores [.Tuple es k p] e env = pure none := by
  cases e <;> first | rfl | (simp [isTup] at h)
theorem swaps_name {e : Expr} {x : Str} {p2 : Pos} {l : Nat} {env : Env} (hk : env.scope.kind = .function) (h : swC env.scope x p2 e = false) (hs : isSC e = false) : swapsWith e (some (.Name x p2)) l env = pure false := by
  cases e
  case ListComp elt gs scope pe =>
    have hb : env.blockKind = .function := by unfold Env.blockKind; rw [hk]; rfl
    have e1 : swapsWith (.ListComp elt gs scope pe) (some (.Name x p2)) l env = pure (env.blockKind == .function && env.kindOf x == some .local && p2.line == pe.line && !(scope.names.any fun (n, k) => n == x && (k == .local || k == .cell))) := rfl
    rw [e1, hb]
    have : (env.kindOf x == some .local && p2.line == pe.line && !(scope.names.any fun (n, k) => n == x && (k == .local || k == .cell))) = false := h
    have e2 : (ScopeKind.function == ScopeKind.function && env.kindOf x == some .local && p2.line == pe.line && !(scope.names.any fun (n, k) => n == x && (k == .local || k == .cell))) = false := by
      rw [show (ScopeKind.function == ScopeKind.function) = true from rfl, Bool.true_and]
      exact this
    rw [e2]
  case SetComp => simp [isSC] at hs
  case DictComp => simp [isSC] at hs
  all_goals rfl
theorem swapped2 {x y : Str} {px py pt : Pos} {kt k2 : Nat} {pt2 : Pos} {a b : Expr} {env : Env} (hk : env.scope.kind = .function) (hx : env.scope.names.lookup x = some .local) (hy : env.scope.names.lookup y = some .local) (hl : (px.line == py.line) = true) (hxy : x ≠ y)
    (na : nst a = true) (nb : nst b = true) (hf : [a, b].all (foldedForSure 8) = false) (hc : [a, b].all (constantsAlone 8) = false) :
    swappedStores [.Tuple [.Name x px, .Name y py] kt pt] (.Tuple [a, b] k2 pt2) env = pure (some [x, y]) := by
  have hb : env.blockKind = .function := by unfold Env.blockKind; rw [hk]; rfl
  have kx : env.kindOf x = some .local := hx
  have ky : env.kindOf y = some .local := hy
  have hl' : py.line = px.line := (by simpa using hl : px.line = py.line).symm
  have ed : [x, y].eraseDups = [x, y] := by
    have hbe : (y == x) = false := beq_eq_false_iff_ne.mpr hxy.symm
    simp [List.eraseDups, List.eraseDupsBy, List.eraseDupsBy.loop, hbe]
  unfold swappedStores
  simp only [hb, List.length_cons, List.length_nil]
  split
  · rename_i h; exact absurd h (by decide)
  split
  · rename_i h
    exfalso
    rw [List.any_cons, List.any_cons, List.any_nil, Bool.or_false, Bool.or_eq_true] at h
    rcases h with h | h
    · cases a <;> first | exact absurd h Bool.false_ne_true | exact absurd na Bool.false_ne_true
    · cases b <;> first | exact absurd h Bool.false_ne_true | exact absurd nb Bool.false_ne_true
  split
  · rename_i h
    exfalso
    simp [kx, ky, hl', Expr.pos, ed] at h
  rw [hf, hc]
  rw [if_neg (by decide), if_neg (by decide)]
  simp [kx, ky, hl', Expr.pos]

section
variable {T : Tab} {F : List FD} {cg : CG} {N : List Str} {n : Nat}
mutual
theorem chkS_ok : ∀ (s : IS) (X : Cx) (sc : Scope) (st : Stmt), XOk T F cg N n X sc → sc.kind = .function → (∀ x, X.fn x = true) → chkS cg N s sc st = true → PS X st (tS X.K (denS T (callD T F n) s))
  | .asg i own a, X, sc, st, xo, hk, hf, h => by
    unfold chkS at h
    split at h
    · rename_i x p2 e pos
      simp only [Bool.and_eq_true, decide_eq_true_eq, Bool.not_eq_true'] at h
      obtain ⟨⟨⟨h1, h2⟩, h3⟩, h4⟩ := h
      have hloc : Loc X.env.scope x := by
        rw [xo.sc]
        unfold stB at h2
        split at h2
        · exact .inl (by assumption)
        · exact .inr (by assumption)
        · cases h2
      cases hsw : swC sc x p2 e with
      | false => exact st_asg (xo.eN ▸ xo.nd) (xo.eN ▸ h1) hloc (.inl (hf x)) (swaps_name (xo.sc ▸ hk) (xo.sc ▸ hsw) h3) (chkE_ok a X sc _ xo h4).1
      | true =>
        unfold swC at hsw
        split at hsw
        · rename_i el gs scope pe
          simp only [Bool.and_eq_true, Bool.not_eq_true', beq_iff_eq] at hsw
          obtain ⟨⟨q1, q2⟩, q3⟩ := hsw
          cases a
          case comp elt tg it c ow =>
            unfold chkE at h4
            split at h4
            · rename_i heq
              cases heq
              rename_i t iter ifs asy
              simp only [Bool.and_eq_true, decide_eq_true_eq, Bool.not_eq_true'] at h4
              obtain ⟨⟨⟨⟨⟨⟨⟨rfl, m1⟩, m2⟩, m3⟩, m4⟩, m5⟩, m6⟩, m7⟩ := h4
              have hw := chkW_ok it X sc t iter xo m3
              have ok : BlkOk X.N X.env.scope scope (ownS N ow) := by rw [xo.eN, xo.sc]; exact blkOk_by m1
              have hown : ∀ i ∈ tg.names, i ∈ (ownS N ow).map (·.2) := by rw [ownS_snd]; simpa using m5
              have q := st_asgC (X := X) (i := i) (own := own) (y := x) (py := p2) (spos := pos) (elt := el) (tg := t) (iter := iter) (ifs := ifs) (scope := scope) (ow := ownS N ow) (pos := pe) (tgt := tg) (dcn := denC T (callD T F n) c) (de := den T (callD T F n) elt)
                xo.calm (xo.eN ▸ xo.nd) (xo.eN ▸ h1) (xo.sc ▸ q1) (sw_true (xo.sc ▸ hk) (xo.sc ▸ q1) (by simpa using q2) q3) hw ok (fun s H C cl fp => chkT_ok (X := X.blk s H scope (compEnvC scope cl C X.env) fp) xo.eN xo.nd xo.calm blk_st tg t m4)
                (fun s H C cl fp => chkC_ok c _ _ ifs (xo.blk s H scope C cl fp) m6) (fun s H C cl fp => (chkE_ok elt _ _ el (xo.blk s H scope C cl fp) m7).1) (folded_ok m2) hown
              rw [ownS_snd] at q
              exact q
            · cases h4
          all_goals (unfold chkE at h4; first | (cases h4; done) | (simp [isComp] at h4; done) | (split at h4 <;> first | (cases h4; done) | (rename_i heq; cases heq)))
        · cases hsw
    · cases h
  | .asgT ts a, X, sc, st, xo, hk, hf, h => by
    unfold chkS at h
    split at h
    · simp only [Bool.and_eq_true, Bool.not_eq_true'] at h
      have hst : ∀ x, stB sc x = true → Loc X.env.scope x ∧ (X.fn x = true ∨ X.env.scope.names.lookup x = some .local) := fun x h2 => by
        refine ⟨?_, .inl (hf x)⟩
        rw [xo.sc]
        unfold stB at h2
        split at h2
        · exact .inl (by assumption)
        · exact .inr (by assumption)
        · cases h2
      obtain ⟨k1, k2, k3⟩ := chkTs_ok xo.eN xo.nd xo.calm hst ts _ h.1.2
      exact st_asgT xo.calm k1 k2 k3 swaps_tup (stores_none h.1.1) (chkE_ok a X sc _ xo h.2).1
    · cases h
  | .par2 i j a b, X, sc, st, xo, hk, hf, h => by
    unfold chkS at h
    split at h
    · simp only [Bool.and_eq_true, decide_eq_true_eq, Bool.not_eq_true'] at h
      obtain ⟨⟨⟨⟨⟨⟨⟨⟨⟨⟨⟨⟨h1, h2⟩, h3⟩, h4⟩, h5⟩, h6⟩, h7⟩, h8⟩, h9⟩, h10⟩, h11⟩, h12⟩, h13⟩ := h
      have lo : ∀ {x : Str}, locB sc x = true → X.env.scope.names.lookup x = some .local := fun {x} q => by
        rw [xo.sc]
        unfold locB at q
        split at q
        · assumption
        · cases q
      exact st_par2 xo.calm (xo.eN ▸ xo.nd) (xo.eN ▸ h1) (xo.eN ▸ h2) h3 (lo h5) (lo h6) h8 h9 (swapped2 (xo.sc ▸ hk) (lo h5) (lo h6) h7 h4 h8 h9 h10 h11) (chkE_ok a X sc _ xo h12).1 (chkE_ok b X sc _ xo h13).1
    · cases h
  | .setix o i v, X, sc, st, xo, hk, hf, h => by
    unfold chkS at h
    split at h
    · rename_i oe ie p2 e pos
      simp only [Bool.and_eq_true, Bool.not_eq_true'] at h
      refine st_setix (fun v => ?_) swaps_sub (chkE_ok v X sc _ xo h.2).1 (chkE_ok o X sc _ xo h.1.1.2).1 (chkE_ok i X sc _ xo h.1.2).1
      have h0 := h.1.1.1
      cases ie <;> first | rfl | (simp [isSlice] at h0)
    · cases h
  | .dput o k v, X, sc, st, xo, hk, hf, h => by
    unfold chkS at h
    split at h
    · simp only [Bool.and_eq_true, decide_eq_true_eq] at h
      obtain ⟨⟨h1, h2⟩, h3⟩ := h
      cases h1
      exact st_dput xo.hu swaps_sub1 (chkE_ok v X sc _ xo h3).1 (chkE_ok o X sc _ xo h2).1
    · cases h
  | .exp a, X, sc, st, xo, hk, hf, h => by
    unfold chkS at h
    split at h
    · simp only [Bool.and_eq_true, Bool.not_eq_true'] at h
      exact st_exp (swaps_none h.1) (chkE_ok a X sc _ xo h.2).1
    · cases h
  | .ret a, X, sc, st, xo, hk, hf, h => by
    unfold chkS at h
    split at h
    · exact st_ret (chkE_ok a X sc _ xo h).1
    · cases h
  | .retN, X, sc, st, xo, hk, hf, h => by
    unfold chkS at h
    split at h
    · exact st_retN
    · cases h
  | .pass, X, sc, st, xo, hk, hf, h => by
    unfold chkS at h
    split at h
    · exact st_pass
    · cases h
  | .brk, X, sc, st, xo, hk, hf, h => by
    unfold chkS at h
    split at h
    · exact st_brk
    · cases h
  | .iff c a b, X, sc, st, xo, hk, hf, h => by
    unfold chkS at h
    split at h
    · simp only [Bool.and_eq_true] at h
      exact st_iff ((chkE_ok c X sc _ xo h.1.1.2).2 h.1.1.1) (chkSs_ok a X sc _ xo hk hf h.1.2) (chkSs_ok b X sc _ xo hk hf h.2)
    · cases h
  | .for_ tg it b, X, sc, st, xo, hk, hf, h => by
    unfold chkS at h
    split at h
    · simp only [Bool.and_eq_true, Bool.not_eq_true'] at h
      have hst : ∀ x, stB sc x = true → Loc X.env.scope x ∧ (X.fn x = true ∨ X.env.scope.names.lookup x = some .local) := fun x h2 => by
        refine ⟨?_, .inl (hf x)⟩
        rw [xo.sc]
        unfold stB at h2
        split at h2
        · exact .inl (by assumption)
        · exact .inr (by assumption)
        · cases h2
      exact st_for (by rw [xo.xe]; exact PassesOwn.never) xo.calm (chkW_ok it X sc _ _ xo h.1.1.2) (chkT_ok xo.eN xo.nd xo.calm hst tg _ h.1.2) (chkSs_ok b X sc _ xo hk hf h.2) (folded_ok h.1.1.1)
    · cases h
  | .while_ c b, X, sc, st, xo, hk, hf, h => by
    unfold chkS at h
    split at h
    · simp only [Bool.and_eq_true] at h
      exact st_while (by rw [xo.xe]; exact PassesOwn.never) ((chkE_ok c X sc _ xo h.1.2).2 h.1.1) (chkSs_ok b X sc _ xo hk hf h.2)
    · cases h
  | .try_ b, X, sc, st, xo, hk, hf, h => by
    unfold chkS at h
    split at h
    · exact st_try xo.xe (chkSs_ok b X sc _ xo hk hf h)
    · cases h
  | .raise, X, sc, st, xo, hk, hf, h => by
    unfold chkS at h
    split at h
    · exact st_raise
    · cases h
theorem chkSs_ok : ∀ (s : ISs) (X : Cx) (sc : Scope) (sts : List Stmt), XOk T F cg N n X sc → sc.kind = .function → (∀ x, X.fn x = true) → chkSs cg N s sc sts = true → PSs X sts (tS X.K (denSs T (callD T F n) s))
  | .nil, X, sc, sts, xo, hk, hf, h => by
    unfold chkSs at h
    split at h
    · exact ss_nil
    · cases h
  | .cons s r, X, sc, sts, xo, hk, hf, h => by
    unfold chkSs at h
    split at h
    · simp only [Bool.and_eq_true] at h
      exact ss_cons (chkS_ok s X sc _ xo hk hf h.1) (chkSs_ok r X sc _ xo hk hf h.2)
    · cases h
end
end

/-! ### a table of defs -/
/-- a def of the text: its name, its statement, its names (params first), how many params, its body here -/
structure DR where
  name : Str
  st : Stmt
  N : List Str
  np : Nat
  body : ISs
def DR.fd (d : DR) : FD := ⟨d.np, d.N.length, d.body⟩
def scB (N ps : List Str) (sc : Scope) : Bool :=
  (match sc.kind with | .function => true | _ => false) && !sc.isCoroutine && !sc.isGenerator && decide N.Nodup && decide (N.take ps.length = ps) &&
    ps.all (fun x => match sc.names.lookup x with | some .local => true | some .cell => true | _ => false) && sc.names.all (fun y => match y.2 with | .free => false | _ => true)
theorem scB_ok {N ps : List Str} {sc : Scope} (h : scB N ps sc = true) : FnScope N ps sc := by
  unfold scB at h
  simp only [Bool.and_eq_true, Bool.not_eq_true', decide_eq_true_eq, List.all_eq_true] at h
  obtain ⟨⟨⟨⟨⟨⟨h1, h2⟩, h3⟩, h4⟩, h5⟩, h6⟩, h7⟩ := h
  refine ⟨?_, h2, h3, h4, h5, fun x hx => ?_, fun y hy e => ?_⟩
  · split at h1
    · assumption
    · cases h1
  · have q := h6 x hx
    split at q
    · exact .inl (by assumption)
    · exact .inr (by assumption)
    · cases q
  · have q := h7 y hy
    rw [e] at q
    cases q
/-- the whole of a def, looked at -/
def chkD (cg : CG) (d : DR) : Bool := scB d.N (d.N.take d.np) (defScope d.st) && decide (d.np ≤ d.N.length) && chkSs cg d.N d.body (defScope d.st) (defBody d.st)
section
variable {P : Program} {w : World} {K : PySem.W.Frag} {mg : Str → Option Value} {base : Heap}
theorem table_ok {T : Tab} {ds : List DR} {cs dn : List Str}
    (hc : ∀ d ∈ ds, chkD ⟨ds.map (·.name), cs, dn⟩ d = true)
    (hf : ∀ (i : Nat) (d : DR), ds[i]? = some d → ∃ f fd, mg d.name = some (.ref f) ∧ Fun K d.name d.name d.st f fd ∧ Binds K fd (d.N.take d.np) [])
    (hk : ∀ (i : Nat) (x : Str) (p : PyData), cs[i]? = some x → T.consts[i]? = some p → ∃ u v, mg x = some u ∧ RelV v u ∧ ∀ L H, RP K L H p v) (hb : ∀ x ∈ bltNames, mg x = none)
    (hdc : ∀ (i : Nat) (x : Str), dn[i]? = some x → ∃ (a : Addr) (kvs : List (Str × PyData)), mg x = some (.ref a) ∧ T.dicts[i]? = some kvs ∧ KD K w a kvs) :
    ∀ n, GOk P w K mg base T (ds.map DR.fd) ⟨ds.map (·.name), cs, dn⟩ n ∧ ∀ (i : Nat) (d : DR) (f : Addr) (fd : FuncData), ds[i]? = some d → mg d.name = some (.ref f) → Fun K d.name d.name d.st f fd → FnG P w K mg base CX0 n f fd (d.N.take d.np) (spI K (callD T (ds.map DR.fd) n i)) := by
  intro n
  induction n with
  | zero =>
    refine ⟨⟨fun i x e => ?_, hk, hb, hdc⟩, fun i d f fd _ _ _ => fn_zero⟩
    rw [List.getElem?_map] at e
    cases z : ds[i]? with
    | none => rw [z] at e; cases e
    | some d =>
      rw [z] at e
      cases e
      obtain ⟨f, fd, h1, h2, h3⟩ := hf i d z
      exact ⟨f, fd, _, h1, h2.kp, h3, fn_zero⟩
  | succ n ih =>
    have step : ∀ (i : Nat) (d : DR) (f : Addr) (fd : FuncData), ds[i]? = some d → mg d.name = some (.ref f) → Fun K d.name d.name d.st f fd → FnG P w K mg base CX0 (n + 1) f fd (d.N.take d.np) (spI K (callD T (ds.map DR.fd) (n + 1) i)) := by
      intro i d f fd e hm Fn
      have hcd := hc d (List.mem_of_getElem? e)
      unfold chkD at hcd
      simp only [Bool.and_eq_true, decide_eq_true_eq] at hcd
      obtain ⟨⟨c1, c2⟩, c3⟩ := hcd
      have S := scB_ok c1
      refine fn_step (d := d.fd) (by rw [List.getElem?_map, e]; rfl) Fn S (by show d.np = _; rw [List.length_take]; omega) rfl fun cdv A outer s H hr => ?_
      exact chkSs_ok d.body _ (defScope d.st) _ ⟨rfl, S.nd, rfl, rfl, rfl, hr, ih.1⟩ S.kind (fun _ => rfl) c3
    refine ⟨⟨fun i x e => ?_, hk, hb, hdc⟩, step⟩
    rw [List.getElem?_map] at e
    cases z : ds[i]? with
    | none => rw [z] at e; cases e
    | some d =>
      rw [z] at e
      cases e
      obtain ⟨f, fd, h1, h2, h3⟩ := hf i d z
      exact ⟨f, fd, _, h1, h2.kp, h3, step i d f fd z h1 h2⟩
/-- the law's own promise -/
def spLaw (K : PySem.W.Frag) : Sp := fun vs H Q _ => ∃ (a : Addr) (ns : List Int), vs = [.ref a] ∧ SqL K H a (ns.map V.int) ∧ ns.length ≤ 63 ∧ ∀ H', Q (.bl true) H'
theorem ints_rel {L : Addr → Prop} {H : Hp} : ∀ ns : List Int, RPs K L H (ns.map PyData.int) (ns.map V.int)
  | [] => .nil
  | n :: ns => .cons (.int n) (ints_rel ns)
theorem law_of {T : Tab} {F : List FD} {n i : Nat} {f : Addr} {fd : FuncData} {ps : List Str} (G : FnG P w K mg base CX0 n f fd ps (spI K (callD T F n i)))
    (h : ∀ ns : List Int, ns.length ≤ 63 → ∃ h', callD T F n i [.fl (ns.map PyData.int)] [] = .ok (.pv (.bool true)) h') : FnG P w K mg base CX0 n f fd ps (spLaw K) := by
  refine G.imp fun vs H Q E ⟨a, ns, e, hs, hl, q⟩ => ?_
  subst e
  refine ⟨fun _ => False, [], [], [.fl (ns.map PyData.int)], ⟨rfl, fun i j a o o' e => by simp at e, fun i o a e => by simp at e, fun _ z => z.elim, fun _ z => z.elim⟩, ⟨⟨a, ns.map V.int, rfl, ?_, ints_rel ns⟩, trivial⟩, ?_⟩
  · rcases hs with hs | hs
    · refine .inl ⟨?_, hs⟩
      rintro (⟨i, o, e, _⟩ | z)
      · simp at e
      · exact z
    · exact .inr hs
  · obtain ⟨h', e⟩ := h ns hl
    rw [e]
    intro ρ' x H' s r
    cases rv_bl r.1
    exact q H'
end
end G

set_option Elab.async false
set_option linter.all false
set_option maxRecDepth 100000
/-! GLaw: plain laws of the evaluator. -/
namespace G
open PySem L2 TL
theorem S_len (l : List Nat) : (S l).length = l.length := by simp [S, Str.length]
theorem S_cps (l : List Nat) : (S l).cps.toList = l := rfl
theorem S_app (a b : List Nat) : S a ++ S b = S (a ++ b) := ext_tl (by rw [tl_append]; rfl)
theorem S_eq (a b : List Nat) : (S a = S b) = (a = b) := by
  apply propext
  refine ⟨fun h => ?_, fun h => by rw [h]⟩
  have := congrArg (fun x : Str => x.cps.toList) h
  exact this
theorem S_beq (a b : List Nat) : (S a == S b) = decide (a = b) := by
  rw [show (S a == S b) = decide (S a = S b) from by by_cases h : S a = S b <;> simp [h]]
  simp only [S_eq]
theorem S_one (c : Nat) : (⟨#[c]⟩ : Str) = S [c] := rfl
theorem S_num (n : Nat) : (toString ((n : Nat) : Int) : String) = toString ((n : Nat) : Int) := rfl
theorem num_S (n : Nat) : Str.ofString (toString ((n : Nat) : Int)) = S (numL n) := ext_tl (tl_num n)
theorem cut_S (l : List Nat) (lo hi : Option Int) : cutS (S l) lo hi = S ((l.drop (HT.sIx l.length 0 lo)).take (HT.sIx l.length l.length hi - HT.sIx l.length 0 lo)) := by
  unfold cutS
  rw [S_cps, S_len]
  rfl
theorem finV_ret (n : Nat) (p : PyData) (h : EH) : finV n (.ret (.pv p) h) = .ok (.pv p) (h.take n) := rfl
theorem finV_retT (n : Nat) (p : List PyData) (h : EH) : finV n (.ret (.tl p) h) = .ok (.tl p) (h.take n) := rfl
theorem finV_nx (n : Nat) (e : EEnv) (h : EH) : finV n (.nx e h) = .ok (.pv .none) (h.take n) := rfl
theorem atI_0 {α : Type} {x : α} {xs : List α} : atI (x :: xs) 0 = some x := atI_nat (j := 0) rfl
theorem atI_1 {α : Type} {x y : α} {xs : List α} : atI (x :: y :: xs) 1 = some y := atI_nat (j := 1) rfl
theorem atI_2 {α : Type} {x y z : α} {xs : List α} : atI (x :: y :: z :: xs) 2 = some z := atI_nat (j := 2) rfl
theorem atI_3 {α : Type} {x y z u : α} {xs : List α} : atI (x :: y :: z :: u :: xs) 3 = some u := atI_nat (j := 3) rfl
theorem ixN_nat {n i : Nat} (h : i < n) : ixN n ((i : Nat) : Int) = some i := by
  unfold ixN
  rw [if_pos (by omega), if_pos (by omega)]
  simp
/-- a walk: an invariant over the items -/
theorem forD_run {bnd : PyData → EEnv → Option EEnv} {body : EEnv → EH → RS} {w : Walked} (P : Nat → EEnv → EH → Prop) :
    ∀ (xs : List PyData) (i : Nat) (e : EEnv) (h : EH), P i e h → (∀ j e h, P j e h → w.still h) →
    (∀ j x e h, xs[j]? = some x → P (i + j) e h → ∃ e1, bnd x e = some e1 ∧ ∃ e2 h2, (body e1 h = .nx e2 h2 ∨ body e1 h = .ct e2 h2) ∧ P (i + j + 1) e2 h2) →
    ∃ e2 h2, forD bnd body w xs e h = .nx e2 h2 ∧ P (i + xs.length) e2 h2
  | [], i, e, h, p, st, _ => ⟨e, h, by unfold forD; rw [if_pos (st _ _ _ p)], p⟩
  | x :: xs, i, e, h, p, st, f => by
    obtain ⟨e1, b1, e2, h2, b2, p2⟩ := f 0 x e h rfl p
    obtain ⟨e3, h3, r, p3⟩ := forD_run P xs (i + 1) e2 h2 p2 st (fun j y e h hy pj => by
      have := f (j + 1) y e h hy (by rw [show i + (j + 1) = i + 1 + j from by omega]; exact pj)
      rw [show i + 1 + j = i + (j + 1) from by omega]
      exact this)
    refine ⟨e3, h3, ?_, by rw [List.length_cons, show i + (xs.length + 1) = i + 1 + xs.length from by omega]; exact p3⟩
    unfold forD
    rw [if_pos (st _ _ _ p)]
    simp only [b1]
    rcases b2 with b2 | b2 <;> simp only [b2, r]
/-- a comprehension without a test -/
theorem compD_run {bnd : PyData → EEnv → Option EEnv} {elt : EEnv → EH → R EV} {w : Walked} {own : List Nat} {e : EEnv} (P : Nat → List PyData → EH → Prop) :
    ∀ (xs : List PyData) (i : Nat) (qs : List PyData) (h : EH), P i qs h → (∀ j qs h, P j qs h → w.still h) →
    (∀ j x qs h, xs[j]? = some x → P (i + j) qs h → ∃ e1, bnd x (wipeE e own) = some e1 ∧ ∃ v h1 p h2, elt e1 h = .ok v h1 ∧ dataV v h1 = .ok p h2 ∧ P (i + j + 1) (qs ++ [p]) h2) →
    ∃ ps h2, compD bnd (fun _ h => .ok true h) elt w own e xs h = .ok ps h2 ∧ P (i + xs.length) (qs ++ ps) h2
  | [], i, qs, h, p, st, _ => ⟨[], h, by unfold compD; rw [if_pos (st _ _ _ p)], by rw [List.append_nil]; exact p⟩
  | x :: xs, i, qs, h, p, st, f => by
    obtain ⟨e1, b1, v, h1, q, h2, b2, b3, p2⟩ := f 0 x qs h rfl p
    obtain ⟨ps, h3, r, p3⟩ := compD_run P xs (i + 1) (qs ++ [q]) h2 p2 st (fun j y qs h hy pj => by
      have := f (j + 1) y qs h hy (by rw [show i + (j + 1) = i + 1 + j from by omega]; exact pj)
      rw [show i + 1 + j = i + (j + 1) from by omega]
      exact this)
    refine ⟨q :: ps, h3, ?_, by rw [List.length_cons, show i + (xs.length + 1) = i + 1 + xs.length from by omega]; rw [List.append_assoc] at p3; exact p3⟩
    unfold compD
    rw [if_pos (st _ _ _ p)]
    simp only [b1, R.bind_ok, b2, b3, r, if_true]
/-- a pure comprehension -/
theorem compD_map {bnd : PyData → EEnv → Option EEnv} {elt : EEnv → EH → R EV} {w : Walked} {own : List Nat} {e : EEnv} {h : EH} (hw : w.src = none) (f : PyData → PyData) :
    ∀ (xs : List PyData), (∀ x ∈ xs, ∃ e1, bnd x (wipeE e own) = some e1 ∧ elt e1 h = .ok (.pv (f x)) h) → compD bnd (fun _ h => .ok true h) elt w own e xs h = .ok (xs.map f) h
  | [], _ => by unfold compD; rw [if_pos (by unfold Walked.still; rw [hw]; trivial)]; rfl
  | x :: xs, g => by
    obtain ⟨e1, b1, b2⟩ := g x (List.mem_cons_self ..)
    have ih := compD_map (own := own) (e := e) hw f xs (fun y hy => g y (List.mem_cons_of_mem _ hy))
    unfold compD
    rw [if_pos (by unfold Walked.still; rw [hw]; trivial)]
    simp only [b1, R.bind_ok, b2, dataV, toP, ih, if_true, List.map_cons]
theorem compD_wipe {w : Walked} : True := trivial
/-- a feed lies at r: two numbers -/
def Fd (h : EH) (r : Nat) : Prop := ∃ a x : Int, h[r]? = some (.lst [.int a, .int x])
/-- draws from the feed at r: the rest stays -/
def Dr (r : Nat) (h h' : EH) : Prop := Fd h' r ∧ h'.length = h.length ∧ ∀ i, i ≠ r → h'[i]? = h[i]?
theorem Fd.lt {h : EH} {r : Nat} (f : Fd h r) : r < h.length := by
  obtain ⟨a, x, e⟩ := f
  exact (List.getElem?_eq_some_iff.mp e).1
theorem Dr.refl {r : Nat} {h : EH} (f : Fd h r) : Dr r h h := ⟨f, rfl, fun _ _ => rfl⟩
theorem Dr.trans {r : Nat} {h1 h2 h3 : EH} (a : Dr r h1 h2) (b : Dr r h2 h3) : Dr r h1 h3 := ⟨b.1, b.2.1.trans a.2.1, fun i hi => (b.2.2 i hi).trans (a.2.2 i hi)⟩
theorem Dr.of_set {r : Nat} {h : EH} (f : Fd h r) (a x : Int) : Dr r h (h.set r (.lst [.int a, .int x])) := by
  refine ⟨⟨a, x, ?_⟩, by simp, fun i hi => ?_⟩
  · rw [List.getElem?_set_self f.lt]
  · rw [List.getElem?_set_ne (Ne.symm hi)]
theorem Dr.take {r : Nat} {h h' : EH} (d : Dr r h h') : h'.take h.length = h' := by rw [← d.2.1]; exact List.take_length
theorem top_get (h : EH) (o : EO) : (h ++ [o])[h.length]? = some o := by simp
theorem top_set (h : EH) (o p : EO) : (h ++ [o]).set h.length p = h ++ [p] := by simp
theorem top_take (h t : EH) : (h ++ t).take h.length = h := by simp
theorem whileD_step {c : EEnv → EH → R Bool} {body : EEnv → EH → RS} {n : Nat} {e e2 : EEnv} {h h1 h2 : EH} (hc : c e h = .ok true h1) (hb : body e h1 = .nx e2 h2) : whileD c body (n + 1) e h = whileD c body n e2 h2 := by
  conv => lhs; unfold whileD
  rw [hc]
  simp [hb]
theorem whileD_end {c : EEnv → EH → R Bool} {body : EEnv → EH → RS} {n : Nat} {e : EEnv} {h h1 : EH} (hc : c e h = .ok false h1) : whileD c body (n + 1) e h = .nx e h1 := by
  conv => lhs; unfold whileD
  rw [hc]
  simp
end G
namespace G
open PySem L2 TL
theorem inV_S (c : Nat) (z : List Nat) (h : EH) (f : Bool → Bool) : G.inV (.pv (.str (S [c]))) (.pv (.str (S z))) h f = okb (f (decide (c ∈ z))) h := by
  have e : (S [c]).cps.getD 0 0 = c := rfl
  unfold G.inV
  simp only [S_len, S_cps, e, List.length_cons, List.length_nil, if_true]
/-- a text in a list or a tuple of texts -/
theorem inV_strs (l : List Nat) (ys : List (List Nat)) (v : EV) (h : EH) (f : Bool → Bool) (hs : seqOf h v = some (ys.map fun y => .str (S y))) (hv : ∀ z, v ≠ .pv (.str z)) : G.inV (.pv (.str (S l))) v h f = okb (f (decide (l ∈ ys))) h := by
  have e1 : (ys.map fun y => PyData.str (S y)).all flatP = true := by simp [flatP]
  have e2 : (ys.map fun y => PyData.str (S y)).any (fun z => PyData.eqv z (.str (S l))) = decide (l ∈ ys) := by
    induction ys with
    | nil => rfl
    | cons y ys ih =>
      have : ((ys.map fun y => PyData.str (S y)).any fun z => PyData.eqv z (.str (S l))) = decide (l ∈ ys) := by
        clear ih hs e1
        induction ys with
        | nil => rfl
        | cons y ys ih =>
          rw [List.map_cons, List.any_cons, ih]
          simp only [PyData.eqv, S_beq, List.mem_cons]
          by_cases h1 : y = l <;> by_cases h2 : l ∈ ys <;> simp [h1, h2]
          intro h3; exact h1 h3.symm
      rw [List.map_cons, List.any_cons, this]
      simp only [PyData.eqv, S_beq, List.mem_cons]
      by_cases h1 : y = l <;> by_cases h2 : l ∈ ys <;> simp [h1, h2]
      intro h3; exact h1 h3.symm
  cases v with
  | pv p =>
    cases p with
    | str z => exact absurd rfl (hv z)
    | _ => first | (unfold G.inV; simp only [hs, dataOf]; rw [if_pos ⟨rfl, e1⟩, e2]) | cases hs
  | _ => first | (unfold G.inV; simp only [hs, dataOf]; rw [if_pos ⟨rfl, e1⟩, e2]) | cases hs
end G
namespace G
theorem size_eq : PySem.sizeLine = 16777216 := by decide
end G
namespace G
open PySem
@[simp] theorem sbind_exc (x : XV) (e : EEnv) (h : EH) (f : EEnv → EH → RS) : (RS.exc x e h).bind f = .exc x e h := rfl
@[simp] theorem to_exc {α : Type} (x : XV) (h : EH) (e : EEnv) (f : α → EH → RS) : (R.exc x h : R α).to e f = .exc x e h := rfl
theorem asB_b (b : Bool) (h : EH) : asB (.pv (.bool b)) h = .ok b h := rfl
end G
namespace G
open PySem L2 TL
theorem compD_true {bnd : PyData → EEnv → Option EEnv} {elt : EEnv → EH → R EV} {w : Walked} {own : List Nat} {e : EEnv} {h : EH} (hw : w.src = none) (xs : List PyData) (g : ∀ x ∈ xs, ∃ e1, bnd x (wipeE e own) = some e1 ∧ elt e1 h = .ok (.pv (.bool true)) h) :
    compD bnd (fun _ h => .ok true h) elt w own e xs h = .ok (List.replicate xs.length (.bool true)) h := by
  rw [compD_map hw (fun _ => .bool true) xs g, List.map_const']
theorem allB_rep (n : Nat) : allB (List.replicate n (.bool true)) = some true := by
  induction n with
  | zero => rfl
  | succ n ih => simp [List.replicate_succ, allB, ih]
theorem denC_no (T : Tab) (call : Nat → List EV → EH → R EV) : denC T call .no = fun _ h => .ok true h := by funext e h; rfl
theorem digit_of {i c : Nat} (h : c ∈ numL i) : 48 ≤ c ∧ c ≤ 57 := by
  by_cases q : c < 48 ∨ 57 < c
  · exact absurd h (numL_free q)
  · omega
end G
namespace G
open PySem L2 TL
theorem num_R (n : Nat) : Str.ofString (Int.repr ((n : Nat) : Int)) = S (numL n) := num_S n
end G

set_option Elab.async false
set_option linter.all false
set_option maxRecDepth 100000
/-! GHead: what the module's names hold, and the end of a law. -/
namespace G
open PySem PySem.Spec PyProof.Rows L2
/-- the def of this name stands in the module, with this text -/
def DefAt (K : PySem.W.Frag) (nm : Str) (st : Stmt) : Prop :=
  ∃ (f : Addr) (oc : Value) (od an : Option Addr) (sl : Array (Option Value)) (kV dc pm cd ct : Value), PySem.W.nsIn K mainGlobals nm = some (some (.ref f)) ∧
    K.lookup f = some ⟨oc, od, .func (PySem.W.fnOf nm nm (defArgs st) (defBody st) (defScope st) .none kV dc pm an cd ct), sl⟩ ∧ PySem.W.codeIn K cd nm = true ∧ PySem.W.keepIn K (.ref f) = true
theorem defAt_mk {K : PySem.W.Frag} {nm : Str} {st : Stmt} {f : Addr} {oc : Value} {od an : Option Addr} {sl : Array (Option Value)} {kV dc pm cd ct : Value} (a : PySem.W.nsIn K mainGlobals nm = some (some (.ref f)))
    (l : K.lookup f = some ⟨oc, od, .func (PySem.W.fnOf nm nm (defArgs st) (defBody st) (defScope st) .none kV dc pm an cd ct), sl⟩) (c : PySem.W.codeIn K cd nm = true) (k : PySem.W.keepIn K (.ref f) = true) : DefAt K nm st := ⟨f, oc, od, an, sl, kV, dc, pm, cd, ct, a, l, c, k⟩
/-- how a def binds its arguments -/
def BindOk (d : DR) : Prop := ∀ (kV doc pm : Value) (an : Option Addr) (cdv ct : Value) (us : List Value), us.length = (d.N.take d.np).length →
  bindArgs (PySem.W.fnOf d.name d.name (defArgs d.st) (defBody d.st) (defScope d.st) .none kV doc pm an cdv ct) ⟨us, []⟩ = pure ((d.N.take d.np).zip us)
/-- the constant of this name -/
def ConstAt (K : PySem.W.Frag) (nm : Str) (p : PyData) : Prop := ∃ (u : Value) (v : V), PySem.W.nsIn K mainGlobals nm = some (some u) ∧ RelV v u ∧ ∀ L H, RP K L H p v
theorem const_int {K : PySem.W.Frag} {nm : Str} {i : Int} {t : Tok} (e : PySem.W.nsIn K mainGlobals nm = some (some (.int i t))) : ConstAt K nm (.int i) := ⟨_, .int i, e, ⟨_, rfl⟩, fun _ _ => .int i⟩
theorem const_str {K : PySem.W.Frag} {nm x : Str} {t : Tok} (e : PySem.W.nsIn K mainGlobals nm = some (some (.str x t))) : ConstAt K nm (.str x) := ⟨_, .str x, e, ⟨_, rfl⟩, fun _ _ => .str x⟩
/-- values of the written part that are these data -/
def chkVs : List Value → List PyData → Bool
  | [], [] => true
  | .str x _ :: us, .str y :: ps => decide (x = y) && chkVs us ps
  | .int x _ :: us, .int y :: ps => decide (x = y) && chkVs us ps
  | _, _ => false
theorem chkVs_ok {K : PySem.W.Frag} : ∀ {us : List Value} {ps : List PyData}, chkVs us ps = true → ∃ vs : List V, Vals vs us ∧ ∀ L H, RPs K L H ps vs
  | [], [], _ => ⟨[], .nil, fun _ _ => .nil⟩
  | .str x t :: us, .str y :: ps, h => by
    unfold chkVs at h
    simp only [Bool.and_eq_true, decide_eq_true_eq] at h
    obtain ⟨vs, a, b⟩ := chkVs_ok (K := K) h.2
    exact ⟨.str x :: vs, .cons ⟨t, rfl⟩ a, fun L H => .cons (h.1 ▸ .str x) (b L H)⟩
  | .int x t :: us, .int y :: ps, h => by
    unfold chkVs at h
    simp only [Bool.and_eq_true, decide_eq_true_eq] at h
    obtain ⟨vs, a, b⟩ := chkVs_ok (K := K) h.2
    exact ⟨.int x :: vs, .cons ⟨t, rfl⟩ a, fun L H => .cons (h.1 ▸ .int x) (b L H)⟩
theorem const_tup {K : PySem.W.Frag} {nm : Str} {ps : List PyData} {its : Array Value} {a : Addr} {od : Option Addr} {n : Nat} {sl : Array (Option Value)} (e : PySem.W.nsIn K mainGlobals nm = some (some (.ref a)))
    (g : K.lookup a = some ⟨.type "tuple", od, .seq its n, sl⟩) (c : (decide (its.size ≤ 1000) && chkVs its.toList ps) = true) : ConstAt K nm (.tuple ps) := by
  simp only [Bool.and_eq_true, decide_eq_true_eq] at c
  obtain ⟨vs, q1, q2⟩ := chkVs_ok (K := K) c.2
  exact ⟨_, .ref a, e, rfl, fun L H => .tupK ⟨_, _, n, g, rfl, rfl, Nat.le_trans c.1 (by decide), q1⟩ (q2 L H)⟩
/-- the written dict of this name -/
def DictAt (K : PySem.W.Frag) (w : World) (nm : Str) (kvs : List (Str × PyData)) : Prop := ∃ a : Addr, PySem.W.nsIn K mainGlobals nm = some (some (.ref a)) ∧ KD K w a kvs
/-- the entries of a written dict: ints, tuples of ints and texts -/
inductive DE (K : PySem.W.Frag) : List DictEntry → List (Str × PyData) → Prop
  | nil : DE K [] []
  | int {es : List DictEntry} {kvs : List (Str × PyData)} {hh : Int} {x k : Str} {t t2 : Tok} {i j : Int} (e : x = k) (e2 : i = j) (r : DE K es kvs) : DE K (⟨hh, .str x t, .int i t2⟩ :: es) ((k, .int j) :: kvs)
  | tup {es : List DictEntry} {kvs : List (Str × PyData)} {hh : Int} {x k : Str} {t : Tok} {a : Addr} {od : Option Addr} {its : Array Value} {n : Nat} {sl : Array (Option Value)} {ps : List PyData} (e : x = k)
      (g : K.lookup a = some ⟨.type "tuple", od, .seq its n, sl⟩) (c : (decide (its.size ≤ 1000) && chkVs its.toList ps) = true) (r : DE K es kvs) : DE K (⟨hh, .str x t, .ref a⟩ :: es) ((k, .tuple ps) :: kvs)
theorem de_step {K : PySem.W.Frag} {es : List DictEntry} {kvs : List (Str × PyData)} {d : DictEntry} {k : Str} {t : Tok} {p : PyData} {v : V} (ek : d.key = .str k t) (rv : RelV v d.val) (rp : ∀ L H, RP K L H p v)
    (ih : (es.any (·.refKey) = false) ∧ ∀ z, match kvs.lookup z with
      | some p => ∃ (e : DictEntry) (v : V), es.find? (·.key.isStr z) = some e ∧ RelV v e.val ∧ ∀ L H, RP K L H p v
      | none => es.find? (·.key.isStr z) = none) (nr : d.refKey = false) :
    ((d :: es).any (·.refKey) = false) ∧ ∀ z, match ((k, p) :: kvs).lookup z with
      | some p => ∃ (e : DictEntry) (v : V), (d :: es).find? (·.key.isStr z) = some e ∧ RelV v e.val ∧ ∀ L H, RP K L H p v
      | none => (d :: es).find? (·.key.isStr z) = none := by
  refine ⟨by rw [List.any_cons, nr, ih.1]; rfl, fun z => ?_⟩
  by_cases e : z = k
  · subst e
    have e1 : ((z, p) :: kvs).lookup z = some p := by rw [List.lookup_cons]; simp
    rw [e1]
    refine ⟨d, v, ?_, rv, rp⟩
    rw [List.find?_cons_of_pos]
    rw [ek]
    simp [Value.isStr]
  · have e1 : ((k, p) :: kvs).lookup z = kvs.lookup z := by
      rw [List.lookup_cons]
      have : (z == k) = false := by simpa using e
      rw [this]
    have e2 : (d :: es).find? (·.key.isStr z) = es.find? (·.key.isStr z) := by
      rw [List.find?_cons_of_neg]
      rw [ek]
      simp [Value.isStr]
      exact fun q => e q.symm
    rw [e1, e2]
    exact ih.2 z
theorem DE.ok {K : PySem.W.Frag} {es : List DictEntry} {kvs : List (Str × PyData)} (h : DE K es kvs) : (es.any (·.refKey) = false) ∧ ∀ z, match kvs.lookup z with
    | some p => ∃ (e : DictEntry) (v : V), es.find? (·.key.isStr z) = some e ∧ RelV v e.val ∧ ∀ L H, RP K L H p v
    | none => es.find? (·.key.isStr z) = none := by
  induction h with
  | nil => exact ⟨rfl, fun z => rfl⟩
  | int e e2 r ih =>
    subst e e2
    exact de_step rfl (v := .int _) ⟨_, rfl⟩ (fun _ _ => .int _) ih rfl
  | tup e g c r ih =>
    subst e
    simp only [Bool.and_eq_true, decide_eq_true_eq] at c
    obtain ⟨vs, q1, q2⟩ := chkVs_ok (K := K) c.2
    exact de_step rfl (v := .ref _) rfl (fun L H => .tupK ⟨_, _, _, g, rfl, rfl, Nat.le_trans c.1 (by decide), q1⟩ (q2 L H)) ih rfl
theorem dict_mk {K : PySem.W.Frag} {w : World} {nm : Str} {kvs : List (Str × PyData)} {a : Addr} {es : Array DictEntry} {n : Nat} (e : PySem.W.nsIn K mainGlobals nm = some (some (.ref a))) (g : K.lookup a = some ⟨.type "dict", none, .dict es n, #[]⟩)
    (k : PySem.W.KeysLit w.params es.toList) (low : (a == sysModules) = false) (c : DE K es.toList kvs) : DictAt K w nm kvs := by
  refine ⟨a, e, es, n, g, k, low, fun z => ?_⟩
  obtain ⟨q1, q2⟩ := c.ok
  have q := q2 z
  have un : ∀ r, es.toList.find? (·.key.isStr z) = r → PySem.W.nsIn K a z = match r with
      | some e => some (some e.val)
      | none => some none := by
    intro r hr
    unfold PySem.W.nsIn
    rw [g]
    simp only [hr]
    cases r with
    | some e => rfl
    | none => simp only [q1]; rfl
  cases hz : kvs.lookup z with
  | none =>
    rw [hz] at q
    exact un _ q
  | some p =>
    rw [hz] at q
    obtain ⟨d, v, r1, r2, r3⟩ := q
    exact ⟨d.val, v, un _ r1, r2, r3⟩
section
variable {l : PySem.W.OpenLaw} {w : World} {K : PySem.W.Frag} {h : Heap} {mg : Str → Option Value} {fa : Addr}
theorem all_mk {ds : List DR} {cs dn : List Str} {T : Tab} {n i : Nat} {d : DR} {x : Str} (X : K.In h) (G : h.Ns mainGlobals mg) (hfa : mg "law" = some (.ref fa))
    (hck : ∀ d ∈ ds, chkD ⟨ds.map (·.name), cs, dn⟩ d = true) (hd : ∀ d ∈ ds, DefAt K d.name d.st) (hb : ∀ d ∈ ds, BindOk d)
    (hc : ∀ (i : Nat) (x : Str) (p : PyData), cs[i]? = some x → T.consts[i]? = some p → ConstAt K x p)
    (hdd : ∀ (i : Nat) (x : Str), dn[i]? = some x → ∃ kvs, T.dicts[i]? = some kvs ∧ DictAt K w x kvs)
    (hz : ∀ x ∈ bltNames, PySem.W.nsIn K mainGlobals x = some none)
    (hi : ds[i]? = some d) (hn : d.name = "law") (hx : d.N.take d.np = [x])
    (hl : ∀ ns : List Int, ns.length ≤ 63 → ∃ h', callD T (ds.map DR.fd) n i [.fl (ns.map PyData.int)] [] = .ok (.pv (.bool true)) h') :
    ∃ fd : FuncData, (∀ (s : Shared) (v : Value), BindsTo s fd ⟨[v], []⟩ [(x, v)]) ∧ ∀ base : Heap, K.In base → base.Ns mainGlobals mg → FnG l.prog w K mg base CX0 n fa fd [x] (spLaw K) := by
  obtain ⟨f, oc, od, an, sl, kV, dc, pm, cd, ct, a1, l1, c1, k1⟩ := hd d (List.mem_of_getElem? hi)
  have e := hfa.symm.trans (hn ▸ PySem.W.mg_of X G a1)
  cases e
  have hbd := hb d (List.mem_of_getElem? hi)
  refine ⟨PySem.W.fnOf d.name d.name (defArgs d.st) (defBody d.st) (defScope d.st) .none kV dc pm an cd ct, fun s v => .of_eq ?_, fun base Xb Gb => ?_⟩
  · have := hbd kV dc pm an cd ct [v] (by rw [hx]; rfl)
    rw [hx] at this
    exact this
  · have tb := table_ok (P := l.prog) (w := w) (K := K) (mg := mg) (base := base) (T := T) (ds := ds) (cs := cs) (dn := dn) hck ?_ ?_ ?_ ?_ n
    · have := tb.2 i d fa _ hi (hn ▸ hfa) (fun_mk l1 c1 k1)
      rw [hx] at this
      exact law_of this hl
    · intro j d2 hj
      obtain ⟨f, oc, od, an, sl, kV, dc, pm, cd, ct, a1, l1, c1, k1⟩ := hd d2 (List.mem_of_getElem? hj)
      have F := fun_mk l1 c1 k1
      exact ⟨f, _, PySem.W.mg_of X G a1, F, F.binds (ps := d2.N.take d2.np) (hb d2 (List.mem_of_getElem? hj))⟩
    · intro j y p e1 e2
      obtain ⟨u, v, q1, q2, q3⟩ := hc j y p e1 e2
      exact ⟨u, v, PySem.W.mg_of X G q1, q2, q3⟩
    · intro y hy
      exact PySem.W.mg_none_of X G (hz y hy)
    · intro j y e1
      obtain ⟨kvs, e2, a, e3, e4⟩ := hdd j y e1
      exact ⟨a, kvs, PySem.W.mg_of X G e3, e2, e4⟩
end
theorem walk {l : PySem.W.OpenLaw} {q : Program} {loose : List Str} {XP : (Str → Option Value) → Heap → Prop} {YP : World → Heap → Prop} {d : DefRec} {K : Params → PySem.W.Frag} {k : Nat} {x : Str} (hr : RoomG k callerA) (hn : l.most = some 63) (hdf : d.params.defaults = [])
    (hY : ∀ (w : World) (h : Heap), YP w h → (K w.params).In h)
    (F : ∀ (w : World) (mg : Str → Option Value) (fa : Addr) (h : Heap), (K w.params).In h → h.Ns mainGlobals mg → mg d.name = some (.ref fa) →
      ∃ fd : FuncData, (∀ (s : Shared) (u : Value), BindsTo s fd ⟨[u], []⟩ [(x, u)]) ∧ ∀ base : Heap, (K w.params).In base → base.Ns mainGlobals mg → FnG l.prog w (K w.params) mg base CX0 k fa fd [x] (spLaw (K w.params))) :
    PySem.W.WalkO q loose XP YP l.row.toRowW d [] (fun f vs => PySem.call f vs) :=
  walk_g (n := 63) (k := k) (x := x) (sp := fun w => spLaw (K w.params)) hn (by decide) hdf hr hY F (fun w H a ns hl hS => ⟨a, ns, rfl, hS, hl, fun _ => rfl⟩)
end G

set_option Elab.async false
set_option linter.all false
set_option maxRecDepth 100000
/-! GTree: trees written with brackets, their texts, their data. -/
namespace G
open PySem L2 TL
mutual
inductive Tr where
  | w (l : List Nat)
  | n (t : Tr) (ts : Trs)
inductive Trs where
  | nil
  | cons (t : Tr) (ts : Trs)
end
mutual
def Tr.txt : Tr → List Nat
  | .w l => l
  | .n t ts => 40 :: (t.txt ++ (ts.txt ++ [41]))
def Trs.txt : Trs → List Nat
  | .nil => []
  | .cons t ts => 32 :: (t.txt ++ ts.txt)
end
mutual
def Tr.py : Tr → PyData
  | .w l => .str (S l)
  | .n t ts => .list (t.py :: ts.py)
def Trs.py : Trs → List PyData
  | .nil => []
  | .cons t ts => t.py :: ts.py
end
mutual
def Tr.ht : Tr → Nat
  | .w _ => 0
  | .n t ts => max t.ht ts.ht + 1
def Trs.ht : Trs → Nat
  | .nil => 0
  | .cons t ts => max t.ht ts.ht
end
def Trs.len : Trs → Nat
  | .nil => 0
  | .cons _ ts => ts.len + 1
def okc (c : Nat) : Prop := c ≠ 32 ∧ c ≠ 40 ∧ c ≠ 41 ∧ c < 1114112 ∧ c ≠ 10
mutual
def Tr.Wf : Tr → Prop
  | .w l => l ≠ [] ∧ ∀ c ∈ l, okc c
  | .n t ts => t.Wf ∧ ts.Wf
def Trs.Wf : Trs → Prop
  | .nil => True
  | .cons t ts => t.Wf ∧ ts.Wf
end
/-- what may stand behind a tree -/
def Stop (l : List Nat) : Prop := l = [] ∨ ∃ c r, l = c :: r ∧ (c = 32 ∨ c = 40 ∨ c = 41)
theorem strOk_S {l : List Nat} (h : ∀ c ∈ l, c < 1114112) : PyData.strOk (S l) = true := by
  unfold PyData.strOk S
  simp
  skip
  exact h
mutual
theorem Tr.lay : ∀ t : Tr, t.Wf → t.py.canLay0 = true ∧ t.py.depth = t.ht
  | .w l, h => by
    simp only [Tr.Wf] at h
    simp only [Tr.py, PyData.canLay0, PyData.depth, Tr.ht]
    exact ⟨strOk_S fun c hc => (h.2 c hc).2.2.2.1, trivial⟩
  | .n t ts, h => by
    simp only [Tr.Wf] at h
    have h1 := Tr.lay t h.1
    have h2 := Trs.lay ts h.2
    simp only [Tr.py, PyData.canLay0, PyData.canLayAll0, PyData.depth, PyData.depthAll, Tr.ht, h1, h2, Bool.and_self]
    exact ⟨trivial, trivial⟩
theorem Trs.lay : ∀ ts : Trs, ts.Wf → PyData.canLayAll0 ts.py = true ∧ PyData.depthAll ts.py = ts.ht
  | .nil, _ => ⟨rfl, rfl⟩
  | .cons t ts, h => by
    simp only [Trs.Wf] at h
    have h1 := Tr.lay t h.1
    have h2 := Trs.lay ts h.2
    simp only [Trs.py, PyData.canLayAll0, PyData.depthAll, Trs.ht, h1, h2, Bool.and_self]
    exact ⟨trivial, trivial⟩
end
mutual
theorem Tr.head : ∀ t : Tr, t.Wf → ∃ c r, t.txt = c :: r ∧ c ≠ 32 ∧ c ≠ 41
  | .w l, h => by
    simp only [Tr.Wf] at h
    cases l with
    | nil => exact absurd rfl h.1
    | cons c r => exact ⟨c, r, rfl, (h.2 c (List.mem_cons_self ..)).1, (h.2 c (List.mem_cons_self ..)).2.2.1⟩
  | .n t ts, _ => ⟨40, _, rfl, by decide, by decide⟩
end
mutual
theorem Tr.no10 : ∀ t : Tr, t.Wf → 10 ∉ t.txt
  | .w l, h => fun m => by
    simp only [Tr.Wf] at h
    have := (h.2 10 m).2.2.2.2
    exact this rfl
  | .n t ts, h => by
    have h1 := Tr.no10 t h.1
    have h2 := Trs.no10 ts h.2
    simp [Tr.txt, h1, h2]
theorem Trs.no10 : ∀ ts : Trs, ts.Wf → 10 ∉ ts.txt
  | .nil, _ => by simp [Trs.txt]
  | .cons t ts, h => by
    have h1 := Tr.no10 t h.1
    have h2 := Trs.no10 ts h.2
    simp [Trs.txt, h1, h2]
end
theorem drop_app {T a b : List Nat} {i : Nat} (h : T.drop i = a ++ b) : T.drop (i + a.length) = b := by
  rw [← List.drop_drop, h]
  simp
theorem drop_lt {T : List Nat} {i c : Nat} {r : List Nat} (h : T.drop i = c :: r) : i < T.length ∧ T[i]? = some c := by
  have h1 : i < T.length := by
    have := congrArg List.length h
    simp at this
    omega
  refine ⟨h1, ?_⟩
  rw [List.drop_eq_getElem_cons h1] at h
  rw [List.getElem?_eq_getElem h1]
  exact congrArg some (List.cons.inj h).1
theorem drop_tl {T : List Nat} {i c : Nat} {r : List Nat} (h : T.drop i = c :: r) : T.drop (i + 1) = r := by
  rw [← List.drop_drop, h]
  rfl
theorem drop_end {T : List Nat} {i : Nat} (h : T.drop i = []) : T.length ≤ i := by
  have := congrArg List.length h
  simp at this
  omega
theorem Trs.len_le : ∀ ts : Trs, ts.len ≤ ts.txt.length
  | .nil => Nat.zero_le _
  | .cons t ts => by
    have := Trs.len_le ts
    simp [Trs.len, Trs.txt]
    omega
/-- one sign of a text, as a slice -/
theorem sl_one (T : List Nat) (i : Nat) (hT : T.length ≤ sizeLine) (h : EH) : slV (.pv (.str (S T))) (some ((i : Nat) : Int)) (some (((i : Nat) : Int) + 1)) h = oks (S ((T.drop i).take 1)) h := by
  have e : (((i : Nat) : Int) + 1) = ((i + 1 : Nat) : Int) := by simp
  unfold slV
  simp only [S_len, hT, if_true, cut_S, e, HT.sIx_nat]
  by_cases hi : i < T.length
  · rw [Nat.min_eq_left (by omega : i ≤ T.length), Nat.min_eq_left (by omega : i + 1 ≤ T.length)]
    simp
  · rw [Nat.min_eq_right (by omega : T.length ≤ i), Nat.min_eq_right (by omega : T.length ≤ i + 1)]
    rw [List.drop_eq_nil_of_le (by omega : T.length ≤ i)]
    simp
theorem sl_nat (T : List Nat) (i j : Nat) (hT : T.length ≤ sizeLine) (hij : i ≤ j) (hj : j ≤ T.length) (h : EH) : slV (.pv (.str (S T))) (some ((i : Nat) : Int)) (some ((j : Nat) : Int)) h = oks (S ((T.drop i).take (j - i))) h := by
  unfold slV
  simp only [S_len, hT, if_true, cut_S, HT.sIx_nat]
  rw [Nat.min_eq_left (by omega : i ≤ T.length), Nat.min_eq_left hj]
theorem ix_at {T : List Nat} {i c : Nat} (hT : T.length ≤ sizeLine) (hc : T[i]? = some c) (h : EH) : ixV (.pv (.str (S T))) (.pv (.int ((i : Nat) : Int))) h = oks (S [c]) h := by
  unfold ixV
  simp only [S_len, hT, if_true, S_cps, atI_nat hc]
  rfl
end G

set_option Elab.async false
set_option linter.all false
set_option maxRecDepth 100000
/-! GEv: the evaluator's equations, each with its continuation named, so that simp goes step by step. -/
namespace G
open PySem L2 TL
noncomputable section
section
variable (T : Tab) (call : Nat → List EV → EH → R EV)

def kBin2 (o : BOp) (x : EV) : EV → EH → R EV := fun y h => binV o x.settle y.settle h
theorem kBin2_a (o : BOp) (x : EV) (y : EV) (h : EH) : kBin2 o x y h = binV o x.settle y.settle h := rfl
def kBin1 (o : BOp) (b : IE) (e : EEnv) : EV → EH → R EV := fun x h => (den T call b e h).bind (kBin2 o x)
theorem kBin1_a (o : BOp) (b : IE) (e : EEnv) (x : EV) (h : EH) : kBin1 T call o b e x h = (den T call b e h).bind (kBin2 o x) := rfl
def kNeg  : EV → EH → R EV := fun x h => negV x h
theorem kNeg_a  (x : EV) (h : EH) : kNeg  x h = negV x h := rfl
def kNot  : EV → EH → R EV := fun x h => notV x h
theorem kNot_a  (x : EV) (h : EH) : kNot  x h = notV x h := rfl
def kCmp2 (o : COp) (x : EV) : EV → EH → R EV := fun y h => cmpV o x.settle y.settle h
theorem kCmp2_a (o : COp) (x : EV) (y : EV) (h : EH) : kCmp2 o x y h = cmpV o x.settle y.settle h := rfl
def kCmp1 (o : COp) (b : IE) (e : EEnv) : EV → EH → R EV := fun x h => (den T call b e h).bind (kCmp2 o x)
theorem kCmp1_a (o : COp) (b : IE) (e : EEnv) (x : EV) (h : EH) : kCmp1 T call o b e x h = (den T call b e h).bind (kCmp2 o x) := rfl
def kIsN (f : Bool → Bool) : EV → EH → R EV := fun x h => isNV f x h
theorem kIsN_a (f : Bool → Bool) (x : EV) (h : EH) : kIsN f x h = isNV f x h := rfl
def kB  : EV → EH → R Bool := fun x h => asB x h
theorem kB_a  (x : EV) (h : EH) : kB  x h = asB x h := rfl
def kCh4 (p : COp) (y : EV) : EV → EH → R EV := fun w h => cmpV p y.settle w.settle h
theorem kCh4_a (p : COp) (y : EV) (w : EV) (h : EH) : kCh4 p y w h = cmpV p y.settle w.settle h := rfl
def kCh3 (p : COp) (y : EV) (c : IE) (e : EEnv) : Bool → EH → R EV := fun t h => if t = true then (den T call c e h).bind (kCh4 p y) else okb false h
theorem kCh3_a (p : COp) (y : EV) (c : IE) (e : EEnv) (t : Bool) (h : EH) : kCh3 T call p y c e t h = if t = true then (den T call c e h).bind (kCh4 p y) else okb false h := rfl
def kCh2 (o : COp) (p : COp) (x : EV) (c : IE) (e : EEnv) : EV → EH → R EV := fun y h => ((cmpV o x.settle y.settle h).bind kB).bind (kCh3 T call p y c e)
theorem kCh2_a (o : COp) (p : COp) (x : EV) (c : IE) (e : EEnv) (y : EV) (h : EH) : kCh2 T call o p x c e y h = ((cmpV o x.settle y.settle h).bind kB).bind (kCh3 T call p y c e) := rfl
def kCh1 (o : COp) (p : COp) (b : IE) (c : IE) (e : EEnv) : EV → EH → R EV := fun x h => (den T call b e h).bind (kCh2 T call o p x c e)
theorem kCh1_a (o : COp) (p : COp) (b : IE) (c : IE) (e : EEnv) (x : EV) (h : EH) : kCh1 T call o p b c e x h = (den T call b e h).bind (kCh2 T call o p x c e) := rfl
def kIfe (a : IE) (b : IE) (e : EEnv) : Bool → EH → R EV := fun t h => if t = true then den T call a e h else den T call b e h
theorem kIfe_a (a : IE) (b : IE) (e : EEnv) (t : Bool) (h : EH) : kIfe T call a b e t h = if t = true then den T call a e h else den T call b e h := rfl
def kTup  : List PyData → EH → R EV := fun ps h => tupV ps h
theorem kTup_a  (ps : List PyData) (h : EH) : kTup  ps h = tupV ps h := rfl
def kLst  : List PyData → EH → R EV := fun ps h => newLV ps h
theorem kLst_a  (ps : List PyData) (h : EH) : kLst  ps h = newLV ps h := rfl
def kIx2 (x : EV) : EV → EH → R EV := fun y h => ixV x.settle y.settle h
theorem kIx2_a (x : EV) (y : EV) (h : EH) : kIx2 x y h = ixV x.settle y.settle h := rfl
def kIx1 (b : IE) (e : EEnv) : EV → EH → R EV := fun x h => (den T call b e h).bind (kIx2 x)
theorem kIx1_a (b : IE) (e : EEnv) (x : EV) (h : EH) : kIx1 T call b e x h = (den T call b e h).bind (kIx2 x) := rfl
def kSl3 (x : EV) (l : Option Int) : Option Int → EH → R EV := fun u h => slV x.settle l u h
theorem kSl3_a (x : EV) (l : Option Int) (u : Option Int) (h : EH) : kSl3 x l u h = slV x.settle l u h := rfl
def kSl2 (x : EV) (hi : IO) (e : EEnv) : Option Int → EH → R EV := fun l h => (denO T call hi e h).bind (kSl3 x l)
theorem kSl2_a (x : EV) (hi : IO) (e : EEnv) (l : Option Int) (h : EH) : kSl2 T call x hi e l h = (denO T call hi e h).bind (kSl3 x l) := rfl
def kSl1 (lo : IO) (hi : IO) (e : EEnv) : EV → EH → R EV := fun x h => (denO T call lo e h).bind (kSl2 T call x hi e)
theorem kSl1_a (lo : IO) (hi : IO) (e : EEnv) (x : EV) (h : EH) : kSl1 T call lo hi e x h = (denO T call lo e h).bind (kSl2 T call x hi e) := rfl
def kRev  : EV → EH → R EV := fun x h => revV x.settle h
theorem kRev_a  (x : EV) (h : EH) : kRev  x h = revV x.settle h := rfl
def kDl (ks : List (Str × Str)) : EV → EH → R EV := fun x h => dlitV ks x.settle h
theorem kDl_a (ks : List (Str × Str)) (x : EV) (h : EH) : kDl ks x h = dlitV ks x.settle h := rfl
def kDnew (ks : List Str) : List PyData → EH → R EV := fun ps h => dnewV ks ps h
theorem kDnew_a (ks : List Str) (ps : List PyData) (h : EH) : kDnew ks ps h = dnewV ks ps h := rfl
def kDget (k : Str) : EV → EH → R EV := fun x h => dgetV k x h
theorem kDget_a (k : Str) (x : EV) (h : EH) : kDget k x h = dgetV k x h := rfl
def kGdg (kvs : Option (List (Str × PyData))) : EV → EH → R EV := fun x h => gdgetV kvs x.settle h
theorem kGdg_a (kvs : Option (List (Str × PyData))) (x : EV) (h : EH) : kGdg kvs x h = gdgetV kvs x.settle h := rfl
def kGdi (kvs : Option (List (Str × PyData))) : EV → EH → R EV := fun x h => gdinV kvs x.settle h
theorem kGdi_a (kvs : Option (List (Str × PyData))) (x : EV) (h : EH) : kGdi kvs x h = gdinV kvs x.settle h := rfl
def kOwn  : EV → EH → R EV := fun x h => ownV x h
theorem kOwn_a  (x : EV) (h : EH) : kOwn  x h = ownV x h := rfl
def kGg2 (kvs : Option (List (Str × PyData))) (x : EV) : EV → EH → R EV := fun y h => ggetV kvs x.settle y.settle h
theorem kGg2_a (kvs : Option (List (Str × PyData))) (x : EV) (y : EV) (h : EH) : kGg2 kvs x y h = ggetV kvs x.settle y.settle h := rfl
def kGg1 (kvs : Option (List (Str × PyData))) (b : IE) (e : EEnv) : EV → EH → R EV := fun x h => (den T call b e h).bind (kGg2 kvs x)
theorem kGg1_a (kvs : Option (List (Str × PyData))) (b : IE) (e : EEnv) (x : EV) (h : EH) : kGg1 T call kvs b e x h = (den T call b e h).bind (kGg2 kvs x) := rfl
def kRepr  : EV → EH → R EV := fun x h => reprV x.settle h
theorem kRepr_a  (x : EV) (h : EH) : kRepr  x h = reprV x.settle h := rfl
def kMd2 (x : EV) : EV → EH → R EV := fun y h => maxdV x.settle y.settle h
theorem kMd2_a (x : EV) (y : EV) (h : EH) : kMd2 x y h = maxdV x.settle y.settle h := rfl
def kMd1 (b : IE) (e : EEnv) : EV → EH → R EV := fun x h => (den T call b e h).bind (kMd2 x)
theorem kMd1_a (b : IE) (e : EEnv) (x : EV) (h : EH) : kMd1 T call b e x h = (den T call b e h).bind (kMd2 x) := rfl
def kEvery (k : Nat) : EV → EH → R EV := fun x h => everyV k x.settle h
theorem kEvery_a (k : Nat) (x : EV) (h : EH) : kEvery k x h = everyV k x.settle h := rfl
def kLz2 (x : EV) : EV → EH → R EV := fun y h => lzipV x.settle y.settle h
theorem kLz2_a (x : EV) (y : EV) (h : EH) : kLz2 x y h = lzipV x.settle y.settle h := rfl
def kLz1 (b : IE) (e : EEnv) : EV → EH → R EV := fun x h => (den T call b e h).bind (kLz2 x)
theorem kLz1_a (b : IE) (e : EEnv) (x : EV) (h : EH) : kLz1 T call b e x h = (den T call b e h).bind (kLz2 x) := rfl
def kDput2 (k : Str) (p : PyData) (e : EEnv) : EV → EH → RS := fun y h => dputV k p y e h
theorem kDput2_a (k : Str) (p : PyData) (e : EEnv) (y : EV) (h : EH) : kDput2 k p e y h = dputV k p y e h := rfl
def kDput1 (o : IE) (k : Str) (e : EEnv) : PyData → EH → RS := fun p h => (den T call o e h).to e (kDput2 k p e)
theorem kDput1_a (o : IE) (k : Str) (e : EEnv) (p : PyData) (h : EH) : kDput1 T call o k e p h = (den T call o e h).to e (kDput2 k p e) := rfl
def kCall (c : List EV → EH → R EV) : List EV → EH → R EV := fun vs h => c vs h
theorem kCall_a (c : List EV → EH → R EV) (vs : List EV) (h : EH) : kCall c vs h = c vs h := rfl
def kBi (b : BI) : List EV → EH → R EV := fun vs h => biV b vs h
theorem kBi_a (b : BI) (vs : List EV) (h : EH) : kBi b vs h = biV b vs h := rfl
def kBm2 (m : BM) (x : EV) : List EV → EH → R EV := fun vs h => bmV m x.settle vs h
theorem kBm2_a (m : BM) (x : EV) (vs : List EV) (h : EH) : kBm2 m x vs h = bmV m x.settle vs h := rfl
def kBm1 (m : BM) (es : IEs) (e : EEnv) : EV → EH → R EV := fun x h => if recvB m x.settle h = true then (dens T call es e h).bind (kBm2 m x) else .bad
theorem kBm1_a (m : BM) (es : IEs) (e : EEnv) (x : EV) (h : EH) : kBm1 T call m es e x h = if recvB m x.settle h = true then (dens T call es e h).bind (kBm2 m x) else .bad := rfl
def kBm0 (m : BM0) : EV → EH → R EV := fun x h => bm0V m x.settle h
theorem kBm0_a (m : BM0) (x : EV) (h : EH) : kBm0 m x h = bm0V m x.settle h := rfl
def kIsi (ts : List Ty) : EV → EH → R EV := fun x h => isiV ts x.settle h
theorem kIsi_a (ts : List Ty) (x : EV) (h : EH) : kIsi ts x h = isiV ts x.settle h := rfl
def kCompE  : List PyData → EH → R EV := fun ps h => newLV ps h
theorem kCompE_a  (ps : List PyData) (h : EH) : kCompE  ps h = newLV ps h := rfl
def kComp (elt : IE) (tg : IT) (c : IO) (own : List Nat) (e : EEnv) : Walked → EH → R EV := fun w h => (compD (bindT tg) (denC T call c) (den T call elt) w own e w.items h).bind kLst
theorem kComp_a (elt : IE) (tg : IT) (c : IO) (own : List Nat) (e : EEnv) (w : Walked) (h : EH) : kComp T call elt tg c own e w h = (compD (bindT tg) (denC T call c) (den T call elt) w own e w.items h).bind kLst := rfl
def kPart  : EV → EH → R (Option Int) := fun x h => partV x h
theorem kPart_a  (x : EV) (h : EH) : kPart  x h = partV x h := rfl
def kWalk  : EV → EH → R Walked := fun x h => walkV x.settle h
theorem kWalk_a  (x : EV) (h : EH) : kWalk  x h = walkV x.settle h := rfl
def kR1  : EV → EH → R Walked := fun x h => range1V x.settle h
theorem kR1_a  (x : EV) (h : EH) : kR1  x h = range1V x.settle h := rfl
def kR2b (x : EV) : EV → EH → R Walked := fun y h => range2V x.settle y.settle h
theorem kR2b_a (x : EV) (y : EV) (h : EH) : kR2b x y h = range2V x.settle y.settle h := rfl
def kR2 (b : IE) (e : EEnv) : EV → EH → R Walked := fun x h => (den T call b e h).bind (kR2b x)
theorem kR2_a (b : IE) (e : EEnv) (x : EV) (h : EH) : kR2 T call b e x h = (den T call b e h).bind (kR2b x) := rfl
def kZipb (x : EV) : EV → EH → R Walked := fun y h => zipV x.settle y.settle h
theorem kZipb_a (x : EV) (y : EV) (h : EH) : kZipb x y h = zipV x.settle y.settle h := rfl
def kZip (b : IE) (e : EEnv) : EV → EH → R Walked := fun x h => (den T call b e h).bind (kZipb x)
theorem kZip_a (b : IE) (e : EEnv) (x : EV) (h : EH) : kZip T call b e x h = (den T call b e h).bind (kZipb x) := rfl
def kEnum  : EV → EH → R Walked := fun x h => enumV x.settle h
theorem kEnum_a  (x : EV) (h : EH) : kEnum  x h = enumV x.settle h := rfl
def kConsV (x : EV) : List EV → EH → R (List EV) := fun xs h => .ok (x.settle :: xs) h
theorem kConsV_a (x : EV) (xs : List EV) (h : EH) : kConsV x xs h = .ok (x.settle :: xs) h := rfl
def kDens (as : IEs) (e : EEnv) : EV → EH → R (List EV) := fun x h => (dens T call as e h).bind (kConsV x)
theorem kDens_a (as : IEs) (e : EEnv) (x : EV) (h : EH) : kDens T call as e x h = (dens T call as e h).bind (kConsV x) := rfl
def kAnd2 (r : IEs) (e : EEnv) : Bool → EH → R EV := fun t h => if t = true then denAnd T call r e h else okb false h
theorem kAnd2_a (r : IEs) (e : EEnv) (t : Bool) (h : EH) : kAnd2 T call r e t h = if t = true then denAnd T call r e h else okb false h := rfl
def kOr2 (r : IEs) (e : EEnv) : Bool → EH → R EV := fun t h => if t = true then okb true h else denOr T call r e h
theorem kOr2_a (r : IEs) (e : EEnv) (t : Bool) (h : EH) : kOr2 T call r e t h = if t = true then okb true h else denOr T call r e h := rfl
def kConsP (p : PyData) : List PyData → EH → R (List PyData) := fun ps h => .ok (p :: ps) h
theorem kConsP_a (p : PyData) (ps : List PyData) (h : EH) : kConsP p ps h = .ok (p :: ps) h := rfl
def kDenP2 (as : IEs) (e : EEnv) : PyData → EH → R (List PyData) := fun p h => (denP T call as e h).bind (kConsP p)
theorem kDenP2_a (as : IEs) (e : EEnv) (p : PyData) (h : EH) : kDenP2 T call as e p h = (denP T call as e h).bind (kConsP p) := rfl
def kData  : EV → EH → R PyData := fun x h => dataV x h
theorem kData_a  (x : EV) (h : EH) : kData  x h = dataV x h := rfl
def kAsg (i : Nat) (own : Bool) (e : EEnv) : EV → EH → RS := fun x h => storeV i own x e h
theorem kAsg_a (i : Nat) (own : Bool) (e : EEnv) (x : EV) (h : EH) : kAsg i own e x h = storeV i own x e h := rfl
def kAsgT (ts : ITs) (e : EEnv) : EV → EH → RS := fun x h => unpV ts x.settle e h
theorem kAsgT_a (ts : ITs) (e : EEnv) (x : EV) (h : EH) : kAsgT ts e x h = unpV ts x.settle e h := rfl
def kPar2 (i : Nat) (j : Nat) (e : EEnv) (x : EV) : EV → EH → RS := fun y h => .nx ((e.set i (some x.settle)).set j (some y.settle)) h
theorem kPar2_a (i : Nat) (j : Nat) (e : EEnv) (x : EV) (y : EV) (h : EH) : kPar2 i j e x y h = .nx ((e.set i (some x.settle)).set j (some y.settle)) h := rfl
def kPar1 (i : Nat) (j : Nat) (b : IE) (e : EEnv) : EV → EH → RS := fun x h => (den T call b e h).to e (kPar2 i j e x)
theorem kPar1_a (i : Nat) (j : Nat) (b : IE) (e : EEnv) (x : EV) (h : EH) : kPar1 T call i j b e x h = (den T call b e h).to e (kPar2 i j e x) := rfl
def kSet3 (p : PyData) (y : EV) (e : EEnv) : EV → EH → RS := fun z h => setV p y.settle z.settle e h
theorem kSet3_a (p : PyData) (y : EV) (e : EEnv) (z : EV) (h : EH) : kSet3 p y e z h = setV p y.settle z.settle e h := rfl
def kSet2 (p : PyData) (i : IE) (e : EEnv) : EV → EH → RS := fun y h => (den T call i e h).to e (kSet3 p y e)
theorem kSet2_a (p : PyData) (i : IE) (e : EEnv) (y : EV) (h : EH) : kSet2 T call p i e y h = (den T call i e h).to e (kSet3 p y e) := rfl
def kSet1 (o : IE) (i : IE) (e : EEnv) : PyData → EH → RS := fun p h => (den T call o e h).to e (kSet2 T call p i e)
theorem kSet1_a (o : IE) (i : IE) (e : EEnv) (p : PyData) (h : EH) : kSet1 T call o i e p h = (den T call o e h).to e (kSet2 T call p i e) := rfl
def kExp (e : EEnv) : EV → EH → RS := fun x h => .nx e h
theorem kExp_a (e : EEnv) (x : EV) (h : EH) : kExp e x h = .nx e h := rfl
def kRet  : EV → EH → RS := fun x h => .ret x h
theorem kRet_a  (x : EV) (h : EH) : kRet  x h = .ret x h := rfl
def kIf (a : ISs) (b : ISs) (e : EEnv) : Bool → EH → RS := fun t h => if t = true then denSs T call a e h else denSs T call b e h
theorem kIf_a (a : ISs) (b : ISs) (e : EEnv) (t : Bool) (h : EH) : kIf T call a b e t h = if t = true then denSs T call a e h else denSs T call b e h := rfl
def kFor (tg : IT) (b : ISs) (e : EEnv) : Walked → EH → RS := fun w h => forD (bindT tg) (denSs T call b) w w.items e h
theorem kFor_a (tg : IT) (b : ISs) (e : EEnv) (w : Walked) (h : EH) : kFor T call tg b e w h = forD (bindT tg) (denSs T call b) w w.items e h := rfl
def kCond (c : IE) : EEnv → EH → R Bool := fun e h => (den T call c e h).bind kB
theorem kCond_a (c : IE) (e : EEnv) (h : EH) : kCond T call c e h = (den T call c e h).bind kB := rfl
def kSs (r : ISs) : EEnv → EH → RS := fun e h => denSs T call r e h
theorem kSs_a (r : ISs) (e : EEnv) (h : EH) : kSs T call r e h = denSs T call r e h := rfl
theorem e_var (i : Nat) (e : EEnv) (h : EH) : den T call (.var i) e h = varV e i h := rfl
theorem e_lit (p : PyData) (e : EEnv) (h : EH) : den T call (.lit p) e h = .ok (.pv p) h := rfl
theorem e_glob (k : Nat) (e : EEnv) (h : EH) : den T call (.glob k) e h = (match T.consts[k]? with | some p => .ok (.pv p) h | none => .bad) := rfl
theorem e_bin (o : BOp) (a b : IE) (e : EEnv) (h : EH) : den T call (.bin o a b) e h = (den T call a e h).bind (kBin1 T call o b e) := rfl
theorem e_neg (a : IE) (e : EEnv) (h : EH) : den T call (.neg a) e h = (den T call a e h).bind kNeg := rfl
theorem e_not (a : IE) (e : EEnv) (h : EH) : den T call (.not a) e h = (den T call a e h).bind kNot := rfl
theorem e_cmp (o : COp) (a b : IE) (e : EEnv) (h : EH) : den T call (.cmp o a b) e h = (den T call a e h).bind (kCmp1 T call o b e) := rfl
theorem e_isN (a : IE) (e : EEnv) (h : EH) : den T call (.isN a) e h = (den T call a e h).bind (kIsN id) := rfl
theorem e_notN (a : IE) (e : EEnv) (h : EH) : den T call (.notN a) e h = (den T call a e h).bind (kIsN not) := rfl
theorem e_chain (o p : COp) (a b c : IE) (e : EEnv) (h : EH) : den T call (.chain o p a b c) e h = (den T call a e h).bind (kCh1 T call o p b c e) := by
  show (den T call a e h).bind (fun x h => (den T call b e h).bind fun y h => (cmpV o x.settle y.settle h).bind fun z h => (asB z h).bind fun t h => _) = _
  cases den T call a e h with
  | ok x h1 =>
    show (den T call b e h1).bind (fun y h => (cmpV o x.settle y.settle h).bind fun z h => (asB z h).bind fun t h => _) = (den T call b e h1).bind _
    cases den T call b e h1 with
    | ok y h2 =>
      show (cmpV o x.settle y.settle h2).bind (fun z h => (asB z h).bind fun t h => _) = ((cmpV o x.settle y.settle h2).bind kB).bind _
      cases cmpV o x.settle y.settle h2 <;> rfl
    | exc => rfl
    | bad => rfl
  | exc => rfl
  | bad => rfl
theorem e_and (es : IEs) (e : EEnv) (h : EH) : den T call (.and es) e h = denAnd T call es e h := rfl
theorem e_or (es : IEs) (e : EEnv) (h : EH) : den T call (.or es) e h = denOr T call es e h := rfl
theorem e_ife (c a b : IE) (e : EEnv) (h : EH) : den T call (.ife c a b) e h = ((den T call c e h).bind kB).bind (kIfe T call a b e) := by show (den T call c e h).bind (fun x h => (asB x h).bind _) = _; cases den T call c e h <;> rfl
theorem e_tup (es : IEs) (e : EEnv) (h : EH) : den T call (.tup es) e h = (denP T call es e h).bind kTup := rfl
theorem e_lst (es : IEs) (e : EEnv) (h : EH) : den T call (.lst es) e h = (denP T call es e h).bind kLst := rfl
theorem e_ix (a b : IE) (e : EEnv) (h : EH) : den T call (.ix a b) e h = (den T call a e h).bind (kIx1 T call b e) := rfl
theorem e_sl (a : IE) (lo hi : IO) (e : EEnv) (h : EH) : den T call (.sl a lo hi) e h = (den T call a e h).bind (kSl1 T call lo hi e) := rfl
theorem e_rev (a : IE) (e : EEnv) (h : EH) : den T call (.rev a) e h = (den T call a e h).bind kRev := rfl
theorem e_dlit (ks : List (Str × Str)) (a : IE) (e : EEnv) (h : EH) : den T call (.dlit ks a) e h = (den T call a e h).bind (kDl ks) := rfl
theorem e_dnew (ks : List Str) (es : IEs) (e : EEnv) (h : EH) : den T call (.dnew ks es) e h = (denP T call es e h).bind (kDnew ks) := rfl
theorem e_dget (a : IE) (k : Str) (e : EEnv) (h : EH) : den T call (.dget a k) e h = (den T call a e h).bind (kDget k) := rfl
theorem e_gdget (d : Nat) (a : IE) (e : EEnv) (h : EH) : den T call (.gdget d a) e h = (den T call a e h).bind (kGdg T.dicts[d]?) := rfl
theorem e_gdin (d : Nat) (a : IE) (e : EEnv) (h : EH) : den T call (.gdin d a) e h = (den T call a e h).bind (kGdi T.dicts[d]?) := rfl
theorem e_gget (d : Nat) (a b : IE) (e : EEnv) (h : EH) : den T call (.gget d a b) e h = (den T call a e h).bind (kGg1 T call T.dicts[d]? b e) := rfl
theorem e_repr (a : IE) (e : EEnv) (h : EH) : den T call (.repr a) e h = (den T call a e h).bind kRepr := rfl
theorem e_maxd (a b : IE) (e : EEnv) (h : EH) : den T call (.maxd a b) e h = (den T call a e h).bind (kMd1 T call b e) := rfl
theorem e_every (k : Nat) (a : IE) (e : EEnv) (h : EH) : den T call (.every k a) e h = (den T call a e h).bind (kEvery k) := rfl
theorem e_lzip (a b : IE) (e : EEnv) (h : EH) : den T call (.lzip a b) e h = (den T call a e h).bind (kLz1 T call b e) := rfl
theorem e_own (a : IE) (e : EEnv) (h : EH) : den T call (.own a) e h = (den T call a e h).bind kOwn := rfl
theorem e_call (f : Nat) (es : IEs) (e : EEnv) (h : EH) : den T call (.call f es) e h = (dens T call es e h).bind (kCall (call f)) := rfl
theorem e_bi (b : BI) (es : IEs) (e : EEnv) (h : EH) : den T call (.bi b es) e h = (dens T call es e h).bind (kBi b) := rfl
theorem e_bm (m : BM) (o : IE) (es : IEs) (e : EEnv) (h : EH) : den T call (.bm m o es) e h = (den T call o e h).bind (kBm1 T call m es e) := rfl
theorem e_bm0 (m : BM0) (o : IE) (e : EEnv) (h : EH) : den T call (.bm0 m o) e h = (den T call o e h).bind (kBm0 m) := rfl
theorem e_isi (a : IE) (ts : List Ty) (e : EEnv) (h : EH) : den T call (.isi a ts) e h = (den T call a e h).bind (kIsi ts) := rfl
theorem e_comp (elt : IE) (tg : IT) (it : IW) (c : IO) (own : List Nat) (e : EEnv) (h : EH) : den T call (.comp elt tg it c own) e h = (denW T call it e h).bind (kComp T call elt tg c own e) := rfl
theorem e_Ono  (e : EEnv) (h : EH) : denO T call .no e h = .ok none h := rfl
theorem e_Oyes (a : IE) (e : EEnv) (h : EH) : denO T call (.yes a) e h = (den T call a e h).bind kPart := rfl
theorem e_Cno  (e : EEnv) (h : EH) : denC T call .no e h = .ok true h := rfl
theorem e_Cyes (a : IE) (e : EEnv) (h : EH) : denC T call (.yes a) e h = (den T call a e h).bind kB := rfl
theorem e_Wseq (a : IE) (e : EEnv) (h : EH) : denW T call (.seq a) e h = (den T call a e h).bind kWalk := rfl
theorem e_Wr1 (a : IE) (e : EEnv) (h : EH) : denW T call (.range1 a) e h = (den T call a e h).bind kR1 := rfl
theorem e_Wr2 (a b : IE) (e : EEnv) (h : EH) : denW T call (.range2 a b) e h = (den T call a e h).bind (kR2 T call b e) := rfl
theorem e_Wzip (a b : IE) (e : EEnv) (h : EH) : denW T call (.zip a b) e h = (den T call a e h).bind (kZip T call b e) := rfl
theorem e_Wenum (a : IE) (e : EEnv) (h : EH) : denW T call (.enum a) e h = (den T call a e h).bind kEnum := rfl
theorem e_snil  (e : EEnv) (h : EH) : dens T call .nil e h = .ok [] h := rfl
theorem e_scons (a : IE) (as : IEs) (e : EEnv) (h : EH) : dens T call (.cons a as) e h = (den T call a e h).bind (kDens T call as e) := rfl
theorem e_and1 (a : IE) (e : EEnv) (h : EH) : denAnd T call (.cons a .nil) e h = den T call a e h := rfl
theorem e_and2 (a b : IE) (r : IEs) (e : EEnv) (h : EH) : denAnd T call (.cons a (.cons b r)) e h = ((den T call a e h).bind kB).bind (kAnd2 T call (.cons b r) e) := by show (den T call a e h).bind (fun x h => (asB x h).bind _) = _; cases den T call a e h <;> rfl
theorem e_or1 (a : IE) (e : EEnv) (h : EH) : denOr T call (.cons a .nil) e h = den T call a e h := rfl
theorem e_or2 (a b : IE) (r : IEs) (e : EEnv) (h : EH) : denOr T call (.cons a (.cons b r)) e h = ((den T call a e h).bind kB).bind (kOr2 T call (.cons b r) e) := by show (den T call a e h).bind (fun x h => (asB x h).bind _) = _; cases den T call a e h <;> rfl
theorem e_pnil  (e : EEnv) (h : EH) : denP T call .nil e h = .ok [] h := rfl
theorem e_pcons (a : IE) (as : IEs) (e : EEnv) (h : EH) : denP T call (.cons a as) e h = ((den T call a e h).bind kData).bind (kDenP2 T call as e) := by show (den T call a e h).bind (fun x h => (dataV x h).bind _) = _; cases den T call a e h <;> rfl
theorem e_Sasg (i : Nat) (own : Bool) (a : IE) (e : EEnv) (h : EH) : denS T call (.asg i own a) e h = (den T call a e h).to e (kAsg i own e) := rfl
theorem e_SasgT (ts : ITs) (a : IE) (e : EEnv) (h : EH) : denS T call (.asgT ts a) e h = (den T call a e h).to e (kAsgT ts e) := rfl
theorem e_Spar2 (i j : Nat) (a b : IE) (e : EEnv) (h : EH) : denS T call (.par2 i j a b) e h = (den T call a e h).to e (kPar1 T call i j b e) := rfl
theorem e_Ssetix (o i v : IE) (e : EEnv) (h : EH) : denS T call (.setix o i v) e h = ((den T call v e h).bind kData).to e (kSet1 T call o i e) := by show (den T call v e h).to e (fun x h => (dataV x h).to e _) = _; cases den T call v e h <;> first | rfl | (rename_i x h1; show (dataV x h1).to e _ = (dataV x h1).to e _; rfl)
theorem e_Sdput (o : IE) (k : Str) (v : IE) (e : EEnv) (h : EH) : denS T call (.dput o k v) e h = ((den T call v e h).bind kData).to e (kDput1 T call o k e) := by show (den T call v e h).to e (fun x h => (dataV x h).to e _) = _; cases den T call v e h <;> first | rfl | (rename_i x h1; show (dataV x h1).to e _ = (dataV x h1).to e _; rfl)
theorem e_Sexp (a : IE) (e : EEnv) (h : EH) : denS T call (.exp a) e h = (den T call a e h).to e (kExp e) := rfl
theorem e_Sret (a : IE) (e : EEnv) (h : EH) : denS T call (.ret a) e h = (den T call a e h).to e kRet := rfl
theorem e_SretN  (e : EEnv) (h : EH) : denS T call .retN e h = .ret (.pv .none) h := rfl
theorem e_Spass  (e : EEnv) (h : EH) : denS T call .pass e h = .nx e h := rfl
theorem e_Sbrk  (e : EEnv) (h : EH) : denS T call .brk e h = .brk e h := rfl
theorem e_Siff (c : IE) (a b : ISs) (e : EEnv) (h : EH) : denS T call (.iff c a b) e h = ((den T call c e h).bind kB).to e (kIf T call a b e) := rfl
theorem e_Sfor (tg : IT) (it : IW) (b : ISs) (e : EEnv) (h : EH) : denS T call (.for_ tg it b) e h = (denW T call it e h).to e (kFor T call tg b e) := rfl
theorem e_Swhile (c : IE) (b : ISs) (e : EEnv) (h : EH) : denS T call (.while_ c b) e h = whileD (kCond T call c) (denSs T call b) T.wf e h := rfl
theorem e_Stry (b : ISs) (e : EEnv) (h : EH) : denS T call (.try_ b) e h = denSs T call b e h := rfl
theorem e_Sraise  (e : EEnv) (h : EH) : denS T call .raise e h = .bad := rfl
theorem e_Ssnil  (e : EEnv) (h : EH) : denSs T call .nil e h = .nx e h := rfl
theorem e_Sscons (s : IS) (r : ISs) (e : EEnv) (h : EH) : denSs T call (.cons s r) e h = (denS T call s e h).bind (kSs T call r) := rfl
end
end
end G

set_option Elab.async false
set_option linter.all false
set_option maxRecDepth 100000
/-! GRl: how long what repr shows may be. -/
namespace G
open PySem L2 TL
mutual
def rz : PyData → Nat
  | .none => 4
  | .bool _ => 5
  | .int i => ((toString i : String) : Str).length
  | .str x => 10 * x.length + 2
  | .list xs => rzs xs + 2
  | .tuple xs => rzs xs + 3
  | .dict _ => 0
def rzs : List PyData → Nat
  | [] => 0
  | x :: xs => rz x + 2 + rzs xs
end
theorem from_le : ∀ (ts : List Str) (k : Nat) (acc : Str), (textFrom k acc ts).length ≤ acc.length + piled ts
  | [], _, _ => by simp [textFrom, piled]
  | t :: ts, k, acc => by
    have ih := from_le ts (k + 1) (acc ++ (if k > 0 then ", " else "" : String) ++ t)
    rw [strLen_append, strLen_append] at ih
    have e : (((if k > 0 then ", " else "" : String)) : Str).length ≤ 2 := by split <;> decide
    rw [piled_cons]
    show (textFrom (k + 1) _ ts).length ≤ _
    omega
theorem list_le (ts : List Str) : (listText ts).length ≤ piled ts + 2 := by
  unfold listText
  have := from_le ts 0 "["
  rw [strLen_append]
  have e1 : (("[" : String) : Str).length = 1 := rfl
  have e2 : (("]" : String) : Str).length = 1 := rfl
  omega
theorem tuple_le (ts : List Str) : (tupleText ts).length ≤ piled ts + 3 := by
  unfold tupleText
  rw [strLen_append, strLen_append]
  have e1 : (("(" : String) : Str).length = 1 := rfl
  have e2 : (((if ts.length == 1 then ",)" else ")" : String)) : Str).length ≤ 2 := by split <;> decide
  have e3 : (Str.join ", " ts).length ≤ piled ts := by
    by_cases h : ts = []
    · subst h; decide
    · have := join_length_add ts h
      omega
  omega
mutual
theorem shown_le : ∀ p : PyData, p.canLay0 = true → p.shown.length ≤ rz p
  | .none, _ => by simp only [PyData.shown, rz]; decide
  | .bool b, _ => by cases b <;> simp only [PyData.shown, rz] <;> decide
  | .int i, _ => by simp only [PyData.shown, rz]; exact Nat.le_refl _
  | .str x, h => by
    simp only [PyData.shown, rz]
    refine StrLaws.reprText_len x fun c hc => ?_
    simp only [PyData.canLay0, PyData.strOk] at h
    rw [← Array.all_toList, List.all_eq_true] at h
    have := h c hc
    simp at this
    omega
  | .list xs, h => by
    simp only [PyData.shown, rz]
    simp only [PyData.canLay0] at h
    have := list_le (PyData.shownAll xs)
    have := shownAll_le xs h
    omega
  | .tuple xs, h => by
    simp only [PyData.shown, rz]
    simp only [PyData.canLay0] at h
    have := tuple_le (PyData.shownAll xs)
    have := shownAll_le xs h
    omega
  | .dict _, h => by simp [PyData.canLay0] at h
theorem shownAll_le : ∀ ps : List PyData, PyData.canLayAll0 ps = true → piled (PyData.shownAll ps) ≤ rzs ps
  | [], _ => by simp [PyData.shownAll, piled, rzs]
  | p :: ps, h => by
    simp only [PyData.canLayAll0, Bool.and_eq_true] at h
    have h1 := shown_le p h.1
    have h2 := shownAll_le ps h.2
    simp only [PyData.shownAll, piled_cons, rzs]
    omega
end
theorem repr_ok {p : PyData} (h : EH) (hl : p.canLay0 = true) (hs : p.showable = true) (hd : p.depth ≤ 60) (hz : rz p ≤ 16777216) : reprP p h = oks p.shown h := by
  unfold reprP
  have := shown_le p hl
  rw [if_pos ⟨hs, hd, by rw [size_eq]; omega⟩]
theorem int_rz {i : Nat} (h : i < 1000000) : rz (.int (i : Nat)) ≤ 6 := by
  simp only [rz]
  have e : ((toString ((i : Nat) : Int) : String) : Str) = S (numL i) := num_S i
  rw [e, S_len]
  exact numL_len (by decide) h
theorem int_show {i : Nat} (h : i < 1000000) : PyData.showable (.int (i : Nat)) = true := by
  simp only [PyData.showable, decide_eq_true_eq]
  have : (i : Int).natAbs = i := rfl
  rw [this]
  exact Nat.lt_of_le_of_lt (Nat.log2_le_self i |> fun _ => (show Nat.log2 i ≤ 20 from by
    rcases Nat.eq_zero_or_pos i with z | z
    · subst z; decide
    · exact Nat.le_of_lt_succ ((Nat.log2_lt (by omega)).mpr (by omega)))) (by decide)
theorem ints_ok : ∀ ns : List Nat, (∀ n ∈ ns, n < 1000000) → PyData.canLayAll0 (ns.map fun n => .int (n : Nat)) = true ∧ PyData.showableAll (ns.map fun n => .int (n : Nat)) = true ∧ PyData.depthAll (ns.map fun n => .int (n : Nat)) = 0 ∧ rzs (ns.map fun n => .int (n : Nat)) ≤ 8 * ns.length
  | [], _ => by simp [PyData.canLayAll0, PyData.showableAll, PyData.depthAll, rzs]
  | n :: ns, h => by
    obtain ⟨h1, h2, h3, h4⟩ := ints_ok ns fun m hm => h m (List.mem_cons_of_mem _ hm)
    have g := h n (List.mem_cons_self ..)
    have k1 := int_rz g
    have k2 := int_show g
    simp only [List.map_cons, PyData.canLayAll0, PyData.canLay0, PyData.showableAll, PyData.depthAll, PyData.depth, rzs, h1, h2, h3, k2, Bool.and_self, List.length_cons]
    refine ⟨trivial, trivial, rfl, by omega⟩
theorem repr_ints (h : EH) (ns : List Nat) (hn : ∀ n ∈ ns, n < 1000000) (hl : ns.length ≤ 1000000) : reprP (.list (ns.map fun n => .int (n : Nat))) h = oks (PyData.list (ns.map fun n => .int (n : Nat))).shown h := by
  obtain ⟨h1, h2, h3, h4⟩ := ints_ok ns hn
  refine repr_ok h (by simp only [PyData.canLay0]; exact h1) (by simp only [PyData.showable]; exact h2) (by simp only [PyData.depth, h3]; omega) (by simp only [rz]; omega)
theorem repr_int (h : EH) {i : Nat} (hi : i < 1000000) : reprP (.int (i : Nat)) h = oks (PyData.int (i : Nat)).shown h :=
  repr_ok h (by simp only [PyData.canLay0]) (int_show hi) (by simp only [PyData.depth]; omega) (by have := int_rz hi; omega)
/-- the greatest of a list of numbers -/
theorem maxL_nat : ∀ ns : List Nat, 0 < ns.length → maxL (ns.map fun n => ((n : Nat) : Int)) = ((ns.foldr max 0 : Nat) : Int)
  | [n], _ => by simp [maxL]
  | n :: m :: ns, _ => by
    have ih := maxL_nat (m :: ns) (by simp)
    simp only [List.map_cons, maxL, List.foldr_cons] at ih ⊢
    rw [ih]
    omega
theorem intsOf_nat : ∀ ns : List Nat, intsOf (ns.map fun n => PyData.int (n : Nat)) = some (ns.map fun n => ((n : Nat) : Int))
  | [] => rfl
  | n :: ns => by simp [intsOf, intsOf_nat ns]
/-- a comprehension over what stays -/
theorem compD_mapS {bnd : PyData → EEnv → Option EEnv} {elt : EEnv → EH → R EV} {w : Walked} {own : List Nat} {e : EEnv} {h : EH} (hw : w.still h) (f : PyData → PyData) :
    ∀ (xs : List PyData), (∀ x ∈ xs, ∃ e1, bnd x (wipeE e own) = some e1 ∧ elt e1 h = .ok (.pv (f x)) h) → compD bnd (fun _ h => .ok true h) elt w own e xs h = .ok (xs.map f) h
  | [], _ => by unfold compD; rw [if_pos hw]; rfl
  | x :: xs, g => by
    obtain ⟨e1, b1, b2⟩ := g x (List.mem_cons_self ..)
    have ih := compD_mapS (own := own) (e := e) hw f xs (fun y hy => g y (List.mem_cons_of_mem _ hy))
    unfold compD
    rw [if_pos hw]
    simp only [b1, R.bind_ok, b2, dataV, toP, ih, if_true, List.map_cons]
theorem compD_nil {bnd : PyData → EEnv → Option EEnv} {cond : EEnv → EH → R Bool} {elt : EEnv → EH → R EV} {w : Walked} {own : List Nat} {e : EEnv} {h : EH} (hw : w.still h) : compD bnd cond elt w own e [] h = .ok [] h := by
  unfold compD
  rw [if_pos hw]
theorem compD_cons {bnd : PyData → EEnv → Option EEnv} {elt : EEnv → EH → R EV} {w : Walked} {own : List Nat} {e e1 : EEnv} {h h1 h2 h3 : EH} {x p : PyData} {xs ps : List PyData} {v : EV} (hw : w.still h) (hb : bnd x (wipeE e own) = some e1) (he : elt e1 h = .ok v h1)
    (hd : dataV v h1 = .ok p h2) (hr : compD bnd (fun _ h => .ok true h) elt w own e xs h2 = .ok ps h3) : compD bnd (fun _ h => .ok true h) elt w own e (x :: xs) h = .ok (p :: ps) h3 := by
  conv => lhs; unfold compD
  rw [if_pos hw]
  simp only [hb, R.bind_ok, he, hd, hr, if_true]
/-- .. with a test -/
theorem compD_filS {bnd : PyData → EEnv → Option EEnv} {cond : EEnv → EH → R Bool} {elt : EEnv → EH → R EV} {w : Walked} {own : List Nat} {e : EEnv} {h : EH} (hw : w.still h) (c : PyData → Bool) (f : PyData → PyData) :
    ∀ (xs : List PyData), (∀ x ∈ xs, ∃ e1, bnd x (wipeE e own) = some e1 ∧ cond e1 h = .ok (c x) h ∧ (c x = true → elt e1 h = .ok (.pv (f x)) h)) → compD bnd cond elt w own e xs h = .ok ((xs.filter c).map f) h
  | [], _ => by unfold compD; rw [if_pos hw]; rfl
  | x :: xs, g => by
    obtain ⟨e1, b1, b2, b3⟩ := g x (List.mem_cons_self ..)
    have ih := compD_filS (own := own) (e := e) hw c f xs (fun y hy => g y (List.mem_cons_of_mem _ hy))
    unfold compD
    rw [if_pos hw]
    cases hc : c x with
    | true => simp only [b1, R.bind_ok, b2, hc, if_true, b3 hc, dataV, toP, ih, List.filter_cons_of_pos, List.map_cons]
    | false =>
      rw [List.filter_cons_of_neg (by rw [hc]; decide)]
      simp only [b1, R.bind_ok, b2, hc, Bool.false_eq_true, if_false, ih]
end G

set_option Elab.async false
set_option linter.all false
set_option maxRecDepth 100000
/-! GDraw: plain laws for drawn texts. -/
namespace G
open PySem L2 TL
theorem join_letters (cs : List Nat) : Txt.join (S []) (cs.map fun c => S [c]) = S cs := by
  rw [TL.join_eq]
  apply ext_tl
  rw [tl_join]
  show joinL [] ((cs.map fun c => S [c]).map tl) = cs
  have e : (cs.map fun c => S [c]).map tl = cs.map fun c => [c] := by
    rw [List.map_map]
    rfl
  rw [e]
  clear e
  induction cs with
  | nil => rfl
  | cons c cs ih =>
    cases cs with
    | nil => rfl
    | cons d cs =>
      have := ih
      simp [joinL] at this ⊢
      exact this
theorem strsOf_letters : ∀ cs : List Nat, strsOf (cs.map fun c => PyData.str (S [c])) = some (cs.map fun c => S [c])
  | [] => rfl
  | c :: cs => by simp [strsOf, strsOf_letters cs]
theorem sum_letters : ∀ cs : List Nat, ((cs.map fun c => S [c]).map (·.length)).sum = cs.length
  | [] => rfl
  | c :: cs => by
    have := sum_letters cs
    simp only [List.map_cons, List.sum_cons, this, S_len, List.length_cons, List.length_nil]
    omega
theorem abc_at (d : Int) (h0 : 0 ≤ d) (h1 : d < 26) : atI [97, 98, 99, 100, 101, 102, 103, 104, 105, 106, 107, 108, 109, 110, 111, 112, 113, 114, 115, 116, 117, 118, 119, 120, 121, 122] d = some (97 + d.toNat) := by
  have q : ∀ k : Nat, k < 26 → atI [97, 98, 99, 100, 101, 102, 103, 104, 105, 106, 107, 108, 109, 110, 111, 112, 113, 114, 115, 116, 117, 118, 119, 120, 121, 122] ((k : Nat) : Int) = some (97 + k) := by decide +kernel
  have := q d.toNat (by omega)
  rw [Int.toNat_of_nonneg h0] at this
  exact this
theorem rangeP_get {lo : Int} {n j : Nat} {x : PyData} (h : (rangeP lo n)[j]? = some x) : x = .int (lo + j) ∧ j < n := by
  unfold rangeP at h
  rw [List.getElem?_map] at h
  by_cases hj : j < n
  · rw [List.getElem?_range hj] at h
    exact ⟨(Option.some.inj h).symm, hj⟩
  · rw [List.getElem?_eq_none (by simp; omega)] at h
    cases h
theorem range_len (lo : Int) (n : Nat) : (rangeP lo n).length = n := by simp [rangeP]
theorem range1_ok (z : Int) (h0 : -4611686018427387904 ≤ z) (h1 : z < 4611686018427387904) (h : EH) : range1V (.pv (.int z)) h = .ok ⟨rangeP 0 z.toNat, none⟩ h := by
  simp [range1V, h0, h1]
theorem range1_k (k : Nat) (hk : k < 1000000) (h : EH) : range1V (.pv (.int (k : Int))) h = .ok ⟨rangeP 0 k, none⟩ h := by
  rw [range1_ok (k : Int) (by omega) (by omega) h, Int.toNat_natCast]
/-- small letters -/
def Lc (l : List Nat) : Prop := ∀ c ∈ l, 97 ≤ c ∧ c ≤ 122
theorem Lc.app {a b : List Nat} (h : Lc a) (g : Lc b) : Lc (a ++ b) := fun c hc => (List.mem_append.mp hc).elim (h c) (g c)
theorem sl_any (l : List Nat) (lo hi : Option Int) (h : EH) (hl : l.length ≤ 16777216) (g : Lc l) : ∃ m : List Nat, slV (.pv (.str (S l))) lo hi h = oks (S m) h ∧ m.length ≤ l.length ∧ Lc m := by
  have hl2 : l.length ≤ sizeLine := by rw [size_eq]; exact hl
  refine ⟨List.take (HT.sIx l.length l.length hi - HT.sIx l.length 0 lo) (List.drop (HT.sIx l.length 0 lo) l), by unfold slV; simp only [S_len, hl2, if_true, cut_S], ?_, fun c hc => ?_⟩
  · rw [List.length_take, List.length_drop]; omega
  · exact g c (List.mem_of_mem_drop (List.mem_of_mem_take hc))
/-- the kept words -/
def keptL : List (List Nat) := [[110, 117, 109], [114, 111, 119], [107, 105, 110, 100], [100, 101, 102], [109, 111, 114, 101], [102, 105, 114, 115, 116], [111, 116, 104, 101, 114, 115], [108, 111, 110, 103], [109, 97, 116, 99, 104], [105, 102], [108, 101, 116], [102, 111, 108, 100], [99, 97, 108, 108], [103, 97, 112], [105, 110], [119, 111, 114, 108, 100], [102, 97, 117, 108, 116], [108, 101, 102, 116]]
def keptP : List PyData := keptL.map fun y => .str (S y)
theorem kept_in (l : List Nat) (h : EH) : G.inV (.pv (.str (S l))) (.pv (.list keptP)) h id = okb (decide (l ∈ keptL)) h := inV_strs l keptL _ h id rfl (by intro z e; cases e)
theorem atI_m1l (xs : List PyData) (x : PyData) : atI (xs ++ [x]) (-1) = some x := by
  have e : ixN (xs ++ [x]).length (-1) = some xs.length := by
    unfold ixN
    rw [if_neg (by decide), if_pos (by simp; omega)]
    simp
    omega
  unfold atI
  rw [e]
  simp
theorem atI_m2l (xs : List PyData) (x y : PyData) : atI (xs ++ [x, y]) (-2) = some x := by
  have e : ixN (xs ++ [x, y]).length (-2) = some xs.length := by
    unfold ixN
    rw [if_neg (by decide), if_pos (by simp; omega)]
    simp
    omega
  unfold atI
  rw [e]
  simp
theorem ixN_m1 {n : Nat} (h : 0 < n) : ixN n (-1) = some (n - 1) := by
  unfold ixN
  rw [if_neg (by decide), if_pos (by omega)]
  congr 1
  omega
end G

set_option Elab.async false
set_option linter.all false
set_option maxRecDepth 100000
namespace K
open PySem PySem.Spec PyProof.Rows L2 G
def top (i : Nat) : Stmt := PySem.Challenge.pw_gapwork_k01_names_and_deep_kinds.main.body.getD i (.Pass ⟨0, 0, 0, 0⟩)
abbrev f_is_name : Nat := 0
abbrev f_kind_deep : Nat := 1
abbrev f__law_feed : Nat := 2
abbrev f__law_take : Nat := 3
abbrev f__law_kept : Nat := 4
abbrev f__law_sign : Nat := 5
abbrev f__law_near : Nat := 6
abbrev f__law_letters : Nat := 7
abbrev f__law_text : Nat := 8
abbrev f__law_name_due : Nat := 9
abbrev f__law_kind : Nat := 10
abbrev f__law_right : Nat := 11
abbrev f_law : Nat := 12
abbrev c_WIDE : Nat := 0
abbrev c_LETTERS : Nat := 1
abbrev c_MOST_SIGNS : Nat := 2
abbrev c_KEPT : Nat := 3
abbrev c_KEPT_MORE : Nat := 4
def x_is_name_0 : IE := (.cmp .isin (.var 1) (.glob c_LETTERS))
def b_is_name : ISs := (.cons (.iff (.or (.cons (.cmp .lt (.bi .len (.cons (.var 0) .nil)) (.lit (.int 1))) (.cons (.cmp .gt (.bi .len (.cons (.var 0) .nil)) (.glob c_MOST_SIGNS)) (.cons (.cmp .isin (.var 0) (.bin .add (.glob c_KEPT) (.glob c_KEPT_MORE))) .nil)))) (.cons (.ret (.lit (.bool false))) .nil) .nil) (.cons (.ret (.bi .all (.cons (.comp x_is_name_0 (.nm 1) (.seq (.var 0)) .no [1]) .nil))) .nil))
def d_is_name : DR := ⟨"is_name", top 6, ["text", "sign"], 1, b_is_name⟩
def b_kind_deep : ISs := (.cons (.iff (.and (.cons (.isi (.var 0) [.tup]) (.cons (.cmp .eq (.ix (.var 0) (.lit (.int 0))) (.lit (.str (S [114, 111, 119])))) .nil))) (.cons (.ret (.bin .add (.lit (.int 1)) (.call f_kind_deep (.cons (.ix (.var 0) (.lit (.int 1))) .nil)))) .nil) .nil) (.cons (.ret (.lit (.int 0))) .nil))
def d_kind_deep : DR := ⟨"kind_deep", top 8, ["kind"], 1, b_kind_deep⟩
def b__law_feed : ISs := (.cons (.asg 2 false (.bin .add (.bin .mul (.lit (.int 7919)) (.var 1)) (.lit (.int 24691)))) (.cons (.iff (.cmp .lt (.var 1) (.bi .len (.cons (.var 0) .nil))) (.cons (.asg 2 false (.ix (.var 0) (.var 1))) .nil) (.cons (.iff (.cmp .gt (.bi .len (.cons (.var 0) .nil)) (.lit (.int 0))) (.cons (.asg 2 false (.bin .add (.bin .mul (.bin .mod (.ix (.var 0) (.bin .mod (.var 1) (.bi .len (.cons (.var 0) .nil)))) (.lit (.int 2147483629))) (.lit (.int 31))) (.bin .mul (.lit (.int 7919)) (.var 1)))) .nil) .nil) .nil)) (.cons (.asg 3 false (.lit (.int 0))) (.cons (.iff (.cmp .ge (.var 2) (.bin .pow (.lit (.int 10)) (.lit (.int 18)))) (.cons (.asg 3 false (.var 2)) .nil) .nil) (.cons (.ret (.lst (.cons (.var 3) (.cons (.bin .add (.bin .mod (.bin .add (.bin .mul (.bin .mod (.var 2) (.lit (.int 2147483629))) (.lit (.int 48271))) (.bin .mul (.lit (.int 40692)) (.var 1))) (.lit (.int 2147483629))) (.lit (.int 1))) .nil)))) .nil)))))
def d__law_feed : DR := ⟨"_law_feed", top 10, ["_law_script", "_law_k", "_law_cell", "_law_own"], 2, b__law_feed⟩
def b__law_take : ISs := (.cons (.iff (.cmp .gt (.ix (.var 0) (.lit (.int 0))) (.lit (.int 0))) (.cons (.asg 3 false (.bin .mod (.ix (.var 0) (.lit (.int 0))) (.var 1))) (.cons (.setix (.var 0) (.lit (.int 0)) (.bin .fdiv (.ix (.var 0) (.lit (.int 0))) (.var 1))) (.cons (.ret (.var 3)) .nil))) .nil) (.cons (.asg 2 false (.bin .mod (.bin .mul (.ix (.var 0) (.lit (.int 1))) (.lit (.int 48271))) (.lit (.int 2147483647)))) (.cons (.setix (.var 0) (.lit (.int 1)) (.bin .add (.bin .mod (.bin .add (.bin .mul (.var 2) (.lit (.int 40692))) (.lit (.int 30103))) (.lit (.int 2147483399))) (.lit (.int 1)))) (.cons (.ret (.bin .mod (.bin .fdiv (.bin .add (.bin .mul (.var 2) (.lit (.int 2147483647))) (.ix (.var 0) (.lit (.int 1)))) (.lit (.int 8191))) (.var 1))) .nil))))
def d__law_take : DR := ⟨"_law_take", top 11, ["_law_feed_here", "_law_many", "_law_one", "_law_digit"], 2, b__law_take⟩
def b__law_kept : ISs := (.cons (.asg 0 false (.lst (.cons (.lit (.str (S [110, 117, 109]))) (.cons (.lit (.str (S [114, 111, 119]))) (.cons (.lit (.str (S [107, 105, 110, 100]))) (.cons (.lit (.str (S [100, 101, 102]))) (.cons (.lit (.str (S [109, 111, 114, 101]))) (.cons (.lit (.str (S [102, 105, 114, 115, 116]))) (.cons (.lit (.str (S [111, 116, 104, 101, 114, 115]))) (.cons (.lit (.str (S [108, 111, 110, 103]))) (.cons (.lit (.str (S [109, 97, 116, 99, 104]))) (.cons (.lit (.str (S [105, 102]))) (.cons (.lit (.str (S [108, 101, 116]))) (.cons (.lit (.str (S [102, 111, 108, 100]))) (.cons (.lit (.str (S [99, 97, 108, 108]))) .nil))))))))))))))) (.cons (.ret (.bin .add (.var 0) (.lst (.cons (.lit (.str (S [103, 97, 112]))) (.cons (.lit (.str (S [105, 110]))) (.cons (.lit (.str (S [119, 111, 114, 108, 100]))) (.cons (.lit (.str (S [102, 97, 117, 108, 116]))) (.cons (.lit (.str (S [108, 101, 102, 116]))) .nil)))))))) .nil))
def d__law_kept : DR := ⟨"_law_kept", top 12, ["_law_some"], 0, b__law_kept⟩
def b__law_sign : ISs := (.cons (.asg 1 false (.lit (.str (S [32, 33, 34, 35, 36, 38, 39, 40, 41, 42, 43, 44, 45, 46, 47, 48, 49, 50, 51, 52, 53, 54, 55, 56, 57, 58, 59, 60, 61, 62, 63, 64, 65, 66, 67, 68, 69, 70, 71, 72, 73, 74, 75, 76, 77, 78, 79, 80, 81, 82, 83, 84, 85, 86, 87, 88, 89, 90, 91, 92, 93, 94, 95, 96, 97, 98, 99, 100, 101, 102, 103, 104, 105, 106, 107, 108, 109, 110, 111, 112, 113, 114, 115, 116, 117, 118, 119, 120, 121, 122, 123, 124, 125, 126, 10])))) (.cons (.ret (.ix (.var 1) (.call f__law_take (.cons (.var 0) (.cons (.bi .len (.cons (.var 1) .nil)) .nil))))) .nil))
def d__law_sign : DR := ⟨"_law_sign", top 13, ["_law_feed_here", "_law_signs"], 1, b__law_sign⟩
def b__law_near : ISs := (.cons (.asg 2 false (.call f__law_take (.cons (.var 0) (.cons (.bin .add (.bi .len (.cons (.var 1) .nil)) (.lit (.int 1))) .nil)))) (.cons (.asg 3 false (.ix (.lst (.cons (.lit (.int 0)) (.cons (.lit (.int 1)) (.cons (.lit (.int 1)) .nil)))) (.call f__law_take (.cons (.var 0) (.cons (.lit (.int 3)) .nil))))) (.cons (.ret (.bin .add (.bin .add (.sl (.var 1) .no (.yes (.var 2))) (.ix (.lst (.cons (.call f__law_sign (.cons (.var 0) .nil)) (.cons (.lit (.str (S []))) .nil))) (.call f__law_take (.cons (.var 0) (.cons (.lit (.int 2)) .nil))))) (.sl (.var 1) (.yes (.bin .add (.var 2) (.var 3))) .no))) .nil)))
def d__law_near : DR := ⟨"_law_near", top 14, ["_law_feed_here", "_law_text_here", "_law_at", "_law_cut"], 2, b__law_near⟩
def x__law_letters_0 : IE := (.ix (.lit (.str (S [97, 98, 99, 100, 101, 102, 103, 104, 105, 106, 107, 108, 109, 110, 111, 112, 113, 114, 115, 116, 117, 118, 119, 120, 121, 122]))) (.call f__law_take (.cons (.var 0) (.cons (.lit (.int 26)) .nil))))
def b__law_letters : ISs := (.cons (.ret (.bm .join (.lit (.str (S []))) (.cons (.comp x__law_letters_0 (.nm 2) (.range1 (.var 1)) .no [2]) .nil))) .nil)
def d__law_letters : DR := ⟨"_law_letters", top 15, ["_law_feed_here", "_law_many", "_law_k"], 2, b__law_letters⟩
def x__law_text_0 : IE := (.call f__law_sign (.cons (.var 0) .nil))
def b__law_text : ISs := (.cons (.asg 1 false (.call f__law_take (.cons (.var 0) (.cons (.lit (.int 8)) .nil)))) (.cons (.asg 2 false (.ix (.call f__law_kept .nil) (.call f__law_take (.cons (.var 0) (.cons (.lit (.int 18)) .nil))))) (.cons (.iff (.cmp .lt (.var 1) (.lit (.int 2))) (.cons (.ret (.call f__law_letters (.cons (.var 0) (.cons (.ix (.lst (.cons (.call f__law_take (.cons (.var 0) (.cons (.lit (.int 9)) .nil))) (.cons (.bin .add (.lit (.int 20)) (.call f__law_take (.cons (.var 0) (.cons (.lit (.int 30)) .nil)))) .nil))) (.bi .int (.cons (.cmp .eq (.call f__law_take (.cons (.var 0) (.cons (.lit (.int 8)) .nil))) (.lit (.int 1))) .nil))) .nil)))) .nil) .nil) (.cons (.iff (.cmp .eq (.var 1) (.lit (.int 2))) (.cons (.ret (.bm .join (.lit (.str (S []))) (.cons (.comp x__law_text_0 (.nm 3) (.range1 (.call f__law_take (.cons (.var 0) (.cons (.lit (.int 9)) .nil)))) .no [3]) .nil))) .nil) .nil) (.cons (.iff (.cmp .eq (.var 1) (.lit (.int 3))) (.cons (.ret (.var 2)) .nil) .nil) (.cons (.iff (.cmp .eq (.var 1) (.lit (.int 4))) (.cons (.ret (.ix (.lst (.cons (.sl (.var 2) .no (.yes (.neg (.lit (.int 1))))) (.cons (.bin .add (.var 2) (.ix (.var 2) (.neg (.lit (.int 1))))) (.cons (.bm0 .upper (.var 2)) (.cons (.bin .add (.bm0 .upper (.sl (.var 2) .no (.yes (.lit (.int 1))))) (.sl (.var 2) (.yes (.lit (.int 1))) .no)) (.cons (.bin .add (.lit (.str (S [113]))) (.var 2)) .nil)))))) (.call f__law_take (.cons (.var 0) (.cons (.lit (.int 5)) .nil))))) .nil) .nil) (.cons (.iff (.cmp .eq (.var 1) (.lit (.int 5))) (.cons (.ret (.call f__law_near (.cons (.var 0) (.cons (.var 2) .nil)))) .nil) .nil) (.cons (.ret (.call f__law_near (.cons (.var 0) (.cons (.call f__law_letters (.cons (.var 0) (.cons (.bin .add (.lit (.int 1)) (.call f__law_take (.cons (.var 0) (.cons (.lit (.int 6)) .nil)))) .nil))) .nil)))) .nil))))))))
def d__law_text : DR := ⟨"_law_text", top 16, ["_law_feed_here", "_law_form", "_law_kept_here", "_law_k"], 1, b__law_text⟩
def x__law_name_due_0 : IE := (.cmp .isin (.var 1) (.lit (.str (S [97, 98, 99, 100, 101, 102, 103, 104, 105, 106, 107, 108, 109, 110, 111, 112, 113, 114, 115, 116, 117, 118, 119, 120, 121, 122]))))
def b__law_name_due : ISs := (.cons (.iff (.or (.cons (.cmp .eq (.bi .len (.cons (.var 0) .nil)) (.lit (.int 0))) (.cons (.cmp .gt (.bi .len (.cons (.var 0) .nil)) (.lit (.int 6))) (.cons (.cmp .isin (.var 0) (.call f__law_kept .nil)) .nil)))) (.cons (.ret (.lit (.bool false))) .nil) .nil) (.cons (.ret (.bi .all (.cons (.comp x__law_name_due_0 (.nm 1) (.seq (.var 0)) .no [1]) .nil))) .nil))
def d__law_name_due : DR := ⟨"_law_name_due", top 17, ["_law_text_here", "_law_sign_here"], 1, b__law_name_due⟩
def l__law_kind_0 : ISs := (.cons (.asg 3 false (.tup (.cons (.lit (.str (S [114, 111, 119]))) (.cons (.var 3) .nil)))) .nil)
def b__law_kind : ISs := (.cons (.asg 2 false (.lst (.cons (.lit (.str (S [110, 117, 109]))) (.cons (.tup (.cons (.lit (.str (S [107, 105, 110, 100]))) (.cons (.bin .add (.call f__law_letters (.cons (.var 0) (.cons (.bin .add (.lit (.int 1)) (.call f__law_take (.cons (.var 0) (.cons (.lit (.int 5)) .nil)))) .nil))) (.lit (.str (S [122])))) .nil))) (.cons (.tup (.cons (.lit (.str (S [111, 112, 101, 110]))) (.cons (.call f__law_take (.cons (.var 0) (.cons (.lit (.int 100)) .nil))) .nil))) .nil))))) (.cons (.asg 3 false (.ix (.bin .add (.var 2) (.lst (.cons (.tup (.cons (.lit (.str (S [97, 110, 121]))) (.cons (.call f__law_take (.cons (.var 0) (.cons (.lit (.int 100)) .nil))) .nil))) .nil))) (.call f__law_take (.cons (.var 0) (.cons (.lit (.int 4)) .nil))))) (.cons (.for_ (.nm 4) (.range1 (.var 1)) l__law_kind_0) (.cons (.ret (.var 3)) .nil))))
def d__law_kind : DR := ⟨"_law_kind", top 18, ["_law_feed_here", "_law_rows", "_law_inner", "_law_found", "_law_turn"], 2, b__law_kind⟩
def b__law_right : ISs := (.cons (.asg 3 false (.call f_is_name (.cons (.var 0) .nil))) (.cons (.asg 4 false (.call f_kind_deep (.cons (.var 1) .nil))) (.cons (.iff (.or (.cons (.not (.isi (.var 3) [.bool])) (.cons (.cmp .ne (.var 3) (.call f__law_name_due (.cons (.var 0) .nil))) .nil))) (.cons (.ret (.lit (.bool false))) .nil) .nil) (.cons (.ret (.and (.cons (.isi (.var 4) [.int]) (.cons (.not (.isi (.var 4) [.bool])) (.cons (.cmp .eq (.var 4) (.var 2)) .nil))))) .nil))))
def d__law_right : DR := ⟨"_law_right", top 19, ["_law_text_here", "_law_first", "_law_rows", "_law_found", "_law_many"], 3, b__law_right⟩
def l_law_0 : ISs := (.cons (.asg 4 true (.call f__law_feed (.cons (.var 0) (.cons (.var 2) .nil)))) (.cons (.exp (.bm .append (.var 1) (.cons (.call f__law_text (.cons (.var 4) .nil)) .nil))) (.cons (.asg 5 false (.call f__law_take (.cons (.var 4) (.cons (.lit (.int 6)) .nil)))) (.cons (.exp (.bm .append (.var 1) (.cons (.tup (.cons (.call f__law_kind (.cons (.var 4) (.cons (.var 5) .nil))) (.cons (.var 5) .nil))) .nil))) .nil))))
def x_law_0 : IE := (.call f__law_right (.cons (.var 6) (.cons (.ix (.var 7) (.lit (.int 0))) (.cons (.ix (.var 7) (.lit (.int 1))) .nil))))
def b_law : ISs := (.cons (.iff (.cmp .ne (.glob c_WIDE) (.lit (.int 1000000))) (.cons (.ret (.lit (.bool false))) .nil) .nil) (.cons (.asg 1 true (.lst .nil)) (.cons (.for_ (.nm 2) (.range1 (.bi .max2 (.cons (.lit (.int 1)) (.cons (.bi .len (.cons (.sl (.var 0) .no (.yes (.lit (.int 6)))) .nil)) .nil)))) l_law_0) (.cons (.asg 3 false (.lzip (.every 0 (.var 1)) (.every 1 (.var 1)))) (.cons (.ret (.bi .all (.cons (.comp x_law_0 (.tp (.cons (.nm 6) (.cons (.nm 7) .nil))) (.seq (.bin .add (.var 3) (.sl (.var 3) .no (.yes (.lit (.int 1)))))) .no [6, 7]) .nil))) .nil)))))
def d_law : DR := ⟨"law", top 20, ["_law_script", "_law_asked", "_law_k", "_law_pairs", "_law_feed_here", "_law_rows", "_law_text_here", "_law_told"], 1, b_law⟩
def ds : List DR := [d_is_name, d_kind_deep, d__law_feed, d__law_take, d__law_kept, d__law_sign, d__law_near, d__law_letters, d__law_text, d__law_name_due, d__law_kind, d__law_right, d_law]
def cs : List Str := ["WIDE", "LETTERS", "MOST_SIGNS", "KEPT", "KEPT_MORE"]
def cvs : List PyData := [.int 1000000, .str (S [97, 98, 99, 100, 101, 102, 103, 104, 105, 106, 107, 108, 109, 110, 111, 112, 113, 114, 115, 116, 117, 118, 119, 120, 121, 122]), .int 6, .tuple [.str (S [110, 117, 109]), .str (S [114, 111, 119]), .str (S [107, 105, 110, 100]), .str (S [100, 101, 102]), .str (S [109, 111, 114, 101]), .str (S [102, 105, 114, 115, 116]), .str (S [111, 116, 104, 101, 114, 115]), .str (S [108, 111, 110, 103]), .str (S [109, 97, 116, 99, 104]), .str (S [105, 102]), .str (S [108, 101, 116]), .str (S [102, 111, 108, 100]), .str (S [99, 97, 108, 108])], .tuple [.str (S [103, 97, 112]), .str (S [105, 110]), .str (S [119, 111, 114, 108, 100]), .str (S [102, 97, 117, 108, 116]), .str (S [108, 101, 102, 116])]]
def dn : List Str := []
def dvs : List (List (Str × PyData)) := []
def T (w : Nat) : Tab := ⟨cvs, w, dvs⟩
theorem T_c (w : Nat) : (T w).consts = cvs := rfl
theorem T_w (w : Nat) : (T w).wf = w := rfl
theorem T_d (w : Nat) : (T w).dicts = dvs := rfl
def F : List FD := ds.map DR.fd
def cg : CG := ⟨ds.map (·.name), cs, dn⟩
theorem call_is_name (w n : Nat) (a0 : EV) (h : EH) : callD (T w) F (n + 1) f_is_name [a0] h = finV h.length (denSs (T w) (callD (T w) F n) b_is_name [some a0, none] h) := callD_at (d := d_is_name.fd) rfl rfl rfl rfl
theorem call_kind_deep (w n : Nat) (a0 : EV) (h : EH) : callD (T w) F (n + 1) f_kind_deep [a0] h = finV h.length (denSs (T w) (callD (T w) F n) b_kind_deep [some a0] h) := callD_at (d := d_kind_deep.fd) rfl rfl rfl rfl
theorem call__law_feed (w n : Nat) (a0 a1 : EV) (h : EH) : callD (T w) F (n + 1) f__law_feed [a0, a1] h = finV h.length (denSs (T w) (callD (T w) F n) b__law_feed [some a0, some a1, none, none] h) := callD_at (d := d__law_feed.fd) rfl rfl rfl rfl
theorem call__law_take (w n : Nat) (a0 a1 : EV) (h : EH) : callD (T w) F (n + 1) f__law_take [a0, a1] h = finV h.length (denSs (T w) (callD (T w) F n) b__law_take [some a0, some a1, none, none] h) := callD_at (d := d__law_take.fd) rfl rfl rfl rfl
theorem call__law_kept (w n : Nat) (h : EH) : callD (T w) F (n + 1) f__law_kept [] h = finV h.length (denSs (T w) (callD (T w) F n) b__law_kept [none] h) := callD_at (d := d__law_kept.fd) rfl rfl rfl rfl
theorem call__law_sign (w n : Nat) (a0 : EV) (h : EH) : callD (T w) F (n + 1) f__law_sign [a0] h = finV h.length (denSs (T w) (callD (T w) F n) b__law_sign [some a0, none] h) := callD_at (d := d__law_sign.fd) rfl rfl rfl rfl
theorem call__law_near (w n : Nat) (a0 a1 : EV) (h : EH) : callD (T w) F (n + 1) f__law_near [a0, a1] h = finV h.length (denSs (T w) (callD (T w) F n) b__law_near [some a0, some a1, none, none] h) := callD_at (d := d__law_near.fd) rfl rfl rfl rfl
theorem call__law_letters (w n : Nat) (a0 a1 : EV) (h : EH) : callD (T w) F (n + 1) f__law_letters [a0, a1] h = finV h.length (denSs (T w) (callD (T w) F n) b__law_letters [some a0, some a1, none] h) := callD_at (d := d__law_letters.fd) rfl rfl rfl rfl
theorem call__law_text (w n : Nat) (a0 : EV) (h : EH) : callD (T w) F (n + 1) f__law_text [a0] h = finV h.length (denSs (T w) (callD (T w) F n) b__law_text [some a0, none, none, none] h) := callD_at (d := d__law_text.fd) rfl rfl rfl rfl
theorem call__law_name_due (w n : Nat) (a0 : EV) (h : EH) : callD (T w) F (n + 1) f__law_name_due [a0] h = finV h.length (denSs (T w) (callD (T w) F n) b__law_name_due [some a0, none] h) := callD_at (d := d__law_name_due.fd) rfl rfl rfl rfl
theorem call__law_kind (w n : Nat) (a0 a1 : EV) (h : EH) : callD (T w) F (n + 1) f__law_kind [a0, a1] h = finV h.length (denSs (T w) (callD (T w) F n) b__law_kind [some a0, some a1, none, none, none] h) := callD_at (d := d__law_kind.fd) rfl rfl rfl rfl
theorem call__law_right (w n : Nat) (a0 a1 a2 : EV) (h : EH) : callD (T w) F (n + 1) f__law_right [a0, a1, a2] h = finV h.length (denSs (T w) (callD (T w) F n) b__law_right [some a0, some a1, some a2, none, none] h) := callD_at (d := d__law_right.fd) rfl rfl rfl rfl
theorem call_law (w n : Nat) (a0 : EV) (h : EH) : callD (T w) F (n + 1) f_law [a0] h = finV h.length (denSs (T w) (callD (T w) F n) b_law [some a0, none, none, none, none, none, none, none] h) := callD_at (d := d_law.fd) rfl rfl rfl rfl
theorem chk_is_name : chkD cg d_is_name = true := by decide +kernel
theorem chk_kind_deep : chkD cg d_kind_deep = true := by decide +kernel
theorem chk__law_feed : chkD cg d__law_feed = true := by decide +kernel
theorem chk__law_take : chkD cg d__law_take = true := by decide +kernel
theorem chk__law_kept : chkD cg d__law_kept = true := by decide +kernel
theorem chk__law_sign : chkD cg d__law_sign = true := by decide +kernel
theorem chk__law_near : chkD cg d__law_near = true := by decide +kernel
theorem chk__law_letters : chkD cg d__law_letters = true := by decide +kernel
theorem chk__law_text : chkD cg d__law_text = true := by decide +kernel
theorem chk__law_name_due : chkD cg d__law_name_due = true := by decide +kernel
theorem chk__law_kind : chkD cg d__law_kind = true := by decide +kernel
theorem chk__law_right : chkD cg d__law_right = true := by decide +kernel
theorem chk_law : chkD cg d_law = true := by decide +kernel
theorem chk_all : ∀ d ∈ ds, chkD cg d = true := by
  intro d h
  simp only [ds, List.mem_cons, List.not_mem_nil, or_false] at h
  rcases h with rfl | rfl | rfl | rfl | rfl | rfl | rfl | rfl | rfl | rfl | rfl | rfl | rfl
  · exact chk_is_name
  · exact chk_kind_deep
  · exact chk__law_feed
  · exact chk__law_take
  · exact chk__law_kept
  · exact chk__law_sign
  · exact chk__law_near
  · exact chk__law_letters
  · exact chk__law_text
  · exact chk__law_name_due
  · exact chk__law_kind
  · exact chk__law_right
  · exact chk_law
end K

set_option Elab.async false
set_option linter.all false
set_option maxRecDepth 100000
set_option maxHeartbeats 4000000
namespace K
open PySem L2 G
/-! ### draws -/
theorem take_s (w n : Nat) {h : EH} {r : Nat} {m : Int} (f : Fd h r) (hm : 0 < m) (hm2 : m < 1073741824) : ∃ d h', callD (T w) F (n + 1) f__law_take [.ref r, .pv (.int m)] h = .ok (.pv (.int d)) h' ∧ 0 ≤ d ∧ d < m ∧ Dr r h h' := by
  obtain ⟨a, x, e⟩ := id f
  have d1 : CDiv a m := ⟨hm, hm2⟩
  have okm : ∀ {i j : Int}, (-(2 ^ 64) < j ∧ j < 2 ^ 64) → CMul i j := fun h => .inr h
  rw [call__law_take]
  by_cases h1 : 0 < a
  · refine ⟨a % m, h.set r (.lst [.int (a / m), .int x]), ?_, Int.emod_nonneg _ (by omega), Int.emod_lt_of_pos _ hm, Dr.of_set f _ _⟩
    simp [e_var, e_lit, e_glob, e_bin, e_neg, e_not, e_cmp, e_isN, e_notN, e_chain, e_and, e_or, e_ife, e_tup, e_lst, e_ix, e_sl, e_rev, e_dlit, e_dnew, e_dget, e_gdget, e_gdin, e_gget, e_repr, e_maxd, e_every, e_lzip, e_own, e_call, e_bi, e_bm, e_bm0, e_isi, e_comp, e_Ono, e_Oyes, e_Cno, e_Cyes, e_Wseq, e_Wr1, e_Wr2, e_Wzip, e_Wenum, e_snil, e_scons, e_and1, e_and2, e_or1, e_or2, e_pnil, e_pcons, e_Sasg, e_SasgT, e_Spar2, e_Ssetix, e_Sdput, e_Sexp, e_Sret, e_SretN, e_Spass, e_Sbrk, e_Siff, e_Sfor, e_Swhile, e_Stry, e_Sraise, e_Ssnil, e_Sscons, kBin2_a, kBin1_a, kNeg_a, kNot_a, kCmp2_a, kCmp1_a, kIsN_a, kB_a, kCh4_a, kCh3_a, kCh2_a, kCh1_a, kIfe_a, kTup_a, kLst_a, kIx2_a, kIx1_a, kSl3_a, kSl2_a, kSl1_a, kRev_a, kDl_a, kDnew_a, kDget_a, kGdg_a, kGdi_a, kOwn_a, kGg2_a, kGg1_a, kRepr_a, kMd2_a, kMd1_a, kEvery_a, kLz2_a, kLz1_a, kDput2_a, kDput1_a, kCall_a, kBi_a, kBm2_a, kBm1_a, kBm0_a, kIsi_a, kCompE_a, kComp_a, kPart_a, kWalk_a, kR1_a, kR2b_a, kR2_a, kZipb_a, kZip_a, kEnum_a, kConsV_a, kDens_a, kAnd2_a, kOr2_a, kConsP_a, kDenP2_a, kData_a, kAsg_a, kAsgT_a, kPar2_a, kPar1_a, kSet3_a, kSet2_a, kSet1_a, kExp_a, kRet_a, kIf_a, kFor_a, kCond_a, kSs_a, varV, storeV, EV.settle, finV_ret, finV_retT, finV_nx, okb, oki, oks, asB_b, cmpV, ordV, G.eqV, scalP, dataOf, binV, addV, subV, biV, lenV, intV, strV, listV, tupleV, allV, int2V, seqOf, bmV, bm0V, recvB, isStrB, isLstB, appendV, joinV, isiV, tyIs, notV, negV, partV, walkV, walkOf, range1V, range2V, dlitV, tupV, newLV, dataV, toP, S_len, S_cps, S_app, S_eq, S_beq, S_one, num_S, num_R, top_get, top_set, top_take, PyData.eqv, PyData.eqvAll, size_eq, T_c, T_w, T_d, cvs, atI_0, atI_1, isNV, lstOf, inV_S, dnewV, dgetV, gdgetV, gdinV, dputV, ggetV, maxdV, everyV, lzipV, reprV, ownV, ixV, slV, cut_S, b__law_take, e, h1, modV, fdivV, hm, d1, setV, ixN, List.take_of_length_le]
  · have hq : ∀ y : Int, (h.set r (.lst [.int a, .int y]))[r]? = some (.lst [.int a, .int y]) := fun y => List.getElem?_set_self f.lt
    have d2 : ∀ i : Int, CDiv i 8191 := fun i => ⟨by decide, by decide⟩
    refine ⟨((x * 48271 % 2147483647 * 2147483647 + ((x * 48271 % 2147483647 * 40692 + 30103) % 2147483399 + 1)) / 8191) % m, h.set r (.lst [.int a, .int ((x * 48271 % 2147483647 * 40692 + 30103) % 2147483399 + 1)]), ?_, Int.emod_nonneg _ (by omega), Int.emod_lt_of_pos _ hm, Dr.of_set f _ _⟩
    simp [e_var, e_lit, e_glob, e_bin, e_neg, e_not, e_cmp, e_isN, e_notN, e_chain, e_and, e_or, e_ife, e_tup, e_lst, e_ix, e_sl, e_rev, e_dlit, e_dnew, e_dget, e_gdget, e_gdin, e_gget, e_repr, e_maxd, e_every, e_lzip, e_own, e_call, e_bi, e_bm, e_bm0, e_isi, e_comp, e_Ono, e_Oyes, e_Cno, e_Cyes, e_Wseq, e_Wr1, e_Wr2, e_Wzip, e_Wenum, e_snil, e_scons, e_and1, e_and2, e_or1, e_or2, e_pnil, e_pcons, e_Sasg, e_SasgT, e_Spar2, e_Ssetix, e_Sdput, e_Sexp, e_Sret, e_SretN, e_Spass, e_Sbrk, e_Siff, e_Sfor, e_Swhile, e_Stry, e_Sraise, e_Ssnil, e_Sscons, kBin2_a, kBin1_a, kNeg_a, kNot_a, kCmp2_a, kCmp1_a, kIsN_a, kB_a, kCh4_a, kCh3_a, kCh2_a, kCh1_a, kIfe_a, kTup_a, kLst_a, kIx2_a, kIx1_a, kSl3_a, kSl2_a, kSl1_a, kRev_a, kDl_a, kDnew_a, kDget_a, kGdg_a, kGdi_a, kOwn_a, kGg2_a, kGg1_a, kRepr_a, kMd2_a, kMd1_a, kEvery_a, kLz2_a, kLz1_a, kDput2_a, kDput1_a, kCall_a, kBi_a, kBm2_a, kBm1_a, kBm0_a, kIsi_a, kCompE_a, kComp_a, kPart_a, kWalk_a, kR1_a, kR2b_a, kR2_a, kZipb_a, kZip_a, kEnum_a, kConsV_a, kDens_a, kAnd2_a, kOr2_a, kConsP_a, kDenP2_a, kData_a, kAsg_a, kAsgT_a, kPar2_a, kPar1_a, kSet3_a, kSet2_a, kSet1_a, kExp_a, kRet_a, kIf_a, kFor_a, kCond_a, kSs_a, varV, storeV, EV.settle, finV_ret, finV_retT, finV_nx, okb, oki, oks, asB_b, cmpV, ordV, G.eqV, scalP, dataOf, binV, addV, subV, biV, lenV, intV, strV, listV, tupleV, allV, int2V, seqOf, bmV, bm0V, recvB, isStrB, isLstB, appendV, joinV, isiV, tyIs, notV, negV, partV, walkV, walkOf, range1V, range2V, dlitV, tupV, newLV, dataV, toP, S_len, S_cps, S_app, S_eq, S_beq, S_one, num_S, num_R, top_get, top_set, top_take, PyData.eqv, PyData.eqvAll, size_eq, T_c, T_w, T_d, cvs, atI_0, atI_1, isNV, lstOf, inV_S, dnewV, dgetV, gdgetV, gdinV, dputV, ggetV, maxdV, everyV, lzipV, reprV, ownV, ixV, slV, cut_S, b__law_take, e, h1, modV, mulV, fdivV, hm, d2, setV, ixN, List.take_of_length_le, okm, hq]
theorem feed_s (w n k : Nat) (ns : List Int) (h : EH) : ∃ a x : Int, callD (T w) F (n + 1) f__law_feed [.fl (ns.map .int), .pv (.int k)] h = .ok (.tl [.int a, .int x]) h := by
  have okm : ∀ {i j : Int}, (-(2 ^ 64) < j ∧ j < 2 ^ 64) → CMul i j := fun h => .inr h
  have okl : ∀ {i j : Int}, (-(2 ^ 64) < i ∧ i < 2 ^ 64) → CMul i j := fun h => .inl h
  have okp : CPow 10 18 := by refine ⟨by decide, by decide, by decide⟩
  rw [call__law_feed]
  have fin : ∀ c : Int, ∃ a x : Int, finV h.length (denSs (T w) (callD (T w) F n) (.cons (.asg 3 false (.lit (.int 0))) (.cons (.iff (.cmp .ge (.var 2) (.bin .pow (.lit (.int 10)) (.lit (.int 18)))) (.cons (.asg 3 false (.var 2)) .nil) .nil) (.cons (.ret (.lst (.cons (.var 3) (.cons (.bin .add (.bin .mod (.bin .add (.bin .mul (.bin .mod (.var 2) (.lit (.int 2147483629))) (.lit (.int 48271))) (.bin .mul (.lit (.int 40692)) (.var 1))) (.lit (.int 2147483629))) (.lit (.int 1))) .nil)))) .nil))) [some (.fl (ns.map .int)), some (.pv (.int k)), some (.pv (.int c)), none] h) = .ok (.tl [.int a, .int x]) h := by
    intro c
    by_cases h2 : (1000000000000000000 : Int) ≤ c
    · refine ⟨c, (c % 2147483629 * 48271 + 40692 * k) % 2147483629 + 1, ?_⟩
      simp [e_var, e_lit, e_glob, e_bin, e_neg, e_not, e_cmp, e_isN, e_notN, e_chain, e_and, e_or, e_ife, e_tup, e_lst, e_ix, e_sl, e_rev, e_dlit, e_dnew, e_dget, e_gdget, e_gdin, e_gget, e_repr, e_maxd, e_every, e_lzip, e_own, e_call, e_bi, e_bm, e_bm0, e_isi, e_comp, e_Ono, e_Oyes, e_Cno, e_Cyes, e_Wseq, e_Wr1, e_Wr2, e_Wzip, e_Wenum, e_snil, e_scons, e_and1, e_and2, e_or1, e_or2, e_pnil, e_pcons, e_Sasg, e_SasgT, e_Spar2, e_Ssetix, e_Sdput, e_Sexp, e_Sret, e_SretN, e_Spass, e_Sbrk, e_Siff, e_Sfor, e_Swhile, e_Stry, e_Sraise, e_Ssnil, e_Sscons, kBin2_a, kBin1_a, kNeg_a, kNot_a, kCmp2_a, kCmp1_a, kIsN_a, kB_a, kCh4_a, kCh3_a, kCh2_a, kCh1_a, kIfe_a, kTup_a, kLst_a, kIx2_a, kIx1_a, kSl3_a, kSl2_a, kSl1_a, kRev_a, kDl_a, kDnew_a, kDget_a, kGdg_a, kGdi_a, kOwn_a, kGg2_a, kGg1_a, kRepr_a, kMd2_a, kMd1_a, kEvery_a, kLz2_a, kLz1_a, kDput2_a, kDput1_a, kCall_a, kBi_a, kBm2_a, kBm1_a, kBm0_a, kIsi_a, kCompE_a, kComp_a, kPart_a, kWalk_a, kR1_a, kR2b_a, kR2_a, kZipb_a, kZip_a, kEnum_a, kConsV_a, kDens_a, kAnd2_a, kOr2_a, kConsP_a, kDenP2_a, kData_a, kAsg_a, kAsgT_a, kPar2_a, kPar1_a, kSet3_a, kSet2_a, kSet1_a, kExp_a, kRet_a, kIf_a, kFor_a, kCond_a, kSs_a, varV, storeV, EV.settle, finV_ret, finV_retT, finV_nx, okb, oki, oks, asB_b, cmpV, ordV, G.eqV, scalP, dataOf, binV, addV, subV, biV, lenV, intV, strV, listV, tupleV, allV, int2V, seqOf, bmV, bm0V, recvB, isStrB, isLstB, appendV, joinV, isiV, tyIs, notV, negV, partV, walkV, walkOf, range1V, range2V, dlitV, tupV, newLV, dataV, toP, S_len, S_cps, S_app, S_eq, S_beq, S_one, num_S, num_R, top_get, top_set, top_take, PyData.eqv, PyData.eqvAll, size_eq, T_c, T_w, T_d, cvs, atI_0, atI_1, isNV, lstOf, inV_S, dnewV, dgetV, gdgetV, gdinV, dputV, ggetV, maxdV, everyV, lzipV, reprV, ownV, ixV, slV, cut_S, powV, okp, modV, mulV, okm, okl, h2]
    · refine ⟨0, (c % 2147483629 * 48271 + 40692 * k) % 2147483629 + 1, ?_⟩
      simp [e_var, e_lit, e_glob, e_bin, e_neg, e_not, e_cmp, e_isN, e_notN, e_chain, e_and, e_or, e_ife, e_tup, e_lst, e_ix, e_sl, e_rev, e_dlit, e_dnew, e_dget, e_gdget, e_gdin, e_gget, e_repr, e_maxd, e_every, e_lzip, e_own, e_call, e_bi, e_bm, e_bm0, e_isi, e_comp, e_Ono, e_Oyes, e_Cno, e_Cyes, e_Wseq, e_Wr1, e_Wr2, e_Wzip, e_Wenum, e_snil, e_scons, e_and1, e_and2, e_or1, e_or2, e_pnil, e_pcons, e_Sasg, e_SasgT, e_Spar2, e_Ssetix, e_Sdput, e_Sexp, e_Sret, e_SretN, e_Spass, e_Sbrk, e_Siff, e_Sfor, e_Swhile, e_Stry, e_Sraise, e_Ssnil, e_Sscons, kBin2_a, kBin1_a, kNeg_a, kNot_a, kCmp2_a, kCmp1_a, kIsN_a, kB_a, kCh4_a, kCh3_a, kCh2_a, kCh1_a, kIfe_a, kTup_a, kLst_a, kIx2_a, kIx1_a, kSl3_a, kSl2_a, kSl1_a, kRev_a, kDl_a, kDnew_a, kDget_a, kGdg_a, kGdi_a, kOwn_a, kGg2_a, kGg1_a, kRepr_a, kMd2_a, kMd1_a, kEvery_a, kLz2_a, kLz1_a, kDput2_a, kDput1_a, kCall_a, kBi_a, kBm2_a, kBm1_a, kBm0_a, kIsi_a, kCompE_a, kComp_a, kPart_a, kWalk_a, kR1_a, kR2b_a, kR2_a, kZipb_a, kZip_a, kEnum_a, kConsV_a, kDens_a, kAnd2_a, kOr2_a, kConsP_a, kDenP2_a, kData_a, kAsg_a, kAsgT_a, kPar2_a, kPar1_a, kSet3_a, kSet2_a, kSet1_a, kExp_a, kRet_a, kIf_a, kFor_a, kCond_a, kSs_a, varV, storeV, EV.settle, finV_ret, finV_retT, finV_nx, okb, oki, oks, asB_b, cmpV, ordV, G.eqV, scalP, dataOf, binV, addV, subV, biV, lenV, intV, strV, listV, tupleV, allV, int2V, seqOf, bmV, bm0V, recvB, isStrB, isLstB, appendV, joinV, isiV, tyIs, notV, negV, partV, walkV, walkOf, range1V, range2V, dlitV, tupV, newLV, dataV, toP, S_len, S_cps, S_app, S_eq, S_beq, S_one, num_S, num_R, top_get, top_set, top_take, PyData.eqv, PyData.eqvAll, size_eq, T_c, T_w, T_d, cvs, atI_0, atI_1, isNV, lstOf, inV_S, dnewV, dgetV, gdgetV, gdinV, dputV, ggetV, maxdV, everyV, lzipV, reprV, ownV, ixV, slV, cut_S, powV, okp, modV, mulV, okm, okl, h2]
  by_cases h1 : k < ns.length
  · obtain ⟨a, x, q⟩ := fin (ns[k])
    refine ⟨a, x, ?_⟩
    have e : atI (ns.map PyData.int) (k : Int) = some (.int ns[k]) := atI_nat (by simp [e_var, e_lit, e_glob, e_bin, e_neg, e_not, e_cmp, e_isN, e_notN, e_chain, e_and, e_or, e_ife, e_tup, e_lst, e_ix, e_sl, e_rev, e_dlit, e_dnew, e_dget, e_gdget, e_gdin, e_gget, e_repr, e_maxd, e_every, e_lzip, e_own, e_call, e_bi, e_bm, e_bm0, e_isi, e_comp, e_Ono, e_Oyes, e_Cno, e_Cyes, e_Wseq, e_Wr1, e_Wr2, e_Wzip, e_Wenum, e_snil, e_scons, e_and1, e_and2, e_or1, e_or2, e_pnil, e_pcons, e_Sasg, e_SasgT, e_Spar2, e_Ssetix, e_Sdput, e_Sexp, e_Sret, e_SretN, e_Spass, e_Sbrk, e_Siff, e_Sfor, e_Swhile, e_Stry, e_Sraise, e_Ssnil, e_Sscons, kBin2_a, kBin1_a, kNeg_a, kNot_a, kCmp2_a, kCmp1_a, kIsN_a, kB_a, kCh4_a, kCh3_a, kCh2_a, kCh1_a, kIfe_a, kTup_a, kLst_a, kIx2_a, kIx1_a, kSl3_a, kSl2_a, kSl1_a, kRev_a, kDl_a, kDnew_a, kDget_a, kGdg_a, kGdi_a, kOwn_a, kGg2_a, kGg1_a, kRepr_a, kMd2_a, kMd1_a, kEvery_a, kLz2_a, kLz1_a, kDput2_a, kDput1_a, kCall_a, kBi_a, kBm2_a, kBm1_a, kBm0_a, kIsi_a, kCompE_a, kComp_a, kPart_a, kWalk_a, kR1_a, kR2b_a, kR2_a, kZipb_a, kZip_a, kEnum_a, kConsV_a, kDens_a, kAnd2_a, kOr2_a, kConsP_a, kDenP2_a, kData_a, kAsg_a, kAsgT_a, kPar2_a, kPar1_a, kSet3_a, kSet2_a, kSet1_a, kExp_a, kRet_a, kIf_a, kFor_a, kCond_a, kSs_a, varV, storeV, EV.settle, finV_ret, finV_retT, finV_nx, okb, oki, oks, asB_b, cmpV, ordV, G.eqV, scalP, dataOf, binV, addV, subV, biV, lenV, intV, strV, listV, tupleV, allV, int2V, seqOf, bmV, bm0V, recvB, isStrB, isLstB, appendV, joinV, isiV, tyIs, notV, negV, partV, walkV, walkOf, range1V, range2V, dlitV, tupV, newLV, dataV, toP, S_len, S_cps, S_app, S_eq, S_beq, S_one, num_S, num_R, top_get, top_set, top_take, PyData.eqv, PyData.eqvAll, size_eq, T_c, T_w, T_d, cvs, atI_0, atI_1, isNV, lstOf, inV_S, dnewV, dgetV, gdgetV, gdinV, dputV, ggetV, maxdV, everyV, lzipV, reprV, ownV, ixV, slV, cut_S, h1])
    rw [← q]
    simp [e_var, e_lit, e_glob, e_bin, e_neg, e_not, e_cmp, e_isN, e_notN, e_chain, e_and, e_or, e_ife, e_tup, e_lst, e_ix, e_sl, e_rev, e_dlit, e_dnew, e_dget, e_gdget, e_gdin, e_gget, e_repr, e_maxd, e_every, e_lzip, e_own, e_call, e_bi, e_bm, e_bm0, e_isi, e_comp, e_Ono, e_Oyes, e_Cno, e_Cyes, e_Wseq, e_Wr1, e_Wr2, e_Wzip, e_Wenum, e_snil, e_scons, e_and1, e_and2, e_or1, e_or2, e_pnil, e_pcons, e_Sasg, e_SasgT, e_Spar2, e_Ssetix, e_Sdput, e_Sexp, e_Sret, e_SretN, e_Spass, e_Sbrk, e_Siff, e_Sfor, e_Swhile, e_Stry, e_Sraise, e_Ssnil, e_Sscons, kBin2_a, kBin1_a, kNeg_a, kNot_a, kCmp2_a, kCmp1_a, kIsN_a, kB_a, kCh4_a, kCh3_a, kCh2_a, kCh1_a, kIfe_a, kTup_a, kLst_a, kIx2_a, kIx1_a, kSl3_a, kSl2_a, kSl1_a, kRev_a, kDl_a, kDnew_a, kDget_a, kGdg_a, kGdi_a, kOwn_a, kGg2_a, kGg1_a, kRepr_a, kMd2_a, kMd1_a, kEvery_a, kLz2_a, kLz1_a, kDput2_a, kDput1_a, kCall_a, kBi_a, kBm2_a, kBm1_a, kBm0_a, kIsi_a, kCompE_a, kComp_a, kPart_a, kWalk_a, kR1_a, kR2b_a, kR2_a, kZipb_a, kZip_a, kEnum_a, kConsV_a, kDens_a, kAnd2_a, kOr2_a, kConsP_a, kDenP2_a, kData_a, kAsg_a, kAsgT_a, kPar2_a, kPar1_a, kSet3_a, kSet2_a, kSet1_a, kExp_a, kRet_a, kIf_a, kFor_a, kCond_a, kSs_a, varV, storeV, EV.settle, finV_ret, finV_retT, finV_nx, okb, oki, oks, asB_b, cmpV, ordV, G.eqV, scalP, dataOf, binV, addV, subV, biV, lenV, intV, strV, listV, tupleV, allV, int2V, seqOf, bmV, bm0V, recvB, isStrB, isLstB, appendV, joinV, isiV, tyIs, notV, negV, partV, walkV, walkOf, range1V, range2V, dlitV, tupV, newLV, dataV, toP, S_len, S_cps, S_app, S_eq, S_beq, S_one, num_S, num_R, top_get, top_set, top_take, PyData.eqv, PyData.eqvAll, size_eq, T_c, T_w, T_d, cvs, atI_0, atI_1, isNV, lstOf, inV_S, dnewV, dgetV, gdgetV, gdinV, dputV, ggetV, maxdV, everyV, lzipV, reprV, ownV, ixV, slV, cut_S, b__law_feed, mulV, okl, h1, e]
  · by_cases h2 : 0 < ns.length
    · have hk : k % ns.length < ns.length := Nat.mod_lt _ h2
      have e : atI (ns.map PyData.int) ((k : Int) % (ns.length : Int)) = some (.int ns[k % ns.length]) := by
        rw [← Int.natCast_emod]
        exact atI_nat (by simp [e_var, e_lit, e_glob, e_bin, e_neg, e_not, e_cmp, e_isN, e_notN, e_chain, e_and, e_or, e_ife, e_tup, e_lst, e_ix, e_sl, e_rev, e_dlit, e_dnew, e_dget, e_gdget, e_gdin, e_gget, e_repr, e_maxd, e_every, e_lzip, e_own, e_call, e_bi, e_bm, e_bm0, e_isi, e_comp, e_Ono, e_Oyes, e_Cno, e_Cyes, e_Wseq, e_Wr1, e_Wr2, e_Wzip, e_Wenum, e_snil, e_scons, e_and1, e_and2, e_or1, e_or2, e_pnil, e_pcons, e_Sasg, e_SasgT, e_Spar2, e_Ssetix, e_Sdput, e_Sexp, e_Sret, e_SretN, e_Spass, e_Sbrk, e_Siff, e_Sfor, e_Swhile, e_Stry, e_Sraise, e_Ssnil, e_Sscons, kBin2_a, kBin1_a, kNeg_a, kNot_a, kCmp2_a, kCmp1_a, kIsN_a, kB_a, kCh4_a, kCh3_a, kCh2_a, kCh1_a, kIfe_a, kTup_a, kLst_a, kIx2_a, kIx1_a, kSl3_a, kSl2_a, kSl1_a, kRev_a, kDl_a, kDnew_a, kDget_a, kGdg_a, kGdi_a, kOwn_a, kGg2_a, kGg1_a, kRepr_a, kMd2_a, kMd1_a, kEvery_a, kLz2_a, kLz1_a, kDput2_a, kDput1_a, kCall_a, kBi_a, kBm2_a, kBm1_a, kBm0_a, kIsi_a, kCompE_a, kComp_a, kPart_a, kWalk_a, kR1_a, kR2b_a, kR2_a, kZipb_a, kZip_a, kEnum_a, kConsV_a, kDens_a, kAnd2_a, kOr2_a, kConsP_a, kDenP2_a, kData_a, kAsg_a, kAsgT_a, kPar2_a, kPar1_a, kSet3_a, kSet2_a, kSet1_a, kExp_a, kRet_a, kIf_a, kFor_a, kCond_a, kSs_a, varV, storeV, EV.settle, finV_ret, finV_retT, finV_nx, okb, oki, oks, asB_b, cmpV, ordV, G.eqV, scalP, dataOf, binV, addV, subV, biV, lenV, intV, strV, listV, tupleV, allV, int2V, seqOf, bmV, bm0V, recvB, isStrB, isLstB, appendV, joinV, isiV, tyIs, notV, negV, partV, walkV, walkOf, range1V, range2V, dlitV, tupV, newLV, dataV, toP, S_len, S_cps, S_app, S_eq, S_beq, S_one, num_S, num_R, top_get, top_set, top_take, PyData.eqv, PyData.eqvAll, size_eq, T_c, T_w, T_d, cvs, atI_0, atI_1, isNV, lstOf, inV_S, dnewV, dgetV, gdgetV, gdinV, dputV, ggetV, maxdV, everyV, lzipV, reprV, ownV, ixV, slV, cut_S, hk])
      obtain ⟨a, x, q⟩ := fin (ns[k % ns.length] % 2147483629 * 31 + 7919 * k)
      refine ⟨a, x, ?_⟩
      rw [← q]
      simp [e_var, e_lit, e_glob, e_bin, e_neg, e_not, e_cmp, e_isN, e_notN, e_chain, e_and, e_or, e_ife, e_tup, e_lst, e_ix, e_sl, e_rev, e_dlit, e_dnew, e_dget, e_gdget, e_gdin, e_gget, e_repr, e_maxd, e_every, e_lzip, e_own, e_call, e_bi, e_bm, e_bm0, e_isi, e_comp, e_Ono, e_Oyes, e_Cno, e_Cyes, e_Wseq, e_Wr1, e_Wr2, e_Wzip, e_Wenum, e_snil, e_scons, e_and1, e_and2, e_or1, e_or2, e_pnil, e_pcons, e_Sasg, e_SasgT, e_Spar2, e_Ssetix, e_Sdput, e_Sexp, e_Sret, e_SretN, e_Spass, e_Sbrk, e_Siff, e_Sfor, e_Swhile, e_Stry, e_Sraise, e_Ssnil, e_Sscons, kBin2_a, kBin1_a, kNeg_a, kNot_a, kCmp2_a, kCmp1_a, kIsN_a, kB_a, kCh4_a, kCh3_a, kCh2_a, kCh1_a, kIfe_a, kTup_a, kLst_a, kIx2_a, kIx1_a, kSl3_a, kSl2_a, kSl1_a, kRev_a, kDl_a, kDnew_a, kDget_a, kGdg_a, kGdi_a, kOwn_a, kGg2_a, kGg1_a, kRepr_a, kMd2_a, kMd1_a, kEvery_a, kLz2_a, kLz1_a, kDput2_a, kDput1_a, kCall_a, kBi_a, kBm2_a, kBm1_a, kBm0_a, kIsi_a, kCompE_a, kComp_a, kPart_a, kWalk_a, kR1_a, kR2b_a, kR2_a, kZipb_a, kZip_a, kEnum_a, kConsV_a, kDens_a, kAnd2_a, kOr2_a, kConsP_a, kDenP2_a, kData_a, kAsg_a, kAsgT_a, kPar2_a, kPar1_a, kSet3_a, kSet2_a, kSet1_a, kExp_a, kRet_a, kIf_a, kFor_a, kCond_a, kSs_a, varV, storeV, EV.settle, finV_ret, finV_retT, finV_nx, okb, oki, oks, asB_b, cmpV, ordV, G.eqV, scalP, dataOf, binV, addV, subV, biV, lenV, intV, strV, listV, tupleV, allV, int2V, seqOf, bmV, bm0V, recvB, isStrB, isLstB, appendV, joinV, isiV, tyIs, notV, negV, partV, walkV, walkOf, range1V, range2V, dlitV, tupV, newLV, dataV, toP, S_len, S_cps, S_app, S_eq, S_beq, S_one, num_S, num_R, top_get, top_set, top_take, PyData.eqv, PyData.eqvAll, size_eq, T_c, T_w, T_d, cvs, atI_0, atI_1, isNV, lstOf, inV_S, dnewV, dgetV, gdgetV, gdinV, dputV, ggetV, maxdV, everyV, lzipV, reprV, ownV, ixV, slV, cut_S, b__law_feed, mulV, okl, okm, modV, h1, h2, e]
    · obtain ⟨a, x, q⟩ := fin (7919 * k + 24691)
      refine ⟨a, x, ?_⟩
      rw [← q]
      simp [e_var, e_lit, e_glob, e_bin, e_neg, e_not, e_cmp, e_isN, e_notN, e_chain, e_and, e_or, e_ife, e_tup, e_lst, e_ix, e_sl, e_rev, e_dlit, e_dnew, e_dget, e_gdget, e_gdin, e_gget, e_repr, e_maxd, e_every, e_lzip, e_own, e_call, e_bi, e_bm, e_bm0, e_isi, e_comp, e_Ono, e_Oyes, e_Cno, e_Cyes, e_Wseq, e_Wr1, e_Wr2, e_Wzip, e_Wenum, e_snil, e_scons, e_and1, e_and2, e_or1, e_or2, e_pnil, e_pcons, e_Sasg, e_SasgT, e_Spar2, e_Ssetix, e_Sdput, e_Sexp, e_Sret, e_SretN, e_Spass, e_Sbrk, e_Siff, e_Sfor, e_Swhile, e_Stry, e_Sraise, e_Ssnil, e_Sscons, kBin2_a, kBin1_a, kNeg_a, kNot_a, kCmp2_a, kCmp1_a, kIsN_a, kB_a, kCh4_a, kCh3_a, kCh2_a, kCh1_a, kIfe_a, kTup_a, kLst_a, kIx2_a, kIx1_a, kSl3_a, kSl2_a, kSl1_a, kRev_a, kDl_a, kDnew_a, kDget_a, kGdg_a, kGdi_a, kOwn_a, kGg2_a, kGg1_a, kRepr_a, kMd2_a, kMd1_a, kEvery_a, kLz2_a, kLz1_a, kDput2_a, kDput1_a, kCall_a, kBi_a, kBm2_a, kBm1_a, kBm0_a, kIsi_a, kCompE_a, kComp_a, kPart_a, kWalk_a, kR1_a, kR2b_a, kR2_a, kZipb_a, kZip_a, kEnum_a, kConsV_a, kDens_a, kAnd2_a, kOr2_a, kConsP_a, kDenP2_a, kData_a, kAsg_a, kAsgT_a, kPar2_a, kPar1_a, kSet3_a, kSet2_a, kSet1_a, kExp_a, kRet_a, kIf_a, kFor_a, kCond_a, kSs_a, varV, storeV, EV.settle, finV_ret, finV_retT, finV_nx, okb, oki, oks, asB_b, cmpV, ordV, G.eqV, scalP, dataOf, binV, addV, subV, biV, lenV, intV, strV, listV, tupleV, allV, int2V, seqOf, bmV, bm0V, recvB, isStrB, isLstB, appendV, joinV, isiV, tyIs, notV, negV, partV, walkV, walkOf, range1V, range2V, dlitV, tupV, newLV, dataV, toP, S_len, S_cps, S_app, S_eq, S_beq, S_one, num_S, num_R, top_get, top_set, top_take, PyData.eqv, PyData.eqvAll, size_eq, T_c, T_w, T_d, cvs, atI_0, atI_1, isNV, lstOf, inV_S, dnewV, dgetV, gdgetV, gdinV, dputV, ggetV, maxdV, everyV, lzipV, reprV, ownV, ixV, slV, cut_S, b__law_feed, mulV, okl, okm, modV, h1, h2]
end K

set_option Elab.async false
set_option linter.all false
set_option maxRecDepth 100000
set_option maxHeartbeats 4000000
namespace K
open PySem L2 G
def abcP : PyData := .str (S [97, 98, 99, 100, 101, 102, 103, 104, 105, 106, 107, 108, 109, 110, 111, 112, 113, 114, 115, 116, 117, 118, 119, 120, 121, 122])
theorem abc_ix (d : Int) (h0 : 0 ≤ d) (h1 : d < 26) (h : EH) : G.ixV (.pv abcP) (.pv (.int d)) h = oks (S [97 + d.toNat]) h := by
  simp [G.ixV, abcP, S_len, size_eq, S_cps, abc_at d h0 h1, S_one]
theorem join_cs (cs : List Nat) (hl : cs.length ≤ 1000) (h : EH) : joinV (.pv (.str (S []))) [.pv (.list (cs.map fun c => .str (S [c])))] h = oks (S cs) h := by
  unfold joinV
  simp only [seqOf, strsOf_letters, sum_letters, join_letters, S_len, List.length_nil, Nat.mul_zero, Nat.add_zero]
  rw [if_pos (by omega)]
/-- signs drawn one by one -/
theorem signs_c {call : Nat → List EV → EH → R EV} {wf : Nat} {x : IE} {e : EEnv} {W : Walked} {v r : Nat} (hW : W.src = none) (one : ∀ (y : PyData) (h : EH), Fd h r → ∃ (c : Nat) (h' : EH), den (T wf) call x ((wipeE e [v]).set v (some (.pv y))) h = .ok (.pv (.str (S [c]))) h' ∧ Dr r h h') (xs : List PyData) {h : EH} (f : Fd h r) :
    ∃ (cs : List Nat) (h' : EH), compD (bindT (.nm v)) (fun _ h => .ok true h) (den (T wf) call x) W [v] e xs h = .ok (cs.map fun c => .str (S [c])) h' ∧ cs.length = xs.length ∧ Dr r h h' := by
  obtain ⟨ps, h2, cm, cs, q1, q2, D⟩ := compD_run (bnd := bindT (.nm v)) (elt := den (T wf) call x) (w := W) (own := [v]) (e := e)
    (fun j qs h' => ∃ cs : List Nat, qs = cs.map (fun c => .str (S [c])) ∧ cs.length = j ∧ Dr r h h') xs 0 [] h ⟨[], rfl, rfl, Dr.refl f⟩ (fun _ _ _ _ => by unfold Walked.still; rw [hW]; trivial) (by
      rintro j y qs h' hx ⟨cs, rfl, c2, D⟩
      obtain ⟨c, h3, e3, D3⟩ := one y h' D.1
      exact ⟨_, rfl, .pv (.str (S [c])), h3, .str (S [c]), h3, e3, rfl, cs ++ [c], by simp, by simp [c2], D.trans D3⟩)
  simp only [List.nil_append, Nat.zero_add] at q1 q2
  subst q1
  exact ⟨cs, h2, cm, q2, D⟩
theorem letters_s (w n : Nat) {r : Nat} {h : EH} (f : Fd h r) (m : Int) (m0 : 0 ≤ m) (m1 : m ≤ 900) :
    ∃ (cs : List Nat) (h' : EH), callD (T w) F (n + 2) f__law_letters [.ref r, .pv (.int m)] h = .ok (.pv (.str (S cs))) h' ∧ (cs.length : Int) = m ∧ Dr r h h' := by
  obtain ⟨cs, h', ec, lc, D⟩ := signs_c (call := callD (T w) F (n + 1)) (wf := w) (x := x__law_letters_0) (e := [some (.ref r), some (.pv (.int m)), none]) (W := ⟨rangeP 0 m.toNat, none⟩) (v := 2) (r := r) rfl (fun y h f => by
    obtain ⟨d, h3, e2, z0, z1, D3⟩ := take_s w n (m := 26) f (by decide) (by decide)
    refine ⟨97 + d.toNat, h3, ?_, D3⟩
    have ix := abc_ix d z0 z1 h3
    simp only [abcP] at ix
    simp -implicitDefEqProofs [e_var, e_lit, e_glob, e_bin, e_neg, e_not, e_cmp, e_isN, e_notN, e_chain, e_and, e_or, e_ife, e_tup, e_lst, e_ix, e_sl, e_rev, e_dlit, e_dnew, e_dget, e_gdget, e_gdin, e_gget, e_repr, e_maxd, e_every, e_lzip, e_own, e_call, e_bi, e_bm, e_bm0, e_isi, e_comp, e_Ono, e_Oyes, e_Cno, e_Cyes, e_Wseq, e_Wr1, e_Wr2, e_Wzip, e_Wenum, e_snil, e_scons, e_and1, e_and2, e_or1, e_or2, e_pnil, e_pcons, e_Sasg, e_SasgT, e_Spar2, e_Ssetix, e_Sdput, e_Sexp, e_Sret, e_SretN, e_Spass, e_Sbrk, e_Siff, e_Sfor, e_Swhile, e_Stry, e_Sraise, e_Ssnil, e_Sscons, kBin2_a, kBin1_a, kNeg_a, kNot_a, kCmp2_a, kCmp1_a, kIsN_a, kB_a, kCh4_a, kCh3_a, kCh2_a, kCh1_a, kIfe_a, kTup_a, kLst_a, kIx2_a, kIx1_a, kSl3_a, kSl2_a, kSl1_a, kRev_a, kDl_a, kDnew_a, kDget_a, kGdg_a, kGdi_a, kOwn_a, kGg2_a, kGg1_a, kRepr_a, kMd2_a, kMd1_a, kEvery_a, kLz2_a, kLz1_a, kDput2_a, kDput1_a, kCall_a, kBi_a, kBm2_a, kBm1_a, kBm0_a, kIsi_a, kCompE_a, kComp_a, kPart_a, kWalk_a, kR1_a, kR2b_a, kR2_a, kZipb_a, kZip_a, kEnum_a, kConsV_a, kDens_a, kAnd2_a, kOr2_a, kConsP_a, kDenP2_a, kData_a, kAsg_a, kAsgT_a, kPar2_a, kPar1_a, kSet3_a, kSet2_a, kSet1_a, kExp_a, kRet_a, kIf_a, kFor_a, kCond_a, kSs_a, varV, storeV, EV.settle, finV_ret, finV_retT, finV_nx, okb, oki, oks, asB_b, cmpV, ordV, G.eqV, scalP, dataOf, binV, addV, subV, biV, lenV, intV, strV, listV, tupleV, allV, int2V, seqOf, bmV, bm0V, recvB, isStrB, isLstB, appendV, joinV, isiV, tyIs, notV, negV, partV, walkV, walkOf, range1V, range2V, dlitV, tupV, newLV, dataV, toP, S_len, S_cps, S_app, S_eq, S_beq, S_one, num_S, num_R, top_get, top_set, top_take, PyData.eqv, PyData.eqvAll, size_eq, T_c, T_w, T_d, cvs, atI_0, atI_1, isNV, lstOf, inV_S, dnewV, dgetV, gdgetV, gdinV, dputV, ggetV, maxdV, everyV, lzipV, reprV, ownV, x__law_letters_0, e2, ix, wipeE]) (rangeP 0 m.toNat) f
  rw [range_len] at lc
  refine ⟨cs, h', ?_, by omega, D⟩
  have rg := range1_ok m (by omega) (by omega)
  have jc := join_cs cs (by omega)
  have zc : cs.length ≤ 16777216 := by omega
  rw [call__law_letters]
  simp -implicitDefEqProofs [e_var, e_lit, e_glob, e_bin, e_neg, e_not, e_cmp, e_isN, e_notN, e_chain, e_and, e_or, e_ife, e_tup, e_lst, e_ix, e_sl, e_rev, e_dlit, e_dnew, e_dget, e_gdget, e_gdin, e_gget, e_repr, e_maxd, e_every, e_lzip, e_own, e_call, e_bi, e_bm, e_bm0, e_isi, e_comp, e_Ono, e_Oyes, e_Cno, e_Cyes, e_Wseq, e_Wr1, e_Wr2, e_Wzip, e_Wenum, e_snil, e_scons, e_and1, e_and2, e_or1, e_or2, e_pnil, e_pcons, e_Sasg, e_SasgT, e_Spar2, e_Ssetix, e_Sdput, e_Sexp, e_Sret, e_SretN, e_Spass, e_Sbrk, e_Siff, e_Sfor, e_Swhile, e_Stry, e_Sraise, e_Ssnil, e_Sscons, kBin2_a, kBin1_a, kNeg_a, kNot_a, kCmp2_a, kCmp1_a, kIsN_a, kB_a, kCh4_a, kCh3_a, kCh2_a, kCh1_a, kIfe_a, kTup_a, kLst_a, kIx2_a, kIx1_a, kSl3_a, kSl2_a, kSl1_a, kRev_a, kDl_a, kDnew_a, kDget_a, kGdg_a, kGdi_a, kOwn_a, kGg2_a, kGg1_a, kRepr_a, kMd2_a, kMd1_a, kEvery_a, kLz2_a, kLz1_a, kDput2_a, kDput1_a, kCall_a, kBi_a, kBm2_a, kBm1_a, kBm0_a, kIsi_a, kCompE_a, kComp_a, kPart_a, kWalk_a, kR1_a, kR2b_a, kR2_a, kZipb_a, kZip_a, kEnum_a, kConsV_a, kDens_a, kAnd2_a, kOr2_a, kConsP_a, kDenP2_a, kData_a, kAsg_a, kAsgT_a, kPar2_a, kPar1_a, kSet3_a, kSet2_a, kSet1_a, kExp_a, kRet_a, kIf_a, kFor_a, kCond_a, kSs_a, varV, storeV, EV.settle, finV_ret, finV_retT, finV_nx, okb, oki, oks, asB_b, cmpV, ordV, G.eqV, scalP, dataOf, binV, addV, subV, biV, lenV, intV, strV, listV, tupleV, allV, int2V, seqOf, bmV, bm0V, recvB, isStrB, isLstB, appendV, joinV, isiV, tyIs, notV, negV, partV, walkV, walkOf, range1V, range2V, dlitV, tupV, newLV, dataV, toP, S_len, S_cps, S_app, S_eq, S_beq, S_one, num_S, num_R, top_get, top_set, top_take, PyData.eqv, PyData.eqvAll, size_eq, T_c, T_w, T_d, cvs, atI_0, atI_1, isNV, lstOf, inV_S, dnewV, dgetV, gdgetV, gdinV, dputV, ggetV, maxdV, everyV, lzipV, reprV, ownV, b__law_letters, -range1V, -joinV, rg, ec, denC_no, jc, zc, D.take]
def sgL : List Nat := [32, 33, 34, 35, 36, 38, 39, 40, 41, 42, 43, 44, 45, 46, 47, 48, 49, 50, 51, 52, 53, 54, 55, 56, 57, 58, 59, 60, 61, 62, 63, 64, 65, 66, 67, 68, 69, 70, 71, 72, 73, 74, 75, 76, 77, 78, 79, 80, 81, 82, 83, 84, 85, 86, 87, 88, 89, 90, 91, 92, 93, 94, 95, 96, 97, 98, 99, 100, 101, 102, 103, 104, 105, 106, 107, 108, 109, 110, 111, 112, 113, 114, 115, 116, 117, 118, 119, 120, 121, 122, 123, 124, 125, 126, 10]
theorem any_ix (l : List Nat) (hl : l.length ≤ 16777216) (d : Int) (h0 : 0 ≤ d) (h1 : d < l.length) (h : EH) : ∃ c, G.ixV (.pv (.str (S l))) (.pv (.int d)) h = oks (S [c]) h := by
  obtain ⟨k, rfl⟩ : ∃ k : Nat, d = (k : Int) := ⟨d.toNat, by omega⟩
  have hk : k < l.length := by omega
  refine ⟨l[k], ?_⟩
  have e : atI l (k : Int) = some l[k] := atI_nat (List.getElem?_eq_getElem hk)
  simp [G.ixV, S_len, size_eq, S_cps, e, S_one, hl]
theorem sign_s (w n : Nat) {r : Nat} {h : EH} (f : Fd h r) : ∃ (c : Nat) (h' : EH), callD (T w) F (n + 2) f__law_sign [.ref r] h = .ok (.pv (.str (S [c]))) h' ∧ Dr r h h' := by
  obtain ⟨d, h3, e2, z0, z1, D3⟩ := take_s w n (m := 95) f (by decide) (by decide)
  obtain ⟨c, ix⟩ := any_ix sgL (by decide) d z0 (by have : (sgL.length : Int) = 95 := by decide
                                                    omega) h3
  refine ⟨c, h3, ?_, D3⟩
  rw [call__law_sign]
  simp only [sgL] at ix
  simp -implicitDefEqProofs [e_var, e_lit, e_glob, e_bin, e_neg, e_not, e_cmp, e_isN, e_notN, e_chain, e_and, e_or, e_ife, e_tup, e_lst, e_ix, e_sl, e_rev, e_dlit, e_dnew, e_dget, e_gdget, e_gdin, e_gget, e_repr, e_maxd, e_every, e_lzip, e_own, e_call, e_bi, e_bm, e_bm0, e_isi, e_comp, e_Ono, e_Oyes, e_Cno, e_Cyes, e_Wseq, e_Wr1, e_Wr2, e_Wzip, e_Wenum, e_snil, e_scons, e_and1, e_and2, e_or1, e_or2, e_pnil, e_pcons, e_Sasg, e_SasgT, e_Spar2, e_Ssetix, e_Sdput, e_Sexp, e_Sret, e_SretN, e_Spass, e_Sbrk, e_Siff, e_Sfor, e_Swhile, e_Stry, e_Sraise, e_Ssnil, e_Sscons, kBin2_a, kBin1_a, kNeg_a, kNot_a, kCmp2_a, kCmp1_a, kIsN_a, kB_a, kCh4_a, kCh3_a, kCh2_a, kCh1_a, kIfe_a, kTup_a, kLst_a, kIx2_a, kIx1_a, kSl3_a, kSl2_a, kSl1_a, kRev_a, kDl_a, kDnew_a, kDget_a, kGdg_a, kGdi_a, kOwn_a, kGg2_a, kGg1_a, kRepr_a, kMd2_a, kMd1_a, kEvery_a, kLz2_a, kLz1_a, kDput2_a, kDput1_a, kCall_a, kBi_a, kBm2_a, kBm1_a, kBm0_a, kIsi_a, kCompE_a, kComp_a, kPart_a, kWalk_a, kR1_a, kR2b_a, kR2_a, kZipb_a, kZip_a, kEnum_a, kConsV_a, kDens_a, kAnd2_a, kOr2_a, kConsP_a, kDenP2_a, kData_a, kAsg_a, kAsgT_a, kPar2_a, kPar1_a, kSet3_a, kSet2_a, kSet1_a, kExp_a, kRet_a, kIf_a, kFor_a, kCond_a, kSs_a, varV, storeV, EV.settle, finV_ret, finV_retT, finV_nx, okb, oki, oks, asB_b, cmpV, ordV, G.eqV, scalP, dataOf, binV, addV, subV, biV, lenV, intV, strV, listV, tupleV, allV, int2V, seqOf, bmV, bm0V, recvB, isStrB, isLstB, appendV, joinV, isiV, tyIs, notV, negV, partV, walkV, walkOf, range1V, range2V, dlitV, tupV, newLV, dataV, toP, S_len, S_cps, S_app, S_eq, S_beq, S_one, num_S, num_R, top_get, top_set, top_take, PyData.eqv, PyData.eqvAll, size_eq, T_c, T_w, T_d, cvs, atI_0, atI_1, isNV, lstOf, inV_S, dnewV, dgetV, gdgetV, gdinV, dputV, ggetV, maxdV, everyV, lzipV, reprV, ownV, b__law_sign, e2, ix, D3.take]
theorem kept_s (w n : Nat) (h : EH) : callD (T w) F (n + 1) f__law_kept [] h = .ok (.tl keptP) h := by
  rw [call__law_kept]
  simp -implicitDefEqProofs [e_var, e_lit, e_glob, e_bin, e_neg, e_not, e_cmp, e_isN, e_notN, e_chain, e_and, e_or, e_ife, e_tup, e_lst, e_ix, e_sl, e_rev, e_dlit, e_dnew, e_dget, e_gdget, e_gdin, e_gget, e_repr, e_maxd, e_every, e_lzip, e_own, e_call, e_bi, e_bm, e_bm0, e_isi, e_comp, e_Ono, e_Oyes, e_Cno, e_Cyes, e_Wseq, e_Wr1, e_Wr2, e_Wzip, e_Wenum, e_snil, e_scons, e_and1, e_and2, e_or1, e_or2, e_pnil, e_pcons, e_Sasg, e_SasgT, e_Spar2, e_Ssetix, e_Sdput, e_Sexp, e_Sret, e_SretN, e_Spass, e_Sbrk, e_Siff, e_Sfor, e_Swhile, e_Stry, e_Sraise, e_Ssnil, e_Sscons, kBin2_a, kBin1_a, kNeg_a, kNot_a, kCmp2_a, kCmp1_a, kIsN_a, kB_a, kCh4_a, kCh3_a, kCh2_a, kCh1_a, kIfe_a, kTup_a, kLst_a, kIx2_a, kIx1_a, kSl3_a, kSl2_a, kSl1_a, kRev_a, kDl_a, kDnew_a, kDget_a, kGdg_a, kGdi_a, kOwn_a, kGg2_a, kGg1_a, kRepr_a, kMd2_a, kMd1_a, kEvery_a, kLz2_a, kLz1_a, kDput2_a, kDput1_a, kCall_a, kBi_a, kBm2_a, kBm1_a, kBm0_a, kIsi_a, kCompE_a, kComp_a, kPart_a, kWalk_a, kR1_a, kR2b_a, kR2_a, kZipb_a, kZip_a, kEnum_a, kConsV_a, kDens_a, kAnd2_a, kOr2_a, kConsP_a, kDenP2_a, kData_a, kAsg_a, kAsgT_a, kPar2_a, kPar1_a, kSet3_a, kSet2_a, kSet1_a, kExp_a, kRet_a, kIf_a, kFor_a, kCond_a, kSs_a, varV, storeV, EV.settle, finV_ret, finV_retT, finV_nx, okb, oki, oks, asB_b, cmpV, ordV, G.eqV, scalP, dataOf, binV, addV, subV, biV, lenV, intV, strV, listV, tupleV, allV, int2V, seqOf, bmV, bm0V, recvB, isStrB, isLstB, appendV, joinV, isiV, tyIs, notV, negV, partV, walkV, walkOf, range1V, range2V, dlitV, tupV, newLV, dataV, toP, S_len, S_cps, S_app, S_eq, S_beq, S_one, num_S, num_R, top_get, top_set, top_take, PyData.eqv, PyData.eqvAll, size_eq, T_c, T_w, T_d, cvs, atI_0, atI_1, isNV, lstOf, inV_S, dnewV, dgetV, gdgetV, gdinV, dputV, ggetV, maxdV, everyV, lzipV, reprV, ownV, b__law_kept, keptP, keptL]
theorem sl_len (l : List Nat) (lo hi : Option Int) (h : EH) (hl : l.length ≤ 16777216) : ∃ m : List Nat, slV (.pv (.str (S l))) lo hi h = oks (S m) h ∧ m.length ≤ l.length := by
  refine ⟨_, by simp only [slV, S_len, size_eq]; rw [if_pos hl, cut_S], ?_⟩
  rw [List.length_take, List.length_drop]
  omega
theorem near_s (w n : Nat) {r : Nat} {h : EH} (f : Fd h r) (l : List Nat) (hl : l.length ≤ 100) :
    ∃ (m : List Nat) (h' : EH), callD (T w) F (n + 3) f__law_near [.ref r, .pv (.str (S l))] h = .ok (.pv (.str (S m))) h' ∧ m.length ≤ 300 ∧ Dr r h h' := by
  obtain ⟨at_, h1, e1, a0, a1, D1⟩ := take_s w (n + 1) (m := (l.length : Int) + 1) f (by omega) (by omega)
  obtain ⟨z, h2, e2, z0, z1, D2⟩ := take_s w (n + 1) (m := 3) D1.1 (by decide) (by decide)
  obtain ⟨c, h3, e3, D3⟩ := sign_s w n D2.1
  obtain ⟨y, h4, e4, y0, y1, D4⟩ := take_s w (n + 1) (m := 2) D3.1 (by decide) (by decide)
  obtain ⟨cut, ecut⟩ : ∃ cut : Int, atI [PyData.int 0, .int 1, .int 1] z = some (.int cut) := by
    rcases (by omega : z = 0 ∨ z = 1 ∨ z = 2) with rfl | rfl | rfl
    · exact ⟨0, rfl⟩
    · exact ⟨1, rfl⟩
    · exact ⟨1, rfl⟩
  obtain ⟨u, eu, lu⟩ : ∃ u : List Nat, atI [PyData.str (S [c]), .str (S [])] y = some (.str (S u)) ∧ u.length ≤ 1 := by
    rcases (by omega : y = 0 ∨ y = 1) with rfl | rfl
    · exact ⟨[c], rfl, Nat.le_refl _⟩
    · exact ⟨[], rfl, by simp⟩
  obtain ⟨m1, s1, l1⟩ := sl_len l none (some at_) h2 (by omega)
  obtain ⟨m2, s2, l2⟩ := sl_len l (some (at_ + cut)) none h4 (by omega)
  have D := ((D1.trans D2).trans D3).trans D4
  refine ⟨m1 ++ u ++ m2, h4, ?_, by simp; omega, D⟩
  have z1 : m1.length + u.length ≤ 16777216 := by omega
  have z2 : m1.length + (u.length + m2.length) ≤ 16777216 := by omega
  have z3 : m1.length + u.length + m2.length ≤ 16777216 := by omega
  have zl : l.length ≤ 16777216 := by omega
  rw [call__law_near]
  simp -implicitDefEqProofs [e_var, e_lit, e_glob, e_bin, e_neg, e_not, e_cmp, e_isN, e_notN, e_chain, e_and, e_or, e_ife, e_tup, e_lst, e_ix, e_sl, e_rev, e_dlit, e_dnew, e_dget, e_gdget, e_gdin, e_gget, e_repr, e_maxd, e_every, e_lzip, e_own, e_call, e_bi, e_bm, e_bm0, e_isi, e_comp, e_Ono, e_Oyes, e_Cno, e_Cyes, e_Wseq, e_Wr1, e_Wr2, e_Wzip, e_Wenum, e_snil, e_scons, e_and1, e_and2, e_or1, e_or2, e_pnil, e_pcons, e_Sasg, e_SasgT, e_Spar2, e_Ssetix, e_Sdput, e_Sexp, e_Sret, e_SretN, e_Spass, e_Sbrk, e_Siff, e_Sfor, e_Swhile, e_Stry, e_Sraise, e_Ssnil, e_Sscons, kBin2_a, kBin1_a, kNeg_a, kNot_a, kCmp2_a, kCmp1_a, kIsN_a, kB_a, kCh4_a, kCh3_a, kCh2_a, kCh1_a, kIfe_a, kTup_a, kLst_a, kIx2_a, kIx1_a, kSl3_a, kSl2_a, kSl1_a, kRev_a, kDl_a, kDnew_a, kDget_a, kGdg_a, kGdi_a, kOwn_a, kGg2_a, kGg1_a, kRepr_a, kMd2_a, kMd1_a, kEvery_a, kLz2_a, kLz1_a, kDput2_a, kDput1_a, kCall_a, kBi_a, kBm2_a, kBm1_a, kBm0_a, kIsi_a, kCompE_a, kComp_a, kPart_a, kWalk_a, kR1_a, kR2b_a, kR2_a, kZipb_a, kZip_a, kEnum_a, kConsV_a, kDens_a, kAnd2_a, kOr2_a, kConsP_a, kDenP2_a, kData_a, kAsg_a, kAsgT_a, kPar2_a, kPar1_a, kSet3_a, kSet2_a, kSet1_a, kExp_a, kRet_a, kIf_a, kFor_a, kCond_a, kSs_a, varV, storeV, EV.settle, finV_ret, finV_retT, finV_nx, okb, oki, oks, asB_b, cmpV, ordV, G.eqV, scalP, dataOf, binV, addV, subV, biV, lenV, intV, strV, listV, tupleV, allV, int2V, seqOf, bmV, bm0V, recvB, isStrB, isLstB, appendV, joinV, isiV, tyIs, notV, negV, partV, walkV, walkOf, range1V, range2V, dlitV, tupV, newLV, dataV, toP, S_len, S_cps, S_app, S_eq, S_beq, S_one, num_S, num_R, top_get, top_set, top_take, PyData.eqv, PyData.eqvAll, size_eq, T_c, T_w, T_d, cvs, atI_0, atI_1, isNV, lstOf, inV_S, dnewV, dgetV, gdgetV, gdinV, dputV, ggetV, maxdV, everyV, lzipV, reprV, ownV, b__law_near, ixV, e1, e2, e3, e4, ecut, eu, s1, s2, z1, z2, z3, zl, D.take]
theorem up_S (l : List Nat) : ∃ m : List Nat, Txt.upper (S l) = S m ∧ m.length ≤ 3 * l.length := by
  have h := PyProof.Rows.len_upper (S l)
  rw [S_len] at h
  refine ⟨(Txt.upper (S l)).cps.toList, ?_, by simpa [Str.length] using h⟩
  cases Txt.upper (S l)
  simp [S]
theorem text_s (w n : Nat) {r : Nat} {h : EH} (f : Fd h r) :
    ∃ (m : List Nat) (h' : EH), callD (T w) F (n + 4) f__law_text [.ref r] h = .ok (.pv (.str (S m))) h' ∧ m.length ≤ 300 ∧ Dr r h h' := by
  obtain ⟨fo, h1, e1, f0, f1, D1⟩ := take_s w (n + 2) (m := 8) f (by decide) (by decide)
  have ek := kept_s w (n + 2) h1
  obtain ⟨z, h2, e2, z0, z1, D2⟩ := take_s w (n + 2) (m := 18) D1.1 (by decide) (by decide)
  obtain ⟨k, hk⟩ : ∃ k : Nat, z = (k : Int) := ⟨z.toNat, by omega⟩
  have kl : k < keptL.length := by have : keptL.length = 18 := by decide
                                   omega
  obtain ⟨kw, ekw, kwl⟩ : ∃ kw : List Nat, atI keptP z = some (.str (S kw)) ∧ kw ∈ keptL := by
    refine ⟨keptL[k], ?_, List.getElem_mem kl⟩
    rw [hk]
    exact atI_nat (by simp [keptP, List.getElem?_eq_getElem kl])
  have kwn : 1 ≤ kw.length ∧ kw.length ≤ 6 := by
    have : ∀ y ∈ keptL, 1 ≤ y.length ∧ y.length ≤ 6 := by decide
    exact this kw kwl
  have D := D1.trans D2
  have g2 := ixV (.pv (.list keptP)) (.pv (.int z)) h2
  have ix2 : G.ixV (.pv (.list keptP)) (.pv (.int z)) h2 = .ok (.pv (.str (S kw))) h2 := by simp [G.ixV, seqOf, ekw]
  rw [call__law_text]
  by_cases c1 : fo < 2
  · obtain ⟨x9, h3, e3, x0, x1, D3⟩ := take_s w (n + 2) (m := 9) D2.1 (by decide) (by decide)
    obtain ⟨x30, h4, e4, y0, y1, D4⟩ := take_s w (n + 2) (m := 30) D3.1 (by decide) (by decide)
    obtain ⟨x8, h5, e5, w0, w1, D5⟩ := take_s w (n + 2) (m := 8) D4.1 (by decide) (by decide)
    obtain ⟨m, em, m0, m1⟩ : ∃ m : Int, G.ixV (.pv (.list [.int x9, .int (20 + x30)])) (.pv (.int (if x8 = 1 then 1 else 0))) h5 = .ok (.pv (.int m)) h5 ∧ 0 ≤ m ∧ m ≤ 100 := by
      by_cases c : x8 = 1
      · refine ⟨20 + x30, ?_, by omega, by omega⟩
        rw [if_pos c]; rfl
      · refine ⟨x9, ?_, by omega, by omega⟩
        rw [if_neg c]; rfl
    obtain ⟨cs, h6, e6, lc, D6⟩ := letters_s w (n + 1) D5.1 m m0 (by omega)
    have DD := (((D.trans D3).trans D4).trans D5).trans D6
    refine ⟨cs, h6, ?_, by omega, DD⟩
    simp -implicitDefEqProofs [e_var, e_lit, e_glob, e_bin, e_neg, e_not, e_cmp, e_isN, e_notN, e_chain, e_and, e_or, e_ife, e_tup, e_lst, e_ix, e_sl, e_rev, e_dlit, e_dnew, e_dget, e_gdget, e_gdin, e_gget, e_repr, e_maxd, e_every, e_lzip, e_own, e_call, e_bi, e_bm, e_bm0, e_isi, e_comp, e_Ono, e_Oyes, e_Cno, e_Cyes, e_Wseq, e_Wr1, e_Wr2, e_Wzip, e_Wenum, e_snil, e_scons, e_and1, e_and2, e_or1, e_or2, e_pnil, e_pcons, e_Sasg, e_SasgT, e_Spar2, e_Ssetix, e_Sdput, e_Sexp, e_Sret, e_SretN, e_Spass, e_Sbrk, e_Siff, e_Sfor, e_Swhile, e_Stry, e_Sraise, e_Ssnil, e_Sscons, kBin2_a, kBin1_a, kNeg_a, kNot_a, kCmp2_a, kCmp1_a, kIsN_a, kB_a, kCh4_a, kCh3_a, kCh2_a, kCh1_a, kIfe_a, kTup_a, kLst_a, kIx2_a, kIx1_a, kSl3_a, kSl2_a, kSl1_a, kRev_a, kDl_a, kDnew_a, kDget_a, kGdg_a, kGdi_a, kOwn_a, kGg2_a, kGg1_a, kRepr_a, kMd2_a, kMd1_a, kEvery_a, kLz2_a, kLz1_a, kDput2_a, kDput1_a, kCall_a, kBi_a, kBm2_a, kBm1_a, kBm0_a, kIsi_a, kCompE_a, kComp_a, kPart_a, kWalk_a, kR1_a, kR2b_a, kR2_a, kZipb_a, kZip_a, kEnum_a, kConsV_a, kDens_a, kAnd2_a, kOr2_a, kConsP_a, kDenP2_a, kData_a, kAsg_a, kAsgT_a, kPar2_a, kPar1_a, kSet3_a, kSet2_a, kSet1_a, kExp_a, kRet_a, kIf_a, kFor_a, kCond_a, kSs_a, varV, storeV, EV.settle, finV_ret, finV_retT, finV_nx, okb, oki, oks, asB_b, cmpV, ordV, G.eqV, scalP, dataOf, binV, addV, subV, biV, lenV, intV, strV, listV, tupleV, allV, int2V, seqOf, bmV, bm0V, recvB, isStrB, isLstB, appendV, joinV, isiV, tyIs, notV, negV, partV, walkV, walkOf, range1V, range2V, dlitV, tupV, newLV, dataV, toP, S_len, S_cps, S_app, S_eq, S_beq, S_one, num_S, num_R, top_get, top_set, top_take, PyData.eqv, PyData.eqvAll, size_eq, T_c, T_w, T_d, cvs, atI_0, atI_1, isNV, lstOf, inV_S, dnewV, dgetV, gdgetV, gdinV, dputV, ggetV, maxdV, everyV, lzipV, reprV, ownV, b__law_text, e1, ek, e2, ix2, c1, e3, e4, e5, em, e6, DD.take]
  by_cases c2 : fo = 2
  · obtain ⟨x9, h3, e3, x0, x1, D3⟩ := take_s w (n + 2) (m := 9) D2.1 (by decide) (by decide)
    obtain ⟨cs, h4, ec, lc, D4⟩ := signs_c (call := callD (T w) F (n + 3)) (wf := w) (x := x__law_text_0) (e := [some (.ref r), some (.pv (.int 2)), some (.pv (.str (S kw))), none]) (W := ⟨rangeP 0 x9.toNat, none⟩) (v := 3) (r := r) rfl (fun y h f => by
      obtain ⟨c, h3, e2, D3⟩ := sign_s w (n + 1) f
      refine ⟨c, h3, ?_, D3⟩
      simp -implicitDefEqProofs [e_var, e_lit, e_glob, e_bin, e_neg, e_not, e_cmp, e_isN, e_notN, e_chain, e_and, e_or, e_ife, e_tup, e_lst, e_ix, e_sl, e_rev, e_dlit, e_dnew, e_dget, e_gdget, e_gdin, e_gget, e_repr, e_maxd, e_every, e_lzip, e_own, e_call, e_bi, e_bm, e_bm0, e_isi, e_comp, e_Ono, e_Oyes, e_Cno, e_Cyes, e_Wseq, e_Wr1, e_Wr2, e_Wzip, e_Wenum, e_snil, e_scons, e_and1, e_and2, e_or1, e_or2, e_pnil, e_pcons, e_Sasg, e_SasgT, e_Spar2, e_Ssetix, e_Sdput, e_Sexp, e_Sret, e_SretN, e_Spass, e_Sbrk, e_Siff, e_Sfor, e_Swhile, e_Stry, e_Sraise, e_Ssnil, e_Sscons, kBin2_a, kBin1_a, kNeg_a, kNot_a, kCmp2_a, kCmp1_a, kIsN_a, kB_a, kCh4_a, kCh3_a, kCh2_a, kCh1_a, kIfe_a, kTup_a, kLst_a, kIx2_a, kIx1_a, kSl3_a, kSl2_a, kSl1_a, kRev_a, kDl_a, kDnew_a, kDget_a, kGdg_a, kGdi_a, kOwn_a, kGg2_a, kGg1_a, kRepr_a, kMd2_a, kMd1_a, kEvery_a, kLz2_a, kLz1_a, kDput2_a, kDput1_a, kCall_a, kBi_a, kBm2_a, kBm1_a, kBm0_a, kIsi_a, kCompE_a, kComp_a, kPart_a, kWalk_a, kR1_a, kR2b_a, kR2_a, kZipb_a, kZip_a, kEnum_a, kConsV_a, kDens_a, kAnd2_a, kOr2_a, kConsP_a, kDenP2_a, kData_a, kAsg_a, kAsgT_a, kPar2_a, kPar1_a, kSet3_a, kSet2_a, kSet1_a, kExp_a, kRet_a, kIf_a, kFor_a, kCond_a, kSs_a, varV, storeV, EV.settle, finV_ret, finV_retT, finV_nx, okb, oki, oks, asB_b, cmpV, ordV, G.eqV, scalP, dataOf, binV, addV, subV, biV, lenV, intV, strV, listV, tupleV, allV, int2V, seqOf, bmV, bm0V, recvB, isStrB, isLstB, appendV, joinV, isiV, tyIs, notV, negV, partV, walkV, walkOf, range1V, range2V, dlitV, tupV, newLV, dataV, toP, S_len, S_cps, S_app, S_eq, S_beq, S_one, num_S, num_R, top_get, top_set, top_take, PyData.eqv, PyData.eqvAll, size_eq, T_c, T_w, T_d, cvs, atI_0, atI_1, isNV, lstOf, inV_S, dnewV, dgetV, gdgetV, gdinV, dputV, ggetV, maxdV, everyV, lzipV, reprV, ownV, x__law_text_0, e2, wipeE]) (rangeP 0 x9.toNat) D3.1
    rw [range_len] at lc
    have DD := (D.trans D3).trans D4
    refine ⟨cs, h4, ?_, by omega, DD⟩
    have rg := range1_ok x9 (by omega) (by omega)
    have jc := join_cs cs (by omega)
    have zc : cs.length ≤ 16777216 := by omega
    subst c2
    simp -implicitDefEqProofs [e_var, e_lit, e_glob, e_bin, e_neg, e_not, e_cmp, e_isN, e_notN, e_chain, e_and, e_or, e_ife, e_tup, e_lst, e_ix, e_sl, e_rev, e_dlit, e_dnew, e_dget, e_gdget, e_gdin, e_gget, e_repr, e_maxd, e_every, e_lzip, e_own, e_call, e_bi, e_bm, e_bm0, e_isi, e_comp, e_Ono, e_Oyes, e_Cno, e_Cyes, e_Wseq, e_Wr1, e_Wr2, e_Wzip, e_Wenum, e_snil, e_scons, e_and1, e_and2, e_or1, e_or2, e_pnil, e_pcons, e_Sasg, e_SasgT, e_Spar2, e_Ssetix, e_Sdput, e_Sexp, e_Sret, e_SretN, e_Spass, e_Sbrk, e_Siff, e_Sfor, e_Swhile, e_Stry, e_Sraise, e_Ssnil, e_Sscons, kBin2_a, kBin1_a, kNeg_a, kNot_a, kCmp2_a, kCmp1_a, kIsN_a, kB_a, kCh4_a, kCh3_a, kCh2_a, kCh1_a, kIfe_a, kTup_a, kLst_a, kIx2_a, kIx1_a, kSl3_a, kSl2_a, kSl1_a, kRev_a, kDl_a, kDnew_a, kDget_a, kGdg_a, kGdi_a, kOwn_a, kGg2_a, kGg1_a, kRepr_a, kMd2_a, kMd1_a, kEvery_a, kLz2_a, kLz1_a, kDput2_a, kDput1_a, kCall_a, kBi_a, kBm2_a, kBm1_a, kBm0_a, kIsi_a, kCompE_a, kComp_a, kPart_a, kWalk_a, kR1_a, kR2b_a, kR2_a, kZipb_a, kZip_a, kEnum_a, kConsV_a, kDens_a, kAnd2_a, kOr2_a, kConsP_a, kDenP2_a, kData_a, kAsg_a, kAsgT_a, kPar2_a, kPar1_a, kSet3_a, kSet2_a, kSet1_a, kExp_a, kRet_a, kIf_a, kFor_a, kCond_a, kSs_a, varV, storeV, EV.settle, finV_ret, finV_retT, finV_nx, okb, oki, oks, asB_b, cmpV, ordV, G.eqV, scalP, dataOf, binV, addV, subV, biV, lenV, intV, strV, listV, tupleV, allV, int2V, seqOf, bmV, bm0V, recvB, isStrB, isLstB, appendV, joinV, isiV, tyIs, notV, negV, partV, walkV, walkOf, range1V, range2V, dlitV, tupV, newLV, dataV, toP, S_len, S_cps, S_app, S_eq, S_beq, S_one, num_S, num_R, top_get, top_set, top_take, PyData.eqv, PyData.eqvAll, size_eq, T_c, T_w, T_d, cvs, atI_0, atI_1, isNV, lstOf, inV_S, dnewV, dgetV, gdgetV, gdinV, dputV, ggetV, maxdV, everyV, lzipV, reprV, ownV, b__law_text, -range1V, -joinV, e1, ek, e2, ix2, e3, rg, ec, denC_no, jc, zc, DD.take]
  by_cases c3 : fo = 3
  · refine ⟨kw, h2, ?_, by omega, D⟩
    subst c3
    simp -implicitDefEqProofs [e_var, e_lit, e_glob, e_bin, e_neg, e_not, e_cmp, e_isN, e_notN, e_chain, e_and, e_or, e_ife, e_tup, e_lst, e_ix, e_sl, e_rev, e_dlit, e_dnew, e_dget, e_gdget, e_gdin, e_gget, e_repr, e_maxd, e_every, e_lzip, e_own, e_call, e_bi, e_bm, e_bm0, e_isi, e_comp, e_Ono, e_Oyes, e_Cno, e_Cyes, e_Wseq, e_Wr1, e_Wr2, e_Wzip, e_Wenum, e_snil, e_scons, e_and1, e_and2, e_or1, e_or2, e_pnil, e_pcons, e_Sasg, e_SasgT, e_Spar2, e_Ssetix, e_Sdput, e_Sexp, e_Sret, e_SretN, e_Spass, e_Sbrk, e_Siff, e_Sfor, e_Swhile, e_Stry, e_Sraise, e_Ssnil, e_Sscons, kBin2_a, kBin1_a, kNeg_a, kNot_a, kCmp2_a, kCmp1_a, kIsN_a, kB_a, kCh4_a, kCh3_a, kCh2_a, kCh1_a, kIfe_a, kTup_a, kLst_a, kIx2_a, kIx1_a, kSl3_a, kSl2_a, kSl1_a, kRev_a, kDl_a, kDnew_a, kDget_a, kGdg_a, kGdi_a, kOwn_a, kGg2_a, kGg1_a, kRepr_a, kMd2_a, kMd1_a, kEvery_a, kLz2_a, kLz1_a, kDput2_a, kDput1_a, kCall_a, kBi_a, kBm2_a, kBm1_a, kBm0_a, kIsi_a, kCompE_a, kComp_a, kPart_a, kWalk_a, kR1_a, kR2b_a, kR2_a, kZipb_a, kZip_a, kEnum_a, kConsV_a, kDens_a, kAnd2_a, kOr2_a, kConsP_a, kDenP2_a, kData_a, kAsg_a, kAsgT_a, kPar2_a, kPar1_a, kSet3_a, kSet2_a, kSet1_a, kExp_a, kRet_a, kIf_a, kFor_a, kCond_a, kSs_a, varV, storeV, EV.settle, finV_ret, finV_retT, finV_nx, okb, oki, oks, asB_b, cmpV, ordV, G.eqV, scalP, dataOf, binV, addV, subV, biV, lenV, intV, strV, listV, tupleV, allV, int2V, seqOf, bmV, bm0V, recvB, isStrB, isLstB, appendV, joinV, isiV, tyIs, notV, negV, partV, walkV, walkOf, range1V, range2V, dlitV, tupV, newLV, dataV, toP, S_len, S_cps, S_app, S_eq, S_beq, S_one, num_S, num_R, top_get, top_set, top_take, PyData.eqv, PyData.eqvAll, size_eq, T_c, T_w, T_d, cvs, atI_0, atI_1, isNV, lstOf, inV_S, dnewV, dgetV, gdgetV, gdinV, dputV, ggetV, maxdV, everyV, lzipV, reprV, ownV, b__law_text, e1, ek, e2, ix2, D.take]
  by_cases c4 : fo = 4
  · subst c4
    obtain ⟨a, ea, la⟩ := sl_len kw none (some (-1)) h2 (by omega)
    obtain ⟨b, eb⟩ : ∃ b, G.ixV (.pv (.str (S kw))) (.pv (.int (-1))) h2 = oks (S [b]) h2 := by
      rcases List.eq_nil_or_concat kw with e | ⟨y, b, rfl⟩
      · rw [e] at kwn; simp at kwn
      · refine ⟨b, ?_⟩
        have zz : y.length + 1 ≤ 16777216 := by simp at kwn; omega
        have ea : atI (y ++ [b]) (-1) = some b := by
          unfold atI ixN
          rw [if_neg (by decide), if_pos (by simp; omega)]
          have : (-1 + ((y ++ [b]).length : Int)).toNat = y.length := by simp; omega
          rw [this]
          simp
        simp [G.ixV, S_len, size_eq, S_cps, ea, S_one, zz]
    obtain ⟨u, eu, lu⟩ := up_S kw
    obtain ⟨v, ev, lv⟩ := sl_len kw none (some 1) h2 (by omega)
    obtain ⟨v', ev', lv'⟩ := up_S v
    obtain ⟨v2, ev2, lv2⟩ := sl_len kw (some 1) none h2 (by omega)
    obtain ⟨x5, h3, e3, x0, x1, D3⟩ := take_s w (n + 2) (m := 5) D2.1 (by decide) (by decide)
    obtain ⟨m, em, lm⟩ : ∃ m : List Nat, atI [PyData.str (S a), .str (S (kw ++ [b])), .str (S u), .str (S (v' ++ v2)), .str (S (113 :: kw))] x5 = some (.str (S m)) ∧ m.length ≤ 300 := by
      rcases (by omega : x5 = 0 ∨ x5 = 1 ∨ x5 = 2 ∨ x5 = 3 ∨ x5 = 4) with rfl | rfl | rfl | rfl | rfl
      · exact ⟨a, rfl, by omega⟩
      · exact ⟨kw ++ [b], rfl, by simp; omega⟩
      · exact ⟨u, rfl, by omega⟩
      · exact ⟨v' ++ v2, rfl, by simp; omega⟩
      · exact ⟨113 :: kw, rfl, by simp; omega⟩
    have DD := D.trans D3
    refine ⟨m, h3, ?_, lm, DD⟩
    have q1 : kw.length + 1 ≤ 16777216 := by omega
    have q1' : 1 + kw.length ≤ 16777216 := by omega
    have q2 : v'.length + v2.length ≤ 16777216 := by omega
    have q3 : kw.length ≤ 5592405 := by omega
    have q4 : v.length ≤ 5592405 := by omega
    have ix3 : G.ixV (.pv (.list [PyData.str (S a), .str (S (kw ++ [b])), .str (S u), .str (S (v' ++ v2)), .str (S (113 :: kw))])) (.pv (.int x5)) h3 = .ok (.pv (.str (S m))) h3 := by simp [G.ixV, seqOf, em]
    simp -implicitDefEqProofs [e_var, e_lit, e_glob, e_bin, e_neg, e_not, e_cmp, e_isN, e_notN, e_chain, e_and, e_or, e_ife, e_tup, e_lst, e_ix, e_sl, e_rev, e_dlit, e_dnew, e_dget, e_gdget, e_gdin, e_gget, e_repr, e_maxd, e_every, e_lzip, e_own, e_call, e_bi, e_bm, e_bm0, e_isi, e_comp, e_Ono, e_Oyes, e_Cno, e_Cyes, e_Wseq, e_Wr1, e_Wr2, e_Wzip, e_Wenum, e_snil, e_scons, e_and1, e_and2, e_or1, e_or2, e_pnil, e_pcons, e_Sasg, e_SasgT, e_Spar2, e_Ssetix, e_Sdput, e_Sexp, e_Sret, e_SretN, e_Spass, e_Sbrk, e_Siff, e_Sfor, e_Swhile, e_Stry, e_Sraise, e_Ssnil, e_Sscons, kBin2_a, kBin1_a, kNeg_a, kNot_a, kCmp2_a, kCmp1_a, kIsN_a, kB_a, kCh4_a, kCh3_a, kCh2_a, kCh1_a, kIfe_a, kTup_a, kLst_a, kIx2_a, kIx1_a, kSl3_a, kSl2_a, kSl1_a, kRev_a, kDl_a, kDnew_a, kDget_a, kGdg_a, kGdi_a, kOwn_a, kGg2_a, kGg1_a, kRepr_a, kMd2_a, kMd1_a, kEvery_a, kLz2_a, kLz1_a, kDput2_a, kDput1_a, kCall_a, kBi_a, kBm2_a, kBm1_a, kBm0_a, kIsi_a, kCompE_a, kComp_a, kPart_a, kWalk_a, kR1_a, kR2b_a, kR2_a, kZipb_a, kZip_a, kEnum_a, kConsV_a, kDens_a, kAnd2_a, kOr2_a, kConsP_a, kDenP2_a, kData_a, kAsg_a, kAsgT_a, kPar2_a, kPar1_a, kSet3_a, kSet2_a, kSet1_a, kExp_a, kRet_a, kIf_a, kFor_a, kCond_a, kSs_a, varV, storeV, EV.settle, finV_ret, finV_retT, finV_nx, okb, oki, oks, asB_b, cmpV, ordV, G.eqV, scalP, dataOf, binV, addV, subV, biV, lenV, intV, strV, listV, tupleV, allV, int2V, seqOf, bmV, bm0V, recvB, isStrB, isLstB, appendV, joinV, isiV, tyIs, notV, negV, partV, walkV, walkOf, range1V, range2V, dlitV, tupV, newLV, dataV, toP, S_len, S_cps, S_app, S_eq, S_beq, S_one, num_S, num_R, top_get, top_set, top_take, PyData.eqv, PyData.eqvAll, size_eq, T_c, T_w, T_d, cvs, atI_0, atI_1, isNV, lstOf, inV_S, dnewV, dgetV, gdgetV, gdinV, dputV, ggetV, maxdV, everyV, lzipV, reprV, ownV, b__law_text, upperV, e1, ek, e2, ix2, ea, eb, eu, ev, ev', ev2, e3, q1, q1', q2, q3, q4, ix3, DD.take]
  by_cases c5 : fo = 5
  · obtain ⟨m, h3, e3, lm, D3⟩ := near_s w n D2.1 kw (by omega)
    have DD := D.trans D3
    refine ⟨m, h3, ?_, lm, DD⟩
    subst c5
    simp -implicitDefEqProofs [e_var, e_lit, e_glob, e_bin, e_neg, e_not, e_cmp, e_isN, e_notN, e_chain, e_and, e_or, e_ife, e_tup, e_lst, e_ix, e_sl, e_rev, e_dlit, e_dnew, e_dget, e_gdget, e_gdin, e_gget, e_repr, e_maxd, e_every, e_lzip, e_own, e_call, e_bi, e_bm, e_bm0, e_isi, e_comp, e_Ono, e_Oyes, e_Cno, e_Cyes, e_Wseq, e_Wr1, e_Wr2, e_Wzip, e_Wenum, e_snil, e_scons, e_and1, e_and2, e_or1, e_or2, e_pnil, e_pcons, e_Sasg, e_SasgT, e_Spar2, e_Ssetix, e_Sdput, e_Sexp, e_Sret, e_SretN, e_Spass, e_Sbrk, e_Siff, e_Sfor, e_Swhile, e_Stry, e_Sraise, e_Ssnil, e_Sscons, kBin2_a, kBin1_a, kNeg_a, kNot_a, kCmp2_a, kCmp1_a, kIsN_a, kB_a, kCh4_a, kCh3_a, kCh2_a, kCh1_a, kIfe_a, kTup_a, kLst_a, kIx2_a, kIx1_a, kSl3_a, kSl2_a, kSl1_a, kRev_a, kDl_a, kDnew_a, kDget_a, kGdg_a, kGdi_a, kOwn_a, kGg2_a, kGg1_a, kRepr_a, kMd2_a, kMd1_a, kEvery_a, kLz2_a, kLz1_a, kDput2_a, kDput1_a, kCall_a, kBi_a, kBm2_a, kBm1_a, kBm0_a, kIsi_a, kCompE_a, kComp_a, kPart_a, kWalk_a, kR1_a, kR2b_a, kR2_a, kZipb_a, kZip_a, kEnum_a, kConsV_a, kDens_a, kAnd2_a, kOr2_a, kConsP_a, kDenP2_a, kData_a, kAsg_a, kAsgT_a, kPar2_a, kPar1_a, kSet3_a, kSet2_a, kSet1_a, kExp_a, kRet_a, kIf_a, kFor_a, kCond_a, kSs_a, varV, storeV, EV.settle, finV_ret, finV_retT, finV_nx, okb, oki, oks, asB_b, cmpV, ordV, G.eqV, scalP, dataOf, binV, addV, subV, biV, lenV, intV, strV, listV, tupleV, allV, int2V, seqOf, bmV, bm0V, recvB, isStrB, isLstB, appendV, joinV, isiV, tyIs, notV, negV, partV, walkV, walkOf, range1V, range2V, dlitV, tupV, newLV, dataV, toP, S_len, S_cps, S_app, S_eq, S_beq, S_one, num_S, num_R, top_get, top_set, top_take, PyData.eqv, PyData.eqvAll, size_eq, T_c, T_w, T_d, cvs, atI_0, atI_1, isNV, lstOf, inV_S, dnewV, dgetV, gdgetV, gdinV, dputV, ggetV, maxdV, everyV, lzipV, reprV, ownV, b__law_text, e1, ek, e2, ix2, e3, DD.take]
  · obtain ⟨x6, h3, e3, x0, x1, D3⟩ := take_s w (n + 2) (m := 6) D2.1 (by decide) (by decide)
    obtain ⟨cs, h4, e4, lc, D4⟩ := letters_s w (n + 1) D3.1 (1 + x6) (by omega) (by omega)
    obtain ⟨m, h5, e5, lm, D5⟩ := near_s w n D4.1 cs (by omega)
    have DD := ((D.trans D3).trans D4).trans D5
    refine ⟨m, h5, ?_, lm, DD⟩
    simp -implicitDefEqProofs [e_var, e_lit, e_glob, e_bin, e_neg, e_not, e_cmp, e_isN, e_notN, e_chain, e_and, e_or, e_ife, e_tup, e_lst, e_ix, e_sl, e_rev, e_dlit, e_dnew, e_dget, e_gdget, e_gdin, e_gget, e_repr, e_maxd, e_every, e_lzip, e_own, e_call, e_bi, e_bm, e_bm0, e_isi, e_comp, e_Ono, e_Oyes, e_Cno, e_Cyes, e_Wseq, e_Wr1, e_Wr2, e_Wzip, e_Wenum, e_snil, e_scons, e_and1, e_and2, e_or1, e_or2, e_pnil, e_pcons, e_Sasg, e_SasgT, e_Spar2, e_Ssetix, e_Sdput, e_Sexp, e_Sret, e_SretN, e_Spass, e_Sbrk, e_Siff, e_Sfor, e_Swhile, e_Stry, e_Sraise, e_Ssnil, e_Sscons, kBin2_a, kBin1_a, kNeg_a, kNot_a, kCmp2_a, kCmp1_a, kIsN_a, kB_a, kCh4_a, kCh3_a, kCh2_a, kCh1_a, kIfe_a, kTup_a, kLst_a, kIx2_a, kIx1_a, kSl3_a, kSl2_a, kSl1_a, kRev_a, kDl_a, kDnew_a, kDget_a, kGdg_a, kGdi_a, kOwn_a, kGg2_a, kGg1_a, kRepr_a, kMd2_a, kMd1_a, kEvery_a, kLz2_a, kLz1_a, kDput2_a, kDput1_a, kCall_a, kBi_a, kBm2_a, kBm1_a, kBm0_a, kIsi_a, kCompE_a, kComp_a, kPart_a, kWalk_a, kR1_a, kR2b_a, kR2_a, kZipb_a, kZip_a, kEnum_a, kConsV_a, kDens_a, kAnd2_a, kOr2_a, kConsP_a, kDenP2_a, kData_a, kAsg_a, kAsgT_a, kPar2_a, kPar1_a, kSet3_a, kSet2_a, kSet1_a, kExp_a, kRet_a, kIf_a, kFor_a, kCond_a, kSs_a, varV, storeV, EV.settle, finV_ret, finV_retT, finV_nx, okb, oki, oks, asB_b, cmpV, ordV, G.eqV, scalP, dataOf, binV, addV, subV, biV, lenV, intV, strV, listV, tupleV, allV, int2V, seqOf, bmV, bm0V, recvB, isStrB, isLstB, appendV, joinV, isiV, tyIs, notV, negV, partV, walkV, walkOf, range1V, range2V, dlitV, tupV, newLV, dataV, toP, S_len, S_cps, S_app, S_eq, S_beq, S_one, num_S, num_R, top_get, top_set, top_take, PyData.eqv, PyData.eqvAll, size_eq, T_c, T_w, T_d, cvs, atI_0, atI_1, isNV, lstOf, inV_S, dnewV, dgetV, gdgetV, gdinV, dputV, ggetV, maxdV, everyV, lzipV, reprV, ownV, b__law_text, e1, ek, e2, ix2, c1, c2, c3, c4, c5, e3, e4, e5, DD.take]
end K

set_option Elab.async false
set_option linter.all false
set_option maxRecDepth 100000
set_option maxHeartbeats 4000000
namespace K
open PySem L2 G
/-! ### kinds -/
def rowN : Nat → PyData → PyData
  | 0, b => b
  | k + 1, b => .tuple [.str (S [114, 111, 119]), rowN k b]
/-- what is no row -/
inductive Bs : PyData → Prop
  | str (l : List Nat) : Bs (.str (S l))
  | tup (l : List Nat) (x : PyData) : l ≠ [114, 111, 119] → Bs (.tuple [.str (S l), x])
theorem deep_s (w n : Nat) {b : PyData} (hb : Bs b) (h : EH) : ∀ k : Nat, callD (T w) F (n + k + 1) f_kind_deep [.pv (rowN k b)] h = .ok (.pv (.int (k : Int))) h
  | 0 => by
    rw [call_kind_deep]
    cases hb with
    | str l => simp -implicitDefEqProofs [e_var, e_lit, e_glob, e_bin, e_neg, e_not, e_cmp, e_isN, e_notN, e_chain, e_and, e_or, e_ife, e_tup, e_lst, e_ix, e_sl, e_rev, e_dlit, e_dnew, e_dget, e_gdget, e_gdin, e_gget, e_repr, e_maxd, e_every, e_lzip, e_own, e_call, e_bi, e_bm, e_bm0, e_isi, e_comp, e_Ono, e_Oyes, e_Cno, e_Cyes, e_Wseq, e_Wr1, e_Wr2, e_Wzip, e_Wenum, e_snil, e_scons, e_and1, e_and2, e_or1, e_or2, e_pnil, e_pcons, e_Sasg, e_SasgT, e_Spar2, e_Ssetix, e_Sdput, e_Sexp, e_Sret, e_SretN, e_Spass, e_Sbrk, e_Siff, e_Sfor, e_Swhile, e_Stry, e_Sraise, e_Ssnil, e_Sscons, kBin2_a, kBin1_a, kNeg_a, kNot_a, kCmp2_a, kCmp1_a, kIsN_a, kB_a, kCh4_a, kCh3_a, kCh2_a, kCh1_a, kIfe_a, kTup_a, kLst_a, kIx2_a, kIx1_a, kSl3_a, kSl2_a, kSl1_a, kRev_a, kDl_a, kDnew_a, kDget_a, kGdg_a, kGdi_a, kOwn_a, kGg2_a, kGg1_a, kRepr_a, kMd2_a, kMd1_a, kEvery_a, kLz2_a, kLz1_a, kDput2_a, kDput1_a, kCall_a, kBi_a, kBm2_a, kBm1_a, kBm0_a, kIsi_a, kCompE_a, kComp_a, kPart_a, kWalk_a, kR1_a, kR2b_a, kR2_a, kZipb_a, kZip_a, kEnum_a, kConsV_a, kDens_a, kAnd2_a, kOr2_a, kConsP_a, kDenP2_a, kData_a, kAsg_a, kAsgT_a, kPar2_a, kPar1_a, kSet3_a, kSet2_a, kSet1_a, kExp_a, kRet_a, kIf_a, kFor_a, kCond_a, kSs_a, varV, storeV, EV.settle, finV_ret, finV_retT, finV_nx, okb, oki, oks, asB_b, cmpV, ordV, G.eqV, scalP, dataOf, binV, addV, subV, biV, lenV, intV, strV, listV, tupleV, allV, int2V, seqOf, bmV, bm0V, recvB, isStrB, isLstB, appendV, joinV, isiV, tyIs, notV, negV, partV, walkV, walkOf, range1V, range2V, dlitV, tupV, newLV, dataV, toP, S_len, S_cps, S_app, S_eq, S_beq, S_one, num_S, num_R, top_get, top_set, top_take, PyData.eqv, PyData.eqvAll, size_eq, T_c, T_w, T_d, cvs, atI_0, atI_1, isNV, lstOf, inV_S, dnewV, dgetV, gdgetV, gdinV, dputV, ggetV, maxdV, everyV, lzipV, reprV, ownV, b_kind_deep, rowN]
    | tup l x hl => simp -implicitDefEqProofs [e_var, e_lit, e_glob, e_bin, e_neg, e_not, e_cmp, e_isN, e_notN, e_chain, e_and, e_or, e_ife, e_tup, e_lst, e_ix, e_sl, e_rev, e_dlit, e_dnew, e_dget, e_gdget, e_gdin, e_gget, e_repr, e_maxd, e_every, e_lzip, e_own, e_call, e_bi, e_bm, e_bm0, e_isi, e_comp, e_Ono, e_Oyes, e_Cno, e_Cyes, e_Wseq, e_Wr1, e_Wr2, e_Wzip, e_Wenum, e_snil, e_scons, e_and1, e_and2, e_or1, e_or2, e_pnil, e_pcons, e_Sasg, e_SasgT, e_Spar2, e_Ssetix, e_Sdput, e_Sexp, e_Sret, e_SretN, e_Spass, e_Sbrk, e_Siff, e_Sfor, e_Swhile, e_Stry, e_Sraise, e_Ssnil, e_Sscons, kBin2_a, kBin1_a, kNeg_a, kNot_a, kCmp2_a, kCmp1_a, kIsN_a, kB_a, kCh4_a, kCh3_a, kCh2_a, kCh1_a, kIfe_a, kTup_a, kLst_a, kIx2_a, kIx1_a, kSl3_a, kSl2_a, kSl1_a, kRev_a, kDl_a, kDnew_a, kDget_a, kGdg_a, kGdi_a, kOwn_a, kGg2_a, kGg1_a, kRepr_a, kMd2_a, kMd1_a, kEvery_a, kLz2_a, kLz1_a, kDput2_a, kDput1_a, kCall_a, kBi_a, kBm2_a, kBm1_a, kBm0_a, kIsi_a, kCompE_a, kComp_a, kPart_a, kWalk_a, kR1_a, kR2b_a, kR2_a, kZipb_a, kZip_a, kEnum_a, kConsV_a, kDens_a, kAnd2_a, kOr2_a, kConsP_a, kDenP2_a, kData_a, kAsg_a, kAsgT_a, kPar2_a, kPar1_a, kSet3_a, kSet2_a, kSet1_a, kExp_a, kRet_a, kIf_a, kFor_a, kCond_a, kSs_a, varV, storeV, EV.settle, finV_ret, finV_retT, finV_nx, okb, oki, oks, asB_b, cmpV, ordV, G.eqV, scalP, dataOf, binV, addV, subV, biV, lenV, intV, strV, listV, tupleV, allV, int2V, seqOf, bmV, bm0V, recvB, isStrB, isLstB, appendV, joinV, isiV, tyIs, notV, negV, partV, walkV, walkOf, range1V, range2V, dlitV, tupV, newLV, dataV, toP, S_len, S_cps, S_app, S_eq, S_beq, S_one, num_S, num_R, top_get, top_set, top_take, PyData.eqv, PyData.eqvAll, size_eq, T_c, T_w, T_d, cvs, atI_0, atI_1, isNV, lstOf, inV_S, dnewV, dgetV, gdgetV, gdinV, dputV, ggetV, maxdV, everyV, lzipV, reprV, ownV, b_kind_deep, rowN, ixV, SeqAt.shaped, hl]
  | k + 1 => by
    have ih := deep_s w n hb h k
    rw [show n + (k + 1) + 1 = (n + k + 1) + 1 from by omega, call_kind_deep]
    have e : (1 : Int) + (k : Int) = ((k + 1 : Nat) : Int) := by omega
    simp -implicitDefEqProofs [e_var, e_lit, e_glob, e_bin, e_neg, e_not, e_cmp, e_isN, e_notN, e_chain, e_and, e_or, e_ife, e_tup, e_lst, e_ix, e_sl, e_rev, e_dlit, e_dnew, e_dget, e_gdget, e_gdin, e_gget, e_repr, e_maxd, e_every, e_lzip, e_own, e_call, e_bi, e_bm, e_bm0, e_isi, e_comp, e_Ono, e_Oyes, e_Cno, e_Cyes, e_Wseq, e_Wr1, e_Wr2, e_Wzip, e_Wenum, e_snil, e_scons, e_and1, e_and2, e_or1, e_or2, e_pnil, e_pcons, e_Sasg, e_SasgT, e_Spar2, e_Ssetix, e_Sdput, e_Sexp, e_Sret, e_SretN, e_Spass, e_Sbrk, e_Siff, e_Sfor, e_Swhile, e_Stry, e_Sraise, e_Ssnil, e_Sscons, kBin2_a, kBin1_a, kNeg_a, kNot_a, kCmp2_a, kCmp1_a, kIsN_a, kB_a, kCh4_a, kCh3_a, kCh2_a, kCh1_a, kIfe_a, kTup_a, kLst_a, kIx2_a, kIx1_a, kSl3_a, kSl2_a, kSl1_a, kRev_a, kDl_a, kDnew_a, kDget_a, kGdg_a, kGdi_a, kOwn_a, kGg2_a, kGg1_a, kRepr_a, kMd2_a, kMd1_a, kEvery_a, kLz2_a, kLz1_a, kDput2_a, kDput1_a, kCall_a, kBi_a, kBm2_a, kBm1_a, kBm0_a, kIsi_a, kCompE_a, kComp_a, kPart_a, kWalk_a, kR1_a, kR2b_a, kR2_a, kZipb_a, kZip_a, kEnum_a, kConsV_a, kDens_a, kAnd2_a, kOr2_a, kConsP_a, kDenP2_a, kData_a, kAsg_a, kAsgT_a, kPar2_a, kPar1_a, kSet3_a, kSet2_a, kSet1_a, kExp_a, kRet_a, kIf_a, kFor_a, kCond_a, kSs_a, varV, storeV, EV.settle, finV_ret, finV_retT, finV_nx, okb, oki, oks, asB_b, cmpV, ordV, G.eqV, scalP, dataOf, binV, addV, subV, biV, lenV, intV, strV, listV, tupleV, allV, int2V, seqOf, bmV, bm0V, recvB, isStrB, isLstB, appendV, joinV, isiV, tyIs, notV, negV, partV, walkV, walkOf, range1V, range2V, dlitV, tupV, newLV, dataV, toP, S_len, S_cps, S_app, S_eq, S_beq, S_one, num_S, num_R, top_get, top_set, top_take, PyData.eqv, PyData.eqvAll, size_eq, T_c, T_w, T_d, cvs, atI_0, atI_1, isNV, lstOf, inV_S, dnewV, dgetV, gdgetV, gdinV, dputV, ggetV, maxdV, everyV, lzipV, reprV, ownV, b_kind_deep, rowN, ixV, SeqAt.shaped, ih, e]
theorem kloop (w n : Nat) {h : EH} {a0 a1 a2 : Option EV} (b : PyData) (m : Nat) :
    ∃ o4 : Option EV, forD (bindT (.nm 4)) (denSs (T w) (callD (T w) F n) l__law_kind_0) ⟨rangeP 0 m, none⟩ (rangeP 0 m) [a0, a1, a2, some (.pv b), none] h = .nx [a0, a1, a2, some (.pv (rowN m b)), o4] h := by
  obtain ⟨e2, h2, r1, o4, q1, q2⟩ := forD_run (bnd := bindT (.nm 4)) (body := denSs (T w) (callD (T w) F n) l__law_kind_0) (w := ⟨rangeP 0 m, none⟩)
    (fun j e h' => ∃ o4 : Option EV, e = [a0, a1, a2, some (.pv (rowN j b)), o4] ∧ h' = h) (rangeP 0 m) 0 [a0, a1, a2, some (.pv b), none] h ⟨none, rfl, rfl⟩ (fun _ _ _ _ => trivial) (by
      rintro j x e h' hx ⟨o4, rfl, rfl⟩
      refine ⟨_, rfl, [a0, a1, a2, some (.pv (rowN (j + 1) b)), some (.pv x)], h', .inl ?_, some (.pv x), by simp, rfl⟩
      simp only [Nat.zero_add]
      simp -implicitDefEqProofs [e_var, e_lit, e_glob, e_bin, e_neg, e_not, e_cmp, e_isN, e_notN, e_chain, e_and, e_or, e_ife, e_tup, e_lst, e_ix, e_sl, e_rev, e_dlit, e_dnew, e_dget, e_gdget, e_gdin, e_gget, e_repr, e_maxd, e_every, e_lzip, e_own, e_call, e_bi, e_bm, e_bm0, e_isi, e_comp, e_Ono, e_Oyes, e_Cno, e_Cyes, e_Wseq, e_Wr1, e_Wr2, e_Wzip, e_Wenum, e_snil, e_scons, e_and1, e_and2, e_or1, e_or2, e_pnil, e_pcons, e_Sasg, e_SasgT, e_Spar2, e_Ssetix, e_Sdput, e_Sexp, e_Sret, e_SretN, e_Spass, e_Sbrk, e_Siff, e_Sfor, e_Swhile, e_Stry, e_Sraise, e_Ssnil, e_Sscons, kBin2_a, kBin1_a, kNeg_a, kNot_a, kCmp2_a, kCmp1_a, kIsN_a, kB_a, kCh4_a, kCh3_a, kCh2_a, kCh1_a, kIfe_a, kTup_a, kLst_a, kIx2_a, kIx1_a, kSl3_a, kSl2_a, kSl1_a, kRev_a, kDl_a, kDnew_a, kDget_a, kGdg_a, kGdi_a, kOwn_a, kGg2_a, kGg1_a, kRepr_a, kMd2_a, kMd1_a, kEvery_a, kLz2_a, kLz1_a, kDput2_a, kDput1_a, kCall_a, kBi_a, kBm2_a, kBm1_a, kBm0_a, kIsi_a, kCompE_a, kComp_a, kPart_a, kWalk_a, kR1_a, kR2b_a, kR2_a, kZipb_a, kZip_a, kEnum_a, kConsV_a, kDens_a, kAnd2_a, kOr2_a, kConsP_a, kDenP2_a, kData_a, kAsg_a, kAsgT_a, kPar2_a, kPar1_a, kSet3_a, kSet2_a, kSet1_a, kExp_a, kRet_a, kIf_a, kFor_a, kCond_a, kSs_a, varV, storeV, EV.settle, finV_ret, finV_retT, finV_nx, okb, oki, oks, asB_b, cmpV, ordV, G.eqV, scalP, dataOf, binV, addV, subV, biV, lenV, intV, strV, listV, tupleV, allV, int2V, seqOf, bmV, bm0V, recvB, isStrB, isLstB, appendV, joinV, isiV, tyIs, notV, negV, partV, walkV, walkOf, range1V, range2V, dlitV, tupV, newLV, dataV, toP, S_len, S_cps, S_app, S_eq, S_beq, S_one, num_S, num_R, top_get, top_set, top_take, PyData.eqv, PyData.eqvAll, size_eq, T_c, T_w, T_d, cvs, atI_0, atI_1, isNV, lstOf, inV_S, dnewV, dgetV, gdgetV, gdinV, dputV, ggetV, maxdV, everyV, lzipV, reprV, ownV, l__law_kind_0, rowN])
  subst q1 q2
  rw [Nat.zero_add, range_len] at r1
  exact ⟨o4, r1⟩
theorem kind_s (w n : Nat) {r : Nat} {h : EH} (f : Fd h r) (m : Nat) (hm : m ≤ 100) :
    ∃ (b : PyData) (h' : EH), callD (T w) F (n + 3) f__law_kind [.ref r, .pv (.int (m : Nat))] h = .ok (.pv (rowN m b)) h' ∧ Bs b ∧ Dr r h h' := by
  obtain ⟨x5, h1, e1, a0, a1, D1⟩ := take_s w (n + 1) (m := 5) f (by decide) (by decide)
  obtain ⟨cs, h2, e2, lc, D2⟩ := letters_s w n D1.1 (1 + x5) (by omega) (by omega)
  obtain ⟨x100, h3, e3, b0, b1, D3⟩ := take_s w (n + 1) (m := 100) D2.1 (by decide) (by decide)
  obtain ⟨y100, h4, e4, c0, c1, D4⟩ := take_s w (n + 1) (m := 100) D3.1 (by decide) (by decide)
  obtain ⟨x4, h5, e5, d0, d1, D5⟩ := take_s w (n + 1) (m := 4) D4.1 (by decide) (by decide)
  have D := (((D1.trans D2).trans D3).trans D4).trans D5
  obtain ⟨b, eb, hb⟩ : ∃ b, atI [PyData.str (S [110, 117, 109]), .tuple [.str (S [107, 105, 110, 100]), .str (S (cs ++ [122]))], .tuple [.str (S [111, 112, 101, 110]), .int x100], .tuple [.str (S [97, 110, 121]), .int y100]] x4 = some b ∧ Bs b := by
    rcases (by omega : x4 = 0 ∨ x4 = 1 ∨ x4 = 2 ∨ x4 = 3) with rfl | rfl | rfl | rfl
    · exact ⟨_, rfl, .str _⟩
    · exact ⟨_, rfl, .tup _ _ (by decide)⟩
    · exact ⟨_, rfl, .tup _ _ (by decide)⟩
    · exact ⟨_, rfl, .tup _ _ (by decide)⟩
  obtain ⟨o4, el⟩ := kloop w (n + 2) (h := h5) (a0 := some (.ref r)) (a1 := some (.pv (.int (m : Nat)))) (a2 := some (.pv (.list [PyData.str (S [110, 117, 109]), .tuple [.str (S [107, 105, 110, 100]), .str (S (cs ++ [122]))], .tuple [.str (S [111, 112, 101, 110]), .int x100]]))) b m
  refine ⟨b, h5, ?_, hb, D⟩
  have rg := range1_k m (by omega)
  have zc : cs.length + 1 ≤ 16777216 := by omega
  rw [call__law_kind]
  simp -implicitDefEqProofs [e_var, e_lit, e_glob, e_bin, e_neg, e_not, e_cmp, e_isN, e_notN, e_chain, e_and, e_or, e_ife, e_tup, e_lst, e_ix, e_sl, e_rev, e_dlit, e_dnew, e_dget, e_gdget, e_gdin, e_gget, e_repr, e_maxd, e_every, e_lzip, e_own, e_call, e_bi, e_bm, e_bm0, e_isi, e_comp, e_Ono, e_Oyes, e_Cno, e_Cyes, e_Wseq, e_Wr1, e_Wr2, e_Wzip, e_Wenum, e_snil, e_scons, e_and1, e_and2, e_or1, e_or2, e_pnil, e_pcons, e_Sasg, e_SasgT, e_Spar2, e_Ssetix, e_Sdput, e_Sexp, e_Sret, e_SretN, e_Spass, e_Sbrk, e_Siff, e_Sfor, e_Swhile, e_Stry, e_Sraise, e_Ssnil, e_Sscons, kBin2_a, kBin1_a, kNeg_a, kNot_a, kCmp2_a, kCmp1_a, kIsN_a, kB_a, kCh4_a, kCh3_a, kCh2_a, kCh1_a, kIfe_a, kTup_a, kLst_a, kIx2_a, kIx1_a, kSl3_a, kSl2_a, kSl1_a, kRev_a, kDl_a, kDnew_a, kDget_a, kGdg_a, kGdi_a, kOwn_a, kGg2_a, kGg1_a, kRepr_a, kMd2_a, kMd1_a, kEvery_a, kLz2_a, kLz1_a, kDput2_a, kDput1_a, kCall_a, kBi_a, kBm2_a, kBm1_a, kBm0_a, kIsi_a, kCompE_a, kComp_a, kPart_a, kWalk_a, kR1_a, kR2b_a, kR2_a, kZipb_a, kZip_a, kEnum_a, kConsV_a, kDens_a, kAnd2_a, kOr2_a, kConsP_a, kDenP2_a, kData_a, kAsg_a, kAsgT_a, kPar2_a, kPar1_a, kSet3_a, kSet2_a, kSet1_a, kExp_a, kRet_a, kIf_a, kFor_a, kCond_a, kSs_a, varV, storeV, EV.settle, finV_ret, finV_retT, finV_nx, okb, oki, oks, asB_b, cmpV, ordV, G.eqV, scalP, dataOf, binV, addV, subV, biV, lenV, intV, strV, listV, tupleV, allV, int2V, seqOf, bmV, bm0V, recvB, isStrB, isLstB, appendV, joinV, isiV, tyIs, notV, negV, partV, walkV, walkOf, range1V, range2V, dlitV, tupV, newLV, dataV, toP, S_len, S_cps, S_app, S_eq, S_beq, S_one, num_S, num_R, top_get, top_set, top_take, PyData.eqv, PyData.eqvAll, size_eq, T_c, T_w, T_d, cvs, atI_0, atI_1, isNV, lstOf, inV_S, dnewV, dgetV, gdgetV, gdinV, dputV, ggetV, maxdV, everyV, lzipV, reprV, ownV, b__law_kind, -range1V, ixV, e1, e2, e3, e4, e5, eb, el, rg, zc, D.take]
/-! ### is_name -/
def abc : List Nat := [97, 98, 99, 100, 101, 102, 103, 104, 105, 106, 107, 108, 109, 110, 111, 112, 113, 114, 115, 116, 117, 118, 119, 120, 121, 122]
def nmB (l : List Nat) : Bool := decide (1 ≤ l.length) && decide (l.length ≤ 6) && !decide (l ∈ keptL) && l.all fun c => decide (c ∈ abc)
theorem allB_map (l : List Nat) (f : Nat → Bool) : allB (l.map fun c => PyData.bool (f c)) = some (l.all f) := by
  induction l with
  | nil => rfl
  | cons c l ih => simp [allB, ih]
theorem kept_inT (l : List Nat) (h : EH) : G.inV (.pv (.str (S l))) (.pv (.tuple keptP)) h id = okb (decide (l ∈ keptL)) h := inV_strs l keptL _ h id rfl (by intro z e; cases e)
theorem walk_S (l : List Nat) (h : EH) : walkV (.pv (.str (S l))) h = .ok ⟨l.map fun c => PyData.str (S [c]), none⟩ h := rfl
theorem is_name_s (w n : Nat) (l : List Nat) (hl : l.length ≤ 16777216) (h : EH) : callD (T w) F (n + 1) f_is_name [.pv (.str (S l))] h = okb (nmB l) h := by
  have kt := kept_inT l h
  have cm := compD_map (bnd := bindT (.nm 1)) (elt := den (T w) (callD (T w) F n) x_is_name_0) (w := ⟨l.map fun c => PyData.str (S [c]), none⟩) (own := [1]) (e := [some (.pv (.str (S l))), none]) (h := h) rfl
    (fun x => match x with
      | .str z => .bool (decide (z.cps.toList.headD 0 ∈ abc))
      | _ => .none) (l.map fun c => PyData.str (S [c])) (by
      intro x hx
      obtain ⟨c, hc, rfl⟩ := List.mem_map.mp hx
      refine ⟨_, rfl, ?_⟩
      simp -implicitDefEqProofs [e_var, e_lit, e_glob, e_bin, e_neg, e_not, e_cmp, e_isN, e_notN, e_chain, e_and, e_or, e_ife, e_tup, e_lst, e_ix, e_sl, e_rev, e_dlit, e_dnew, e_dget, e_gdget, e_gdin, e_gget, e_repr, e_maxd, e_every, e_lzip, e_own, e_call, e_bi, e_bm, e_bm0, e_isi, e_comp, e_Ono, e_Oyes, e_Cno, e_Cyes, e_Wseq, e_Wr1, e_Wr2, e_Wzip, e_Wenum, e_snil, e_scons, e_and1, e_and2, e_or1, e_or2, e_pnil, e_pcons, e_Sasg, e_SasgT, e_Spar2, e_Ssetix, e_Sdput, e_Sexp, e_Sret, e_SretN, e_Spass, e_Sbrk, e_Siff, e_Sfor, e_Swhile, e_Stry, e_Sraise, e_Ssnil, e_Sscons, kBin2_a, kBin1_a, kNeg_a, kNot_a, kCmp2_a, kCmp1_a, kIsN_a, kB_a, kCh4_a, kCh3_a, kCh2_a, kCh1_a, kIfe_a, kTup_a, kLst_a, kIx2_a, kIx1_a, kSl3_a, kSl2_a, kSl1_a, kRev_a, kDl_a, kDnew_a, kDget_a, kGdg_a, kGdi_a, kOwn_a, kGg2_a, kGg1_a, kRepr_a, kMd2_a, kMd1_a, kEvery_a, kLz2_a, kLz1_a, kDput2_a, kDput1_a, kCall_a, kBi_a, kBm2_a, kBm1_a, kBm0_a, kIsi_a, kCompE_a, kComp_a, kPart_a, kWalk_a, kR1_a, kR2b_a, kR2_a, kZipb_a, kZip_a, kEnum_a, kConsV_a, kDens_a, kAnd2_a, kOr2_a, kConsP_a, kDenP2_a, kData_a, kAsg_a, kAsgT_a, kPar2_a, kPar1_a, kSet3_a, kSet2_a, kSet1_a, kExp_a, kRet_a, kIf_a, kFor_a, kCond_a, kSs_a, varV, storeV, EV.settle, finV_ret, finV_retT, finV_nx, okb, oki, oks, asB_b, cmpV, ordV, G.eqV, scalP, dataOf, binV, addV, subV, biV, lenV, intV, strV, listV, tupleV, allV, int2V, seqOf, bmV, bm0V, recvB, isStrB, isLstB, appendV, joinV, isiV, tyIs, notV, negV, partV, walkV, walkOf, range1V, range2V, dlitV, tupV, newLV, dataV, toP, S_len, S_cps, S_app, S_eq, S_beq, S_one, num_S, num_R, top_get, top_set, top_take, PyData.eqv, PyData.eqvAll, size_eq, T_c, T_w, T_d, cvs, atI_0, atI_1, isNV, lstOf, inV_S, dnewV, dgetV, gdgetV, gdinV, dputV, ggetV, maxdV, everyV, lzipV, reprV, ownV, x_is_name_0, wipeE, abc])
  rw [List.map_map] at cm
  have e1 : (l.map ((fun x => match x with
      | .str z => PyData.bool (decide (z.cps.toList.headD 0 ∈ abc))
      | _ => .none) ∘ fun c => PyData.str (S [c]))) = l.map fun c => PyData.bool (decide (c ∈ abc)) := List.map_congr_left fun c _ => rfl
  rw [e1] at cm
  have ab := allB_map l fun c => decide (c ∈ abc)
  rw [call_is_name]
  by_cases c1 : l.length < 1
  · have i1 : (l.length : Int) < 1 := by omega
    have : nmB l = false := by unfold nmB; rw [show decide (1 ≤ l.length) = false from decide_eq_false (by omega)]; simp
    simp -implicitDefEqProofs [e_var, e_lit, e_glob, e_bin, e_neg, e_not, e_cmp, e_isN, e_notN, e_chain, e_and, e_or, e_ife, e_tup, e_lst, e_ix, e_sl, e_rev, e_dlit, e_dnew, e_dget, e_gdget, e_gdin, e_gget, e_repr, e_maxd, e_every, e_lzip, e_own, e_call, e_bi, e_bm, e_bm0, e_isi, e_comp, e_Ono, e_Oyes, e_Cno, e_Cyes, e_Wseq, e_Wr1, e_Wr2, e_Wzip, e_Wenum, e_snil, e_scons, e_and1, e_and2, e_or1, e_or2, e_pnil, e_pcons, e_Sasg, e_SasgT, e_Spar2, e_Ssetix, e_Sdput, e_Sexp, e_Sret, e_SretN, e_Spass, e_Sbrk, e_Siff, e_Sfor, e_Swhile, e_Stry, e_Sraise, e_Ssnil, e_Sscons, kBin2_a, kBin1_a, kNeg_a, kNot_a, kCmp2_a, kCmp1_a, kIsN_a, kB_a, kCh4_a, kCh3_a, kCh2_a, kCh1_a, kIfe_a, kTup_a, kLst_a, kIx2_a, kIx1_a, kSl3_a, kSl2_a, kSl1_a, kRev_a, kDl_a, kDnew_a, kDget_a, kGdg_a, kGdi_a, kOwn_a, kGg2_a, kGg1_a, kRepr_a, kMd2_a, kMd1_a, kEvery_a, kLz2_a, kLz1_a, kDput2_a, kDput1_a, kCall_a, kBi_a, kBm2_a, kBm1_a, kBm0_a, kIsi_a, kCompE_a, kComp_a, kPart_a, kWalk_a, kR1_a, kR2b_a, kR2_a, kZipb_a, kZip_a, kEnum_a, kConsV_a, kDens_a, kAnd2_a, kOr2_a, kConsP_a, kDenP2_a, kData_a, kAsg_a, kAsgT_a, kPar2_a, kPar1_a, kSet3_a, kSet2_a, kSet1_a, kExp_a, kRet_a, kIf_a, kFor_a, kCond_a, kSs_a, varV, storeV, EV.settle, finV_ret, finV_retT, finV_nx, okb, oki, oks, asB_b, cmpV, ordV, G.eqV, scalP, dataOf, binV, addV, subV, biV, lenV, intV, strV, listV, tupleV, allV, int2V, seqOf, bmV, bm0V, recvB, isStrB, isLstB, appendV, joinV, isiV, tyIs, notV, negV, partV, walkV, walkOf, range1V, range2V, dlitV, tupV, newLV, dataV, toP, S_len, S_cps, S_app, S_eq, S_beq, S_one, num_S, num_R, top_get, top_set, top_take, PyData.eqv, PyData.eqvAll, size_eq, T_c, T_w, T_d, cvs, atI_0, atI_1, isNV, lstOf, inV_S, dnewV, dgetV, gdgetV, gdinV, dputV, ggetV, maxdV, everyV, lzipV, reprV, ownV, b_is_name, hl, i1, this]
  have i1 : ¬ (l.length : Int) < 1 := by omega
  by_cases c2 : 6 < l.length
  · have i2 : (6 : Int) < l.length := by omega
    have : nmB l = false := by unfold nmB; rw [show decide (l.length ≤ 6) = false from decide_eq_false (by omega)]; simp
    simp -implicitDefEqProofs [e_var, e_lit, e_glob, e_bin, e_neg, e_not, e_cmp, e_isN, e_notN, e_chain, e_and, e_or, e_ife, e_tup, e_lst, e_ix, e_sl, e_rev, e_dlit, e_dnew, e_dget, e_gdget, e_gdin, e_gget, e_repr, e_maxd, e_every, e_lzip, e_own, e_call, e_bi, e_bm, e_bm0, e_isi, e_comp, e_Ono, e_Oyes, e_Cno, e_Cyes, e_Wseq, e_Wr1, e_Wr2, e_Wzip, e_Wenum, e_snil, e_scons, e_and1, e_and2, e_or1, e_or2, e_pnil, e_pcons, e_Sasg, e_SasgT, e_Spar2, e_Ssetix, e_Sdput, e_Sexp, e_Sret, e_SretN, e_Spass, e_Sbrk, e_Siff, e_Sfor, e_Swhile, e_Stry, e_Sraise, e_Ssnil, e_Sscons, kBin2_a, kBin1_a, kNeg_a, kNot_a, kCmp2_a, kCmp1_a, kIsN_a, kB_a, kCh4_a, kCh3_a, kCh2_a, kCh1_a, kIfe_a, kTup_a, kLst_a, kIx2_a, kIx1_a, kSl3_a, kSl2_a, kSl1_a, kRev_a, kDl_a, kDnew_a, kDget_a, kGdg_a, kGdi_a, kOwn_a, kGg2_a, kGg1_a, kRepr_a, kMd2_a, kMd1_a, kEvery_a, kLz2_a, kLz1_a, kDput2_a, kDput1_a, kCall_a, kBi_a, kBm2_a, kBm1_a, kBm0_a, kIsi_a, kCompE_a, kComp_a, kPart_a, kWalk_a, kR1_a, kR2b_a, kR2_a, kZipb_a, kZip_a, kEnum_a, kConsV_a, kDens_a, kAnd2_a, kOr2_a, kConsP_a, kDenP2_a, kData_a, kAsg_a, kAsgT_a, kPar2_a, kPar1_a, kSet3_a, kSet2_a, kSet1_a, kExp_a, kRet_a, kIf_a, kFor_a, kCond_a, kSs_a, varV, storeV, EV.settle, finV_ret, finV_retT, finV_nx, okb, oki, oks, asB_b, cmpV, ordV, G.eqV, scalP, dataOf, binV, addV, subV, biV, lenV, intV, strV, listV, tupleV, allV, int2V, seqOf, bmV, bm0V, recvB, isStrB, isLstB, appendV, joinV, isiV, tyIs, notV, negV, partV, walkV, walkOf, range1V, range2V, dlitV, tupV, newLV, dataV, toP, S_len, S_cps, S_app, S_eq, S_beq, S_one, num_S, num_R, top_get, top_set, top_take, PyData.eqv, PyData.eqvAll, size_eq, T_c, T_w, T_d, cvs, atI_0, atI_1, isNV, lstOf, inV_S, dnewV, dgetV, gdgetV, gdinV, dputV, ggetV, maxdV, everyV, lzipV, reprV, ownV, b_is_name, hl, i1, i2, this]
  have i2 : ¬ (6 : Int) < l.length := by omega
  by_cases c3 : l ∈ keptL
  · have : nmB l = false := by unfold nmB; rw [show decide (l ∈ keptL) = true from decide_eq_true c3]; simp
    rw [show decide (l ∈ keptL) = true from decide_eq_true c3] at kt
    simp only [keptP, keptL, List.map_cons, List.map_nil] at kt
    simp -implicitDefEqProofs [e_var, e_lit, e_glob, e_bin, e_neg, e_not, e_cmp, e_isN, e_notN, e_chain, e_and, e_or, e_ife, e_tup, e_lst, e_ix, e_sl, e_rev, e_dlit, e_dnew, e_dget, e_gdget, e_gdin, e_gget, e_repr, e_maxd, e_every, e_lzip, e_own, e_call, e_bi, e_bm, e_bm0, e_isi, e_comp, e_Ono, e_Oyes, e_Cno, e_Cyes, e_Wseq, e_Wr1, e_Wr2, e_Wzip, e_Wenum, e_snil, e_scons, e_and1, e_and2, e_or1, e_or2, e_pnil, e_pcons, e_Sasg, e_SasgT, e_Spar2, e_Ssetix, e_Sdput, e_Sexp, e_Sret, e_SretN, e_Spass, e_Sbrk, e_Siff, e_Sfor, e_Swhile, e_Stry, e_Sraise, e_Ssnil, e_Sscons, kBin2_a, kBin1_a, kNeg_a, kNot_a, kCmp2_a, kCmp1_a, kIsN_a, kB_a, kCh4_a, kCh3_a, kCh2_a, kCh1_a, kIfe_a, kTup_a, kLst_a, kIx2_a, kIx1_a, kSl3_a, kSl2_a, kSl1_a, kRev_a, kDl_a, kDnew_a, kDget_a, kGdg_a, kGdi_a, kOwn_a, kGg2_a, kGg1_a, kRepr_a, kMd2_a, kMd1_a, kEvery_a, kLz2_a, kLz1_a, kDput2_a, kDput1_a, kCall_a, kBi_a, kBm2_a, kBm1_a, kBm0_a, kIsi_a, kCompE_a, kComp_a, kPart_a, kWalk_a, kR1_a, kR2b_a, kR2_a, kZipb_a, kZip_a, kEnum_a, kConsV_a, kDens_a, kAnd2_a, kOr2_a, kConsP_a, kDenP2_a, kData_a, kAsg_a, kAsgT_a, kPar2_a, kPar1_a, kSet3_a, kSet2_a, kSet1_a, kExp_a, kRet_a, kIf_a, kFor_a, kCond_a, kSs_a, varV, storeV, EV.settle, finV_ret, finV_retT, finV_nx, okb, oki, oks, asB_b, cmpV, ordV, G.eqV, scalP, dataOf, binV, addV, subV, biV, lenV, intV, strV, listV, tupleV, allV, int2V, seqOf, bmV, bm0V, recvB, isStrB, isLstB, appendV, joinV, isiV, tyIs, notV, negV, partV, walkV, walkOf, range1V, range2V, dlitV, tupV, newLV, dataV, toP, S_len, S_cps, S_app, S_eq, S_beq, S_one, num_S, num_R, top_get, top_set, top_take, PyData.eqv, PyData.eqvAll, size_eq, T_c, T_w, T_d, cvs, atI_0, atI_1, isNV, lstOf, inV_S, dnewV, dgetV, gdgetV, gdinV, dputV, ggetV, maxdV, everyV, lzipV, reprV, ownV, b_is_name, hl, i1, i2, this, kt]
  · have : nmB l = l.all fun c => decide (c ∈ abc) := by unfold nmB; rw [show decide (l ∈ keptL) = false from decide_eq_false c3, show decide (l.length ≤ 6) = true from decide_eq_true (by omega), show decide (1 ≤ l.length) = true from decide_eq_true (by omega)]; simp
    rw [show decide (l ∈ keptL) = false from decide_eq_false c3] at kt
    simp only [keptP, keptL, List.map_cons, List.map_nil] at kt
    rw [this]
    simp -implicitDefEqProofs [e_var, e_lit, e_glob, e_bin, e_neg, e_not, e_cmp, e_isN, e_notN, e_chain, e_and, e_or, e_ife, e_tup, e_lst, e_ix, e_sl, e_rev, e_dlit, e_dnew, e_dget, e_gdget, e_gdin, e_gget, e_repr, e_maxd, e_every, e_lzip, e_own, e_call, e_bi, e_bm, e_bm0, e_isi, e_comp, e_Ono, e_Oyes, e_Cno, e_Cyes, e_Wseq, e_Wr1, e_Wr2, e_Wzip, e_Wenum, e_snil, e_scons, e_and1, e_and2, e_or1, e_or2, e_pnil, e_pcons, e_Sasg, e_SasgT, e_Spar2, e_Ssetix, e_Sdput, e_Sexp, e_Sret, e_SretN, e_Spass, e_Sbrk, e_Siff, e_Sfor, e_Swhile, e_Stry, e_Sraise, e_Ssnil, e_Sscons, kBin2_a, kBin1_a, kNeg_a, kNot_a, kCmp2_a, kCmp1_a, kIsN_a, kB_a, kCh4_a, kCh3_a, kCh2_a, kCh1_a, kIfe_a, kTup_a, kLst_a, kIx2_a, kIx1_a, kSl3_a, kSl2_a, kSl1_a, kRev_a, kDl_a, kDnew_a, kDget_a, kGdg_a, kGdi_a, kOwn_a, kGg2_a, kGg1_a, kRepr_a, kMd2_a, kMd1_a, kEvery_a, kLz2_a, kLz1_a, kDput2_a, kDput1_a, kCall_a, kBi_a, kBm2_a, kBm1_a, kBm0_a, kIsi_a, kCompE_a, kComp_a, kPart_a, kWalk_a, kR1_a, kR2b_a, kR2_a, kZipb_a, kZip_a, kEnum_a, kConsV_a, kDens_a, kAnd2_a, kOr2_a, kConsP_a, kDenP2_a, kData_a, kAsg_a, kAsgT_a, kPar2_a, kPar1_a, kSet3_a, kSet2_a, kSet1_a, kExp_a, kRet_a, kIf_a, kFor_a, kCond_a, kSs_a, varV, storeV, EV.settle, finV_ret, finV_retT, finV_nx, okb, oki, oks, asB_b, cmpV, ordV, G.eqV, scalP, dataOf, binV, addV, subV, biV, lenV, intV, strV, listV, tupleV, allV, int2V, seqOf, bmV, bm0V, recvB, isStrB, isLstB, appendV, joinV, isiV, tyIs, notV, negV, partV, walkV, walkOf, range1V, range2V, dlitV, tupV, newLV, dataV, toP, S_len, S_cps, S_app, S_eq, S_beq, S_one, num_S, num_R, top_get, top_set, top_take, PyData.eqv, PyData.eqvAll, size_eq, T_c, T_w, T_d, cvs, atI_0, atI_1, isNV, lstOf, inV_S, dnewV, dgetV, gdgetV, gdinV, dputV, ggetV, maxdV, everyV, lzipV, reprV, ownV, b_is_name, -walkV, hl, i1, i2, kt, walk_S, cm, denC_no, ab, allV]
theorem due_s (w n : Nat) (l : List Nat) (hl : l.length ≤ 16777216) (h : EH) : callD (T w) F (n + 2) f__law_name_due [.pv (.str (S l))] h = okb (nmB l) h := by
  have ek := kept_s w n h
  have kt := kept_in l h
  have cm := compD_map (bnd := bindT (.nm 1)) (elt := den (T w) (callD (T w) F (n + 1)) x__law_name_due_0) (w := ⟨l.map fun c => PyData.str (S [c]), none⟩) (own := [1]) (e := [some (.pv (.str (S l))), none]) (h := h) rfl
    (fun x => match x with
      | .str z => .bool (decide (z.cps.toList.headD 0 ∈ abc))
      | _ => .none) (l.map fun c => PyData.str (S [c])) (by
      intro x hx
      obtain ⟨c, hc, rfl⟩ := List.mem_map.mp hx
      refine ⟨_, rfl, ?_⟩
      simp -implicitDefEqProofs [e_var, e_lit, e_glob, e_bin, e_neg, e_not, e_cmp, e_isN, e_notN, e_chain, e_and, e_or, e_ife, e_tup, e_lst, e_ix, e_sl, e_rev, e_dlit, e_dnew, e_dget, e_gdget, e_gdin, e_gget, e_repr, e_maxd, e_every, e_lzip, e_own, e_call, e_bi, e_bm, e_bm0, e_isi, e_comp, e_Ono, e_Oyes, e_Cno, e_Cyes, e_Wseq, e_Wr1, e_Wr2, e_Wzip, e_Wenum, e_snil, e_scons, e_and1, e_and2, e_or1, e_or2, e_pnil, e_pcons, e_Sasg, e_SasgT, e_Spar2, e_Ssetix, e_Sdput, e_Sexp, e_Sret, e_SretN, e_Spass, e_Sbrk, e_Siff, e_Sfor, e_Swhile, e_Stry, e_Sraise, e_Ssnil, e_Sscons, kBin2_a, kBin1_a, kNeg_a, kNot_a, kCmp2_a, kCmp1_a, kIsN_a, kB_a, kCh4_a, kCh3_a, kCh2_a, kCh1_a, kIfe_a, kTup_a, kLst_a, kIx2_a, kIx1_a, kSl3_a, kSl2_a, kSl1_a, kRev_a, kDl_a, kDnew_a, kDget_a, kGdg_a, kGdi_a, kOwn_a, kGg2_a, kGg1_a, kRepr_a, kMd2_a, kMd1_a, kEvery_a, kLz2_a, kLz1_a, kDput2_a, kDput1_a, kCall_a, kBi_a, kBm2_a, kBm1_a, kBm0_a, kIsi_a, kCompE_a, kComp_a, kPart_a, kWalk_a, kR1_a, kR2b_a, kR2_a, kZipb_a, kZip_a, kEnum_a, kConsV_a, kDens_a, kAnd2_a, kOr2_a, kConsP_a, kDenP2_a, kData_a, kAsg_a, kAsgT_a, kPar2_a, kPar1_a, kSet3_a, kSet2_a, kSet1_a, kExp_a, kRet_a, kIf_a, kFor_a, kCond_a, kSs_a, varV, storeV, EV.settle, finV_ret, finV_retT, finV_nx, okb, oki, oks, asB_b, cmpV, ordV, G.eqV, scalP, dataOf, binV, addV, subV, biV, lenV, intV, strV, listV, tupleV, allV, int2V, seqOf, bmV, bm0V, recvB, isStrB, isLstB, appendV, joinV, isiV, tyIs, notV, negV, partV, walkV, walkOf, range1V, range2V, dlitV, tupV, newLV, dataV, toP, S_len, S_cps, S_app, S_eq, S_beq, S_one, num_S, num_R, top_get, top_set, top_take, PyData.eqv, PyData.eqvAll, size_eq, T_c, T_w, T_d, cvs, atI_0, atI_1, isNV, lstOf, inV_S, dnewV, dgetV, gdgetV, gdinV, dputV, ggetV, maxdV, everyV, lzipV, reprV, ownV, x__law_name_due_0, wipeE, abc])
  rw [List.map_map] at cm
  have e1 : (l.map ((fun x => match x with
      | .str z => PyData.bool (decide (z.cps.toList.headD 0 ∈ abc))
      | _ => .none) ∘ fun c => PyData.str (S [c]))) = l.map fun c => PyData.bool (decide (c ∈ abc)) := List.map_congr_left fun c _ => rfl
  rw [e1] at cm
  have ab := allB_map l fun c => decide (c ∈ abc)
  rw [call__law_name_due]
  by_cases c1 : l.length < 1
  · have i1 : (l.length : Int) = 0 := by omega
    have : nmB l = false := by unfold nmB; rw [show decide (1 ≤ l.length) = false from decide_eq_false (by omega)]; simp
    simp -implicitDefEqProofs [e_var, e_lit, e_glob, e_bin, e_neg, e_not, e_cmp, e_isN, e_notN, e_chain, e_and, e_or, e_ife, e_tup, e_lst, e_ix, e_sl, e_rev, e_dlit, e_dnew, e_dget, e_gdget, e_gdin, e_gget, e_repr, e_maxd, e_every, e_lzip, e_own, e_call, e_bi, e_bm, e_bm0, e_isi, e_comp, e_Ono, e_Oyes, e_Cno, e_Cyes, e_Wseq, e_Wr1, e_Wr2, e_Wzip, e_Wenum, e_snil, e_scons, e_and1, e_and2, e_or1, e_or2, e_pnil, e_pcons, e_Sasg, e_SasgT, e_Spar2, e_Ssetix, e_Sdput, e_Sexp, e_Sret, e_SretN, e_Spass, e_Sbrk, e_Siff, e_Sfor, e_Swhile, e_Stry, e_Sraise, e_Ssnil, e_Sscons, kBin2_a, kBin1_a, kNeg_a, kNot_a, kCmp2_a, kCmp1_a, kIsN_a, kB_a, kCh4_a, kCh3_a, kCh2_a, kCh1_a, kIfe_a, kTup_a, kLst_a, kIx2_a, kIx1_a, kSl3_a, kSl2_a, kSl1_a, kRev_a, kDl_a, kDnew_a, kDget_a, kGdg_a, kGdi_a, kOwn_a, kGg2_a, kGg1_a, kRepr_a, kMd2_a, kMd1_a, kEvery_a, kLz2_a, kLz1_a, kDput2_a, kDput1_a, kCall_a, kBi_a, kBm2_a, kBm1_a, kBm0_a, kIsi_a, kCompE_a, kComp_a, kPart_a, kWalk_a, kR1_a, kR2b_a, kR2_a, kZipb_a, kZip_a, kEnum_a, kConsV_a, kDens_a, kAnd2_a, kOr2_a, kConsP_a, kDenP2_a, kData_a, kAsg_a, kAsgT_a, kPar2_a, kPar1_a, kSet3_a, kSet2_a, kSet1_a, kExp_a, kRet_a, kIf_a, kFor_a, kCond_a, kSs_a, varV, storeV, EV.settle, finV_ret, finV_retT, finV_nx, okb, oki, oks, asB_b, cmpV, ordV, G.eqV, scalP, dataOf, binV, addV, subV, biV, lenV, intV, strV, listV, tupleV, allV, int2V, seqOf, bmV, bm0V, recvB, isStrB, isLstB, appendV, joinV, isiV, tyIs, notV, negV, partV, walkV, walkOf, range1V, range2V, dlitV, tupV, newLV, dataV, toP, S_len, S_cps, S_app, S_eq, S_beq, S_one, num_S, num_R, top_get, top_set, top_take, PyData.eqv, PyData.eqvAll, size_eq, T_c, T_w, T_d, cvs, atI_0, atI_1, isNV, lstOf, inV_S, dnewV, dgetV, gdgetV, gdinV, dputV, ggetV, maxdV, everyV, lzipV, reprV, ownV, b__law_name_due, hl, i1, this]
  have i1 : ¬ (l.length : Int) = 0 := by omega
  have i3 : ¬ l = [] := by
    intro e
    rw [e] at c1
    exact c1 (by simp)
  by_cases c2 : 6 < l.length
  · have i2 : (6 : Int) < l.length := by omega
    have : nmB l = false := by unfold nmB; rw [show decide (l.length ≤ 6) = false from decide_eq_false (by omega)]; simp
    simp -implicitDefEqProofs [e_var, e_lit, e_glob, e_bin, e_neg, e_not, e_cmp, e_isN, e_notN, e_chain, e_and, e_or, e_ife, e_tup, e_lst, e_ix, e_sl, e_rev, e_dlit, e_dnew, e_dget, e_gdget, e_gdin, e_gget, e_repr, e_maxd, e_every, e_lzip, e_own, e_call, e_bi, e_bm, e_bm0, e_isi, e_comp, e_Ono, e_Oyes, e_Cno, e_Cyes, e_Wseq, e_Wr1, e_Wr2, e_Wzip, e_Wenum, e_snil, e_scons, e_and1, e_and2, e_or1, e_or2, e_pnil, e_pcons, e_Sasg, e_SasgT, e_Spar2, e_Ssetix, e_Sdput, e_Sexp, e_Sret, e_SretN, e_Spass, e_Sbrk, e_Siff, e_Sfor, e_Swhile, e_Stry, e_Sraise, e_Ssnil, e_Sscons, kBin2_a, kBin1_a, kNeg_a, kNot_a, kCmp2_a, kCmp1_a, kIsN_a, kB_a, kCh4_a, kCh3_a, kCh2_a, kCh1_a, kIfe_a, kTup_a, kLst_a, kIx2_a, kIx1_a, kSl3_a, kSl2_a, kSl1_a, kRev_a, kDl_a, kDnew_a, kDget_a, kGdg_a, kGdi_a, kOwn_a, kGg2_a, kGg1_a, kRepr_a, kMd2_a, kMd1_a, kEvery_a, kLz2_a, kLz1_a, kDput2_a, kDput1_a, kCall_a, kBi_a, kBm2_a, kBm1_a, kBm0_a, kIsi_a, kCompE_a, kComp_a, kPart_a, kWalk_a, kR1_a, kR2b_a, kR2_a, kZipb_a, kZip_a, kEnum_a, kConsV_a, kDens_a, kAnd2_a, kOr2_a, kConsP_a, kDenP2_a, kData_a, kAsg_a, kAsgT_a, kPar2_a, kPar1_a, kSet3_a, kSet2_a, kSet1_a, kExp_a, kRet_a, kIf_a, kFor_a, kCond_a, kSs_a, varV, storeV, EV.settle, finV_ret, finV_retT, finV_nx, okb, oki, oks, asB_b, cmpV, ordV, G.eqV, scalP, dataOf, binV, addV, subV, biV, lenV, intV, strV, listV, tupleV, allV, int2V, seqOf, bmV, bm0V, recvB, isStrB, isLstB, appendV, joinV, isiV, tyIs, notV, negV, partV, walkV, walkOf, range1V, range2V, dlitV, tupV, newLV, dataV, toP, S_len, S_cps, S_app, S_eq, S_beq, S_one, num_S, num_R, top_get, top_set, top_take, PyData.eqv, PyData.eqvAll, size_eq, T_c, T_w, T_d, cvs, atI_0, atI_1, isNV, lstOf, inV_S, dnewV, dgetV, gdgetV, gdinV, dputV, ggetV, maxdV, everyV, lzipV, reprV, ownV, b__law_name_due, hl, i1, i3, i2, this]
  have i2 : ¬ (6 : Int) < l.length := by omega
  by_cases c3 : l ∈ keptL
  · have : nmB l = false := by unfold nmB; rw [show decide (l ∈ keptL) = true from decide_eq_true c3]; simp
    rw [show decide (l ∈ keptL) = true from decide_eq_true c3] at kt
    simp -implicitDefEqProofs [e_var, e_lit, e_glob, e_bin, e_neg, e_not, e_cmp, e_isN, e_notN, e_chain, e_and, e_or, e_ife, e_tup, e_lst, e_ix, e_sl, e_rev, e_dlit, e_dnew, e_dget, e_gdget, e_gdin, e_gget, e_repr, e_maxd, e_every, e_lzip, e_own, e_call, e_bi, e_bm, e_bm0, e_isi, e_comp, e_Ono, e_Oyes, e_Cno, e_Cyes, e_Wseq, e_Wr1, e_Wr2, e_Wzip, e_Wenum, e_snil, e_scons, e_and1, e_and2, e_or1, e_or2, e_pnil, e_pcons, e_Sasg, e_SasgT, e_Spar2, e_Ssetix, e_Sdput, e_Sexp, e_Sret, e_SretN, e_Spass, e_Sbrk, e_Siff, e_Sfor, e_Swhile, e_Stry, e_Sraise, e_Ssnil, e_Sscons, kBin2_a, kBin1_a, kNeg_a, kNot_a, kCmp2_a, kCmp1_a, kIsN_a, kB_a, kCh4_a, kCh3_a, kCh2_a, kCh1_a, kIfe_a, kTup_a, kLst_a, kIx2_a, kIx1_a, kSl3_a, kSl2_a, kSl1_a, kRev_a, kDl_a, kDnew_a, kDget_a, kGdg_a, kGdi_a, kOwn_a, kGg2_a, kGg1_a, kRepr_a, kMd2_a, kMd1_a, kEvery_a, kLz2_a, kLz1_a, kDput2_a, kDput1_a, kCall_a, kBi_a, kBm2_a, kBm1_a, kBm0_a, kIsi_a, kCompE_a, kComp_a, kPart_a, kWalk_a, kR1_a, kR2b_a, kR2_a, kZipb_a, kZip_a, kEnum_a, kConsV_a, kDens_a, kAnd2_a, kOr2_a, kConsP_a, kDenP2_a, kData_a, kAsg_a, kAsgT_a, kPar2_a, kPar1_a, kSet3_a, kSet2_a, kSet1_a, kExp_a, kRet_a, kIf_a, kFor_a, kCond_a, kSs_a, varV, storeV, EV.settle, finV_ret, finV_retT, finV_nx, okb, oki, oks, asB_b, cmpV, ordV, G.eqV, scalP, dataOf, binV, addV, subV, biV, lenV, intV, strV, listV, tupleV, allV, int2V, seqOf, bmV, bm0V, recvB, isStrB, isLstB, appendV, joinV, isiV, tyIs, notV, negV, partV, walkV, walkOf, range1V, range2V, dlitV, tupV, newLV, dataV, toP, S_len, S_cps, S_app, S_eq, S_beq, S_one, num_S, num_R, top_get, top_set, top_take, PyData.eqv, PyData.eqvAll, size_eq, T_c, T_w, T_d, cvs, atI_0, atI_1, isNV, lstOf, inV_S, dnewV, dgetV, gdgetV, gdinV, dputV, ggetV, maxdV, everyV, lzipV, reprV, ownV, b__law_name_due, hl, i1, i3, i2, this, ek, kt]
  · have : nmB l = l.all fun c => decide (c ∈ abc) := by unfold nmB; rw [show decide (l ∈ keptL) = false from decide_eq_false c3, show decide (l.length ≤ 6) = true from decide_eq_true (by omega), show decide (1 ≤ l.length) = true from decide_eq_true (by omega)]; simp
    rw [show decide (l ∈ keptL) = false from decide_eq_false c3] at kt
    rw [this]
    simp -implicitDefEqProofs [e_var, e_lit, e_glob, e_bin, e_neg, e_not, e_cmp, e_isN, e_notN, e_chain, e_and, e_or, e_ife, e_tup, e_lst, e_ix, e_sl, e_rev, e_dlit, e_dnew, e_dget, e_gdget, e_gdin, e_gget, e_repr, e_maxd, e_every, e_lzip, e_own, e_call, e_bi, e_bm, e_bm0, e_isi, e_comp, e_Ono, e_Oyes, e_Cno, e_Cyes, e_Wseq, e_Wr1, e_Wr2, e_Wzip, e_Wenum, e_snil, e_scons, e_and1, e_and2, e_or1, e_or2, e_pnil, e_pcons, e_Sasg, e_SasgT, e_Spar2, e_Ssetix, e_Sdput, e_Sexp, e_Sret, e_SretN, e_Spass, e_Sbrk, e_Siff, e_Sfor, e_Swhile, e_Stry, e_Sraise, e_Ssnil, e_Sscons, kBin2_a, kBin1_a, kNeg_a, kNot_a, kCmp2_a, kCmp1_a, kIsN_a, kB_a, kCh4_a, kCh3_a, kCh2_a, kCh1_a, kIfe_a, kTup_a, kLst_a, kIx2_a, kIx1_a, kSl3_a, kSl2_a, kSl1_a, kRev_a, kDl_a, kDnew_a, kDget_a, kGdg_a, kGdi_a, kOwn_a, kGg2_a, kGg1_a, kRepr_a, kMd2_a, kMd1_a, kEvery_a, kLz2_a, kLz1_a, kDput2_a, kDput1_a, kCall_a, kBi_a, kBm2_a, kBm1_a, kBm0_a, kIsi_a, kCompE_a, kComp_a, kPart_a, kWalk_a, kR1_a, kR2b_a, kR2_a, kZipb_a, kZip_a, kEnum_a, kConsV_a, kDens_a, kAnd2_a, kOr2_a, kConsP_a, kDenP2_a, kData_a, kAsg_a, kAsgT_a, kPar2_a, kPar1_a, kSet3_a, kSet2_a, kSet1_a, kExp_a, kRet_a, kIf_a, kFor_a, kCond_a, kSs_a, varV, storeV, EV.settle, finV_ret, finV_retT, finV_nx, okb, oki, oks, asB_b, cmpV, ordV, G.eqV, scalP, dataOf, binV, addV, subV, biV, lenV, intV, strV, listV, tupleV, allV, int2V, seqOf, bmV, bm0V, recvB, isStrB, isLstB, appendV, joinV, isiV, tyIs, notV, negV, partV, walkV, walkOf, range1V, range2V, dlitV, tupV, newLV, dataV, toP, S_len, S_cps, S_app, S_eq, S_beq, S_one, num_S, num_R, top_get, top_set, top_take, PyData.eqv, PyData.eqvAll, size_eq, T_c, T_w, T_d, cvs, atI_0, atI_1, isNV, lstOf, inV_S, dnewV, dgetV, gdgetV, gdinV, dputV, ggetV, maxdV, everyV, lzipV, reprV, ownV, b__law_name_due, -walkV, hl, i1, i3, i2, ek, kt, walk_S, cm, denC_no, ab, allV]
theorem right_s (w n : Nat) (l : List Nat) (hl : l.length ≤ 16777216) {b : PyData} (hb : Bs b) (k : Nat) (h : EH) : callD (T w) F (n + k + 4) f__law_right [.pv (.str (S l)), .pv (rowN k b), .pv (.int (k : Nat))] h = okb true h := by
  have e1 := is_name_s w (n + k + 2) l hl h
  have e2 := deep_s w (n + 2) hb h k
  have e3 := due_s w (n + k + 1) l hl h
  rw [show n + 2 + k + 1 = n + k + 2 + 1 from by omega] at e2
  rw [show n + k + 1 + 2 = n + k + 2 + 1 from by omega] at e3
  rw [show n + k + 4 = n + k + 2 + 1 + 1 from by omega, call__law_right]
  simp -implicitDefEqProofs [e_var, e_lit, e_glob, e_bin, e_neg, e_not, e_cmp, e_isN, e_notN, e_chain, e_and, e_or, e_ife, e_tup, e_lst, e_ix, e_sl, e_rev, e_dlit, e_dnew, e_dget, e_gdget, e_gdin, e_gget, e_repr, e_maxd, e_every, e_lzip, e_own, e_call, e_bi, e_bm, e_bm0, e_isi, e_comp, e_Ono, e_Oyes, e_Cno, e_Cyes, e_Wseq, e_Wr1, e_Wr2, e_Wzip, e_Wenum, e_snil, e_scons, e_and1, e_and2, e_or1, e_or2, e_pnil, e_pcons, e_Sasg, e_SasgT, e_Spar2, e_Ssetix, e_Sdput, e_Sexp, e_Sret, e_SretN, e_Spass, e_Sbrk, e_Siff, e_Sfor, e_Swhile, e_Stry, e_Sraise, e_Ssnil, e_Sscons, kBin2_a, kBin1_a, kNeg_a, kNot_a, kCmp2_a, kCmp1_a, kIsN_a, kB_a, kCh4_a, kCh3_a, kCh2_a, kCh1_a, kIfe_a, kTup_a, kLst_a, kIx2_a, kIx1_a, kSl3_a, kSl2_a, kSl1_a, kRev_a, kDl_a, kDnew_a, kDget_a, kGdg_a, kGdi_a, kOwn_a, kGg2_a, kGg1_a, kRepr_a, kMd2_a, kMd1_a, kEvery_a, kLz2_a, kLz1_a, kDput2_a, kDput1_a, kCall_a, kBi_a, kBm2_a, kBm1_a, kBm0_a, kIsi_a, kCompE_a, kComp_a, kPart_a, kWalk_a, kR1_a, kR2b_a, kR2_a, kZipb_a, kZip_a, kEnum_a, kConsV_a, kDens_a, kAnd2_a, kOr2_a, kConsP_a, kDenP2_a, kData_a, kAsg_a, kAsgT_a, kPar2_a, kPar1_a, kSet3_a, kSet2_a, kSet1_a, kExp_a, kRet_a, kIf_a, kFor_a, kCond_a, kSs_a, varV, storeV, EV.settle, finV_ret, finV_retT, finV_nx, okb, oki, oks, asB_b, cmpV, ordV, G.eqV, scalP, dataOf, binV, addV, subV, biV, lenV, intV, strV, listV, tupleV, allV, int2V, seqOf, bmV, bm0V, recvB, isStrB, isLstB, appendV, joinV, isiV, tyIs, notV, negV, partV, walkV, walkOf, range1V, range2V, dlitV, tupV, newLV, dataV, toP, S_len, S_cps, S_app, S_eq, S_beq, S_one, num_S, num_R, top_get, top_set, top_take, PyData.eqv, PyData.eqvAll, size_eq, T_c, T_w, T_d, cvs, atI_0, atI_1, isNV, lstOf, inV_S, dnewV, dgetV, gdgetV, gdinV, dputV, ggetV, maxdV, everyV, lzipV, reprV, ownV, b__law_right, e1, e2, e3]
end K

set_option Elab.async false
set_option linter.all false
set_option maxRecDepth 100000
set_option maxHeartbeats 4000000
namespace K
open PySem L2 G
theorem lt_of {h : EH} {r : Nat} {o : EO} (e : h[r]? = some o) : r < h.length := (List.getElem?_eq_some_iff.mp e).1
theorem Fd.top (h : EH) (a x : Int) : Fd (h ++ [.lst [.int a, .int x]]) h.length := ⟨a, x, top_get _ _⟩
theorem sl_6 (ns : List PyData) (h : EH) : slV (.fl ns) none (some 6) h = .ok (.tl (ns.take 6)) h := by
  unfold slV cutP
  have e : (6 : Int) = ((6 : Nat) : Int) := rfl
  simp only [e, HT.sIx_nat, HT.sIx_none]
  simp
/-- what is asked: a text; a kind, its rows -/
structure Ak where
  l : List Nat
  b : PyData
  k : Nat
def Ak.Ok (a : Ak) : Prop := a.l.length ≤ 300 ∧ Bs a.b ∧ a.k ≤ 5
def Ak.t (a : Ak) : PyData := .str (S a.l)
def Ak.u (a : Ak) : PyData := .tuple [rowN a.k a.b, .int (a.k : Nat)]
def flatA : List Ak → List PyData
  | [] => []
  | a :: r => a.t :: a.u :: flatA r
theorem flatA_app : ∀ (x : List Ak) (a : Ak), flatA (x ++ [a]) = flatA x ++ [a.t, a.u]
  | [], _ => rfl
  | y :: x, a => by show y.t :: y.u :: flatA (x ++ [a]) = _; rw [flatA_app x a]; rfl
theorem flatA_0 : ∀ x : List Ak, everyP 0 (flatA x) = x.map Ak.t
  | [] => rfl
  | a :: r => by show a.t :: everyP 0 (flatA r) = _; rw [flatA_0 r]; rfl
theorem flatA_1 : ∀ x : List Ak, everyP 1 (flatA x) = x.map Ak.u
  | [] => rfl
  | a :: r => by show a.u :: everyP 1 (flatA r) = _; rw [flatA_1 r]; rfl
theorem flatA_len : ∀ x : List Ak, (flatA x).length = 2 * x.length
  | [] => rfl
  | a :: r => by show (flatA r).length + 1 + 1 = _; rw [flatA_len r]; simp; omega
def Ak.p (a : Ak) : PyData := .tuple [a.t, a.u]
theorem zipA : ∀ x : List Ak, List.zipWith (fun y z => PyData.tuple [y, z]) (x.map Ak.t) (x.map Ak.u) = x.map Ak.p
  | [] => rfl
  | a :: r => by simp only [List.map_cons, List.zipWith_cons_cons, zipA r]; rfl
theorem loop0 (w n : Nat) (ns : List Int) {j : Nat} {h : EH} {ts : List Ak} {o3 o4 o5 o6 o7 : Option EV} (q2 : ts.length ≤ 100) (q4 : h[0]? = some (.lst (flatA ts))) :
    ∃ (t : Ak) (o4' o5' : Option EV) (h' : EH), t.Ok ∧ h'[0]? = some (.lst (flatA (ts ++ [t]))) ∧ denSs (T w) (callD (T w) F (n + 20)) l_law_0 [some (.fl (ns.map .int)), some (.ref 0), some (.pv (.int (j : Nat))), o3, o4, o5, o6, o7] h = .nx [some (.fl (ns.map .int)), some (.ref 0), some (.pv (.int (j : Nat))), o3, o4', o5', o6, o7] h' := by
  obtain ⟨a, x, e1⟩ := feed_s w (n + 19) j ns h
  have f := Fd.top h a x
  have h0 : 0 < h.length := lt_of q4
  obtain ⟨l, h1, e2, ll, D1⟩ := text_s w (n + 16) f
  have q5 : h1[0]? = some (.lst (flatA ts)) := by rw [D1.2.2 0 (by omega), List.getElem?_append_left h0, q4]
  have f1 : Fd (h1.set 0 (.lst (flatA ts ++ [.str (S l)]))) h.length := by
    obtain ⟨a, b, e⟩ := D1.1
    exact ⟨a, b, by rw [List.getElem?_set_ne (by omega)]; exact e⟩
  obtain ⟨d, h2, e3, d0, d6, D2⟩ := take_s w (n + 19) (m := 6) f1 (by decide) (by decide)
  obtain ⟨k, rfl⟩ : ∃ k : Nat, d = (k : Int) := ⟨d.toNat, by omega⟩
  obtain ⟨b, h3, e4, hb, D3⟩ := kind_s w (n + 17) D2.1 k (by omega)
  have l1 := lt_of q5
  have q6 : h3[0]? = some (.lst (flatA ts ++ [.str (S l)])) := by rw [(D2.trans D3).2.2 0 (by omega), List.getElem?_set_self l1]
  have l3 := lt_of q6
  have q7 : h2[0]? = some (.lst (flatA ts ++ [.str (S l)])) := by rw [D2.2.2 0 (by omega), List.getElem?_set_self l1]
  refine ⟨⟨l, b, k⟩, some (.ref h.length), some (.pv (.int (k : Nat))), h3.set 0 (.lst (flatA ts ++ [.str (S l), .tuple [rowN k b, .int (k : Nat)]])), ⟨ll, hb, show k ≤ 5 by omega⟩, ?_, ?_⟩
  · rw [List.getElem?_set_self l3, flatA_app]; rfl
  · have qq : (h ++ [EO.lst [.int a, .int x]])[0]? = some (.lst (flatA ts)) := by rw [List.getElem?_append_left h0, q4]
    have qq' : ∀ hh, (h ++ [EO.lst [.int a, .int x]])[0]'hh = .lst (flatA ts) := fun hh => by
      rw [List.getElem?_eq_getElem hh] at qq
      exact Option.some.inj qq
    have z1 : (flatA ts).length < 16777216 := by rw [flatA_len]; omega
    have z2 : (flatA ts).length + 1 < 16777216 := by rw [flatA_len]; omega
    simp -implicitDefEqProofs [e_var, e_lit, e_glob, e_bin, e_neg, e_not, e_cmp, e_isN, e_notN, e_chain, e_and, e_or, e_ife, e_tup, e_lst, e_ix, e_sl, e_rev, e_dlit, e_dnew, e_dget, e_gdget, e_gdin, e_gget, e_repr, e_maxd, e_every, e_lzip, e_own, e_call, e_bi, e_bm, e_bm0, e_isi, e_comp, e_Ono, e_Oyes, e_Cno, e_Cyes, e_Wseq, e_Wr1, e_Wr2, e_Wzip, e_Wenum, e_snil, e_scons, e_and1, e_and2, e_or1, e_or2, e_pnil, e_pcons, e_Sasg, e_SasgT, e_Spar2, e_Ssetix, e_Sdput, e_Sexp, e_Sret, e_SretN, e_Spass, e_Sbrk, e_Siff, e_Sfor, e_Swhile, e_Stry, e_Sraise, e_Ssnil, e_Sscons, kBin2_a, kBin1_a, kNeg_a, kNot_a, kCmp2_a, kCmp1_a, kIsN_a, kB_a, kCh4_a, kCh3_a, kCh2_a, kCh1_a, kIfe_a, kTup_a, kLst_a, kIx2_a, kIx1_a, kSl3_a, kSl2_a, kSl1_a, kRev_a, kDl_a, kDnew_a, kDget_a, kGdg_a, kGdi_a, kOwn_a, kGg2_a, kGg1_a, kRepr_a, kMd2_a, kMd1_a, kEvery_a, kLz2_a, kLz1_a, kDput2_a, kDput1_a, kCall_a, kBi_a, kBm2_a, kBm1_a, kBm0_a, kIsi_a, kCompE_a, kComp_a, kPart_a, kWalk_a, kR1_a, kR2b_a, kR2_a, kZipb_a, kZip_a, kEnum_a, kConsV_a, kDens_a, kAnd2_a, kOr2_a, kConsP_a, kDenP2_a, kData_a, kAsg_a, kAsgT_a, kPar2_a, kPar1_a, kSet3_a, kSet2_a, kSet1_a, kExp_a, kRet_a, kIf_a, kFor_a, kCond_a, kSs_a, varV, storeV, EV.settle, finV_ret, finV_retT, finV_nx, okb, oki, oks, asB_b, cmpV, ordV, G.eqV, scalP, dataOf, binV, addV, subV, biV, lenV, intV, strV, listV, tupleV, allV, int2V, seqOf, bmV, bm0V, recvB, isStrB, isLstB, appendV, joinV, isiV, tyIs, notV, negV, partV, walkV, walkOf, range1V, range2V, dlitV, tupV, newLV, dataV, toP, S_len, S_cps, S_app, S_eq, S_beq, S_one, num_S, num_R, top_get, top_set, top_take, PyData.eqv, PyData.eqvAll, size_eq, T_c, T_w, T_d, cvs, atI_0, atI_1, isNV, lstOf, inV_S, dnewV, dgetV, gdgetV, gdinV, dputV, ggetV, maxdV, everyV, lzipV, reprV, ownV, l_law_0, e1, e2, e3, e4, q5, q6, q7, qq', z1, z2]
theorem law_s (w n : Nat) (hw : 1 ≤ w) (ns : List Int) (hn : ns.length ≤ 63) : ∃ h', callD (T w) F (n + 50) f_law [.fl (ns.map .int)] [] = .ok (.pv (.bool true)) h' := by
  obtain ⟨c, hc⟩ : ∃ c : Nat, c = max 1 (min 6 ns.length) := ⟨_, rfl⟩
  obtain ⟨e2, h2, r1, o2, o4, o5, ts, q1, q2, q3, q4⟩ := forD_run (bnd := bindT (.nm 2)) (body := denSs (T w) (callD (T w) F (n + 49)) l_law_0) (w := ⟨rangeP 0 c, none⟩)
    (fun j e h' => ∃ (o2 o4 o5 : Option EV) (ts : List Ak), e = [some (.fl (ns.map .int)), some (.ref 0), o2, none, o4, o5, none, none] ∧ ts.length = j ∧ (∀ t ∈ ts, t.Ok) ∧ h'[0]? = some (.lst (flatA ts))) (rangeP 0 c) 0 [some (.fl (ns.map .int)), some (.ref 0), none, none, none, none, none, none] [.lst []]
    ⟨none, none, none, [], rfl, rfl, by simp, rfl⟩ (fun _ _ _ _ => trivial) (by
      rintro j x e h ht ⟨o2, o4, o5, ts, rfl, q2, q3, q4⟩
      obtain ⟨rfl, hj⟩ := rangeP_get ht
      obtain ⟨t, o4', o5', h', g1, q5, q6⟩ := loop0 w (n + 29) ns (j := j) (o3 := none) (o4 := o4) (o5 := o5) (o6 := none) (o7 := none) (by omega) q4
      rw [show (0 : Int) + (j : Int) = (j : Int) from by omega]
      refine ⟨_, rfl, _, h', .inl q6, _, _, _, ts ++ [t], rfl, by simp [q2], ?_, q5⟩
      intro y hy
      simp at hy
      rcases hy with hy | rfl
      · exact q3 y hy
      · exact g1)
  simp only [Nat.zero_add, range_len] at q2
  have hl : ts.length ≤ 6 := by omega
  have cm := compD_true (bnd := bindT (.tp (.cons (.nm 6) (.cons (.nm 7) .nil)))) (elt := den (T w) (callD (T w) F (n + 49)) x_law_0) (w := ⟨ts.map Ak.p ++ (ts.take 1).map Ak.p, none⟩) (own := [6, 7]) (e := [some (.fl (ns.map .int)), some (.ref 0), o2, some (.pv (.list (ts.map Ak.p))), o4, o5, none, none]) (h := h2) rfl (ts.map Ak.p ++ (ts.take 1).map Ak.p) (fun x hx => by
    obtain ⟨t, ht, rfl⟩ : ∃ t ∈ ts, x = t.p := by
      simp only [List.mem_append, List.mem_map] at hx
      rcases hx with ⟨t, ht, rfl⟩ | ⟨t, ht, rfl⟩
      · exact ⟨t, ht, rfl⟩
      · exact ⟨t, List.mem_of_mem_take ht, rfl⟩
    obtain ⟨g1, g2, g3⟩ := q3 t ht
    have e5 := right_s w (n + 45 - t.k) t.l (by omega) g2 t.k h2
    rw [show n + 45 - t.k + t.k + 4 = n + 49 from by omega] at e5
    refine ⟨_, rfl, ?_⟩
    simp -implicitDefEqProofs [e_var, e_lit, e_glob, e_bin, e_neg, e_not, e_cmp, e_isN, e_notN, e_chain, e_and, e_or, e_ife, e_tup, e_lst, e_ix, e_sl, e_rev, e_dlit, e_dnew, e_dget, e_gdget, e_gdin, e_gget, e_repr, e_maxd, e_every, e_lzip, e_own, e_call, e_bi, e_bm, e_bm0, e_isi, e_comp, e_Ono, e_Oyes, e_Cno, e_Cyes, e_Wseq, e_Wr1, e_Wr2, e_Wzip, e_Wenum, e_snil, e_scons, e_and1, e_and2, e_or1, e_or2, e_pnil, e_pcons, e_Sasg, e_SasgT, e_Spar2, e_Ssetix, e_Sdput, e_Sexp, e_Sret, e_SretN, e_Spass, e_Sbrk, e_Siff, e_Sfor, e_Swhile, e_Stry, e_Sraise, e_Ssnil, e_Sscons, kBin2_a, kBin1_a, kNeg_a, kNot_a, kCmp2_a, kCmp1_a, kIsN_a, kB_a, kCh4_a, kCh3_a, kCh2_a, kCh1_a, kIfe_a, kTup_a, kLst_a, kIx2_a, kIx1_a, kSl3_a, kSl2_a, kSl1_a, kRev_a, kDl_a, kDnew_a, kDget_a, kGdg_a, kGdi_a, kOwn_a, kGg2_a, kGg1_a, kRepr_a, kMd2_a, kMd1_a, kEvery_a, kLz2_a, kLz1_a, kDput2_a, kDput1_a, kCall_a, kBi_a, kBm2_a, kBm1_a, kBm0_a, kIsi_a, kCompE_a, kComp_a, kPart_a, kWalk_a, kR1_a, kR2b_a, kR2_a, kZipb_a, kZip_a, kEnum_a, kConsV_a, kDens_a, kAnd2_a, kOr2_a, kConsP_a, kDenP2_a, kData_a, kAsg_a, kAsgT_a, kPar2_a, kPar1_a, kSet3_a, kSet2_a, kSet1_a, kExp_a, kRet_a, kIf_a, kFor_a, kCond_a, kSs_a, varV, storeV, EV.settle, finV_ret, finV_retT, finV_nx, okb, oki, oks, asB_b, cmpV, ordV, G.eqV, scalP, dataOf, binV, addV, subV, biV, lenV, intV, strV, listV, tupleV, allV, int2V, seqOf, bmV, bm0V, recvB, isStrB, isLstB, appendV, joinV, isiV, tyIs, notV, negV, partV, walkV, walkOf, range1V, range2V, dlitV, tupV, newLV, dataV, toP, S_len, S_cps, S_app, S_eq, S_beq, S_one, num_S, num_R, top_get, top_set, top_take, PyData.eqv, PyData.eqvAll, size_eq, T_c, T_w, T_d, cvs, atI_0, atI_1, isNV, lstOf, inV_S, dnewV, dgetV, gdgetV, gdinV, dputV, ggetV, maxdV, everyV, lzipV, reprV, ownV, ixV, x_law_0, wipeE, Ak.t, Ak.u, e5])
  refine ⟨[], ?_⟩
  have hr : (if (1 : Int) < ((min 6 ns.length : Nat) : Int) then ((min 6 ns.length : Nat) : Int) else 1) = (c : Int) := by
    split <;> omega
  have rg := range1_k c (by omega) [.lst []]
  have s1 : slV (.pv (.list (ts.map Ak.p))) none (some 1) h2 = .ok (.tl ((ts.take 1).map Ak.p)) h2 := by
    unfold slV cutP
    have e : (1 : Int) = ((1 : Nat) : Int) := rfl
    simp only [e, HT.sIx_nat, HT.sIx_none]
    simp [List.map_take]
  have z1 : ts.length + (ts.take 1).length ≤ 16777216 := by simp; omega
  have z2 : ts.length + min 1 ts.length ≤ 16777216 := by omega
  have pp : Ak.p = fun a => PyData.tuple [a.t, a.u] := rfl
  rw [pp] at cm s1
  simp only [List.map_take] at cm s1
  subst q1
  rw [call_law]
  simp -implicitDefEqProofs [e_var, e_lit, e_glob, e_bin, e_neg, e_not, e_cmp, e_isN, e_notN, e_chain, e_and, e_or, e_ife, e_tup, e_lst, e_ix, e_sl, e_rev, e_dlit, e_dnew, e_dget, e_gdget, e_gdin, e_gget, e_repr, e_maxd, e_every, e_lzip, e_own, e_call, e_bi, e_bm, e_bm0, e_isi, e_comp, e_Ono, e_Oyes, e_Cno, e_Cyes, e_Wseq, e_Wr1, e_Wr2, e_Wzip, e_Wenum, e_snil, e_scons, e_and1, e_and2, e_or1, e_or2, e_pnil, e_pcons, e_Sasg, e_SasgT, e_Spar2, e_Ssetix, e_Sdput, e_Sexp, e_Sret, e_SretN, e_Spass, e_Sbrk, e_Siff, e_Sfor, e_Swhile, e_Stry, e_Sraise, e_Ssnil, e_Sscons, kBin2_a, kBin1_a, kNeg_a, kNot_a, kCmp2_a, kCmp1_a, kIsN_a, kB_a, kCh4_a, kCh3_a, kCh2_a, kCh1_a, kIfe_a, kTup_a, kLst_a, kIx2_a, kIx1_a, kSl3_a, kSl2_a, kSl1_a, kRev_a, kDl_a, kDnew_a, kDget_a, kGdg_a, kGdi_a, kOwn_a, kGg2_a, kGg1_a, kRepr_a, kMd2_a, kMd1_a, kEvery_a, kLz2_a, kLz1_a, kDput2_a, kDput1_a, kCall_a, kBi_a, kBm2_a, kBm1_a, kBm0_a, kIsi_a, kCompE_a, kComp_a, kPart_a, kWalk_a, kR1_a, kR2b_a, kR2_a, kZipb_a, kZip_a, kEnum_a, kConsV_a, kDens_a, kAnd2_a, kOr2_a, kConsP_a, kDenP2_a, kData_a, kAsg_a, kAsgT_a, kPar2_a, kPar1_a, kSet3_a, kSet2_a, kSet1_a, kExp_a, kRet_a, kIf_a, kFor_a, kCond_a, kSs_a, varV, storeV, EV.settle, finV_ret, finV_retT, finV_nx, okb, oki, oks, asB_b, cmpV, ordV, G.eqV, scalP, dataOf, binV, addV, subV, biV, lenV, intV, strV, listV, tupleV, allV, int2V, seqOf, bmV, bm0V, recvB, isStrB, isLstB, appendV, joinV, isiV, tyIs, notV, negV, partV, walkV, walkOf, range1V, range2V, dlitV, tupV, newLV, dataV, toP, S_len, S_cps, S_app, S_eq, S_beq, S_one, num_S, num_R, top_get, top_set, top_take, PyData.eqv, PyData.eqvAll, size_eq, T_c, T_w, T_d, cvs, atI_0, atI_1, isNV, lstOf, inV_S, dnewV, dgetV, gdgetV, gdinV, dputV, ggetV, maxdV, everyV, lzipV, reprV, ownV, -range1V, ixV, b_law, sl_6, hr, rg, r1, q4, flatA_0, flatA_1, s1, z1, z2, denC_no, cm, allB_rep, allV]
end K

set_option Elab.async false
set_option linter.all false
set_option maxRecDepth 100000
namespace K
open PySem PySem.Spec PyProof.Rows L2 G
theorem bind_is_name : BindOk d_is_name := fun _ _ _ _ _ _ us hl => match us, hl with | [_], _ => rfl
theorem bind_kind_deep : BindOk d_kind_deep := fun _ _ _ _ _ _ us hl => match us, hl with | [_], _ => rfl
theorem bind__law_feed : BindOk d__law_feed := fun _ _ _ _ _ _ us hl => match us, hl with | [_, _], _ => rfl
theorem bind__law_take : BindOk d__law_take := fun _ _ _ _ _ _ us hl => match us, hl with | [_, _], _ => rfl
theorem bind__law_kept : BindOk d__law_kept := fun _ _ _ _ _ _ us hl => match us, hl with | [], _ => rfl
theorem bind__law_sign : BindOk d__law_sign := fun _ _ _ _ _ _ us hl => match us, hl with | [_], _ => rfl
theorem bind__law_near : BindOk d__law_near := fun _ _ _ _ _ _ us hl => match us, hl with | [_, _], _ => rfl
theorem bind__law_letters : BindOk d__law_letters := fun _ _ _ _ _ _ us hl => match us, hl with | [_, _], _ => rfl
theorem bind__law_text : BindOk d__law_text := fun _ _ _ _ _ _ us hl => match us, hl with | [_], _ => rfl
theorem bind__law_name_due : BindOk d__law_name_due := fun _ _ _ _ _ _ us hl => match us, hl with | [_], _ => rfl
theorem bind__law_kind : BindOk d__law_kind := fun _ _ _ _ _ _ us hl => match us, hl with | [_, _], _ => rfl
theorem bind__law_right : BindOk d__law_right := fun _ _ _ _ _ _ us hl => match us, hl with | [_, _, _], _ => rfl
theorem bind_law : BindOk d_law := fun _ _ _ _ _ _ us hl => match us, hl with | [_], _ => rfl
theorem bind_all : ∀ d ∈ ds, BindOk d := by
  intro d h
  simp only [ds, List.mem_cons, List.not_mem_nil, or_false] at h
  rcases h with rfl | rfl | rfl | rfl | rfl | rfl | rfl | rfl | rfl | rfl | rfl | rfl | rfl
  · exact bind_is_name
  · exact bind_kind_deep
  · exact bind__law_feed
  · exact bind__law_take
  · exact bind__law_kept
  · exact bind__law_sign
  · exact bind__law_near
  · exact bind__law_letters
  · exact bind__law_text
  · exact bind__law_name_due
  · exact bind__law_kind
  · exact bind__law_right
  · exact bind_law
theorem head {l : PySem.W.OpenLaw} {w : World} {K : PySem.W.Frag} {h : Heap} {mg : Str → Option Value} {fa : Addr} (X : K.In h) (G : h.Ns mainGlobals mg) (hfa : mg "law" = some (.ref fa))
    (a_is_name : DefAt K "is_name" (top 6))
    (a_kind_deep : DefAt K "kind_deep" (top 8))
    (a__law_feed : DefAt K "_law_feed" (top 10))
    (a__law_take : DefAt K "_law_take" (top 11))
    (a__law_kept : DefAt K "_law_kept" (top 12))
    (a__law_sign : DefAt K "_law_sign" (top 13))
    (a__law_near : DefAt K "_law_near" (top 14))
    (a__law_letters : DefAt K "_law_letters" (top 15))
    (a__law_text : DefAt K "_law_text" (top 16))
    (a__law_name_due : DefAt K "_law_name_due" (top 17))
    (a__law_kind : DefAt K "_law_kind" (top 18))
    (a__law_right : DefAt K "_law_right" (top 19))
    (a_law : DefAt K "law" (top 20))
    (c_WIDE : ConstAt K "WIDE" (.int 1000000))
    (c_LETTERS : ConstAt K "LETTERS" (.str (S [97, 98, 99, 100, 101, 102, 103, 104, 105, 106, 107, 108, 109, 110, 111, 112, 113, 114, 115, 116, 117, 118, 119, 120, 121, 122])))
    (c_MOST_SIGNS : ConstAt K "MOST_SIGNS" (.int 6))
    (c_KEPT : ConstAt K "KEPT" (.tuple [(.str (S [110, 117, 109])), (.str (S [114, 111, 119])), (.str (S [107, 105, 110, 100])), (.str (S [100, 101, 102])), (.str (S [109, 111, 114, 101])), (.str (S [102, 105, 114, 115, 116])), (.str (S [111, 116, 104, 101, 114, 115])), (.str (S [108, 111, 110, 103])), (.str (S [109, 97, 116, 99, 104])), (.str (S [105, 102])), (.str (S [108, 101, 116])), (.str (S [102, 111, 108, 100])), (.str (S [99, 97, 108, 108]))]))
    (c_KEPT_MORE : ConstAt K "KEPT_MORE" (.tuple [(.str (S [103, 97, 112])), (.str (S [105, 110])), (.str (S [119, 111, 114, 108, 100])), (.str (S [102, 97, 117, 108, 116])), (.str (S [108, 101, 102, 116]))]))
    (z_len : PySem.W.nsIn K mainGlobals "len" = some none)
    (z_int : PySem.W.nsIn K mainGlobals "int" = some none)
    (z_str : PySem.W.nsIn K mainGlobals "str" = some none)
    (z_list : PySem.W.nsIn K mainGlobals "list" = some none)
    (z_tuple : PySem.W.nsIn K mainGlobals "tuple" = some none)
    (z_all : PySem.W.nsIn K mainGlobals "all" = some none)
    (z_max : PySem.W.nsIn K mainGlobals "max" = some none)
    (z_min : PySem.W.nsIn K mainGlobals "min" = some none)
    (z_sum : PySem.W.nsIn K mainGlobals "sum" = some none)
    (z_isinstance : PySem.W.nsIn K mainGlobals "isinstance" = some none)
    (z_range : PySem.W.nsIn K mainGlobals "range" = some none)
    (z_zip : PySem.W.nsIn K mainGlobals "zip" = some none)
    (z_enumerate : PySem.W.nsIn K mainGlobals "enumerate" = some none)
    (z_bool : PySem.W.nsIn K mainGlobals "bool" = some none)
    (z_repr : PySem.W.nsIn K mainGlobals "repr" = some none)
    : ∃ fd : FuncData, (∀ (s : Shared) (v : Value), BindsTo s fd ⟨[v], []⟩ [("_law_script", v)]) ∧ ∀ base : Heap, K.In base → base.Ns mainGlobals mg → FnG l.prog w K mg base CX0 50 fa fd ["_law_script"] (spLaw K) := by
  refine all_mk (ds := ds) (cs := cs) (dn := dn) (T := T 10) (n := 50) (i := f_law) (d := d_law) X G hfa chk_all ?_ bind_all ?_ ?_ ?_ rfl rfl rfl (fun ns hn => law_s 10 0 (by decide) ns hn)
  · intro d h
    simp only [ds, List.mem_cons, List.not_mem_nil, or_false] at h
    rcases h with rfl | rfl | rfl | rfl | rfl | rfl | rfl | rfl | rfl | rfl | rfl | rfl | rfl
    · exact a_is_name
    · exact a_kind_deep
    · exact a__law_feed
    · exact a__law_take
    · exact a__law_kept
    · exact a__law_sign
    · exact a__law_near
    · exact a__law_letters
    · exact a__law_text
    · exact a__law_name_due
    · exact a__law_kind
    · exact a__law_right
    · exact a_law
  · intro i x p e1 e2
    match i, e1, e2 with
    | 0, e1, e2 => cases e1; cases e2; exact c_WIDE
    | 1, e1, e2 => cases e1; cases e2; exact c_LETTERS
    | 2, e1, e2 => cases e1; cases e2; exact c_MOST_SIGNS
    | 3, e1, e2 => cases e1; cases e2; exact c_KEPT
    | 4, e1, e2 => cases e1; cases e2; exact c_KEPT_MORE
    | i + 5, e1, e2 => cases e1
  · intro i x e1
    match i, e1 with
    | i + 0, e1 => cases e1
  · intro x hx
    simp only [bltNames, List.mem_cons, List.not_mem_nil, or_false] at hx
    rcases hx with rfl | rfl | rfl | rfl | rfl | rfl | rfl | rfl | rfl | rfl | rfl | rfl | rfl | rfl | rfl
    · exact z_len
    · exact z_int
    · exact z_str
    · exact z_list
    · exact z_tuple
    · exact z_all
    · exact z_max
    · exact z_min
    · exact z_sum
    · exact z_isinstance
    · exact z_range
    · exact z_zip
    · exact z_enumerate
    · exact z_bool
    · exact z_repr
end K

open PySem PySem.W PyProof.Rows in
set_option maxRecDepth 100000 in
set_option maxHeartbeats 0 in
theorem PySem.Challenge.cw_gapwork_k01_names_and_deep_kinds_holds : PySem.Challenge.rw_gapwork_k01_names_and_deep_kinds.Holds := by
  w_on; o_law; k_head; (case hw => w_witness2)
  k_fill
  refine G.walk (l := PySem.Challenge.rw_gapwork_k01_names_and_deep_kinds) (k := 50) (x := "_law_script") ⟨⟨rfl, by decide, by decide⟩, rfl⟩ rfl rfl (fun w h Y => PySem.W.kIn_of Y) ?F
  case F =>
    intro w mg fa h KX GX hmg
    refine' K.head KX GX hmg ?a_is_name ?a_kind_deep ?a__law_feed ?a__law_take ?a__law_kept ?a__law_sign ?a__law_near ?a__law_letters ?a__law_text ?a__law_name_due ?a__law_kind ?a__law_right ?a_law ?c_WIDE ?c_LETTERS ?c_MOST_SIGNS ?c_KEPT ?c_KEPT_MORE  ?z_len ?z_int ?z_str ?z_list ?z_tuple ?z_all ?z_max ?z_min ?z_sum ?z_isinstance ?z_range ?z_zip ?z_enumerate ?z_bool ?z_repr
    case a_is_name =>
      refine' G.defAt_mk ?a ?l ?c ?k
      (case a => k_is)
      (case l => k_is)
      (case c => k_is)
      (case k => k_is)
    case a_kind_deep =>
      refine' G.defAt_mk ?a ?l ?c ?k
      (case a => k_is)
      (case l => k_is)
      (case c => k_is)
      (case k => k_is)
    case a__law_feed =>
      refine' G.defAt_mk ?a ?l ?c ?k
      (case a => k_is)
      (case l => k_is)
      (case c => k_is)
      (case k => k_is)
    case a__law_take =>
      refine' G.defAt_mk ?a ?l ?c ?k
      (case a => k_is)
      (case l => k_is)
      (case c => k_is)
      (case k => k_is)
    case a__law_kept =>
      refine' G.defAt_mk ?a ?l ?c ?k
      (case a => k_is)
      (case l => k_is)
      (case c => k_is)
      (case k => k_is)
    case a__law_sign =>
      refine' G.defAt_mk ?a ?l ?c ?k
      (case a => k_is)
      (case l => k_is)
      (case c => k_is)
      (case k => k_is)
    case a__law_near =>
      refine' G.defAt_mk ?a ?l ?c ?k
      (case a => k_is)
      (case l => k_is)
      (case c => k_is)
      (case k => k_is)
    case a__law_letters =>
      refine' G.defAt_mk ?a ?l ?c ?k
      (case a => k_is)
      (case l => k_is)
      (case c => k_is)
      (case k => k_is)
    case a__law_text =>
      refine' G.defAt_mk ?a ?l ?c ?k
      (case a => k_is)
      (case l => k_is)
      (case c => k_is)
      (case k => k_is)
    case a__law_name_due =>
      refine' G.defAt_mk ?a ?l ?c ?k
      (case a => k_is)
      (case l => k_is)
      (case c => k_is)
      (case k => k_is)
    case a__law_kind =>
      refine' G.defAt_mk ?a ?l ?c ?k
      (case a => k_is)
      (case l => k_is)
      (case c => k_is)
      (case k => k_is)
    case a__law_right =>
      refine' G.defAt_mk ?a ?l ?c ?k
      (case a => k_is)
      (case l => k_is)
      (case c => k_is)
      (case k => k_is)
    case a_law =>
      refine' G.defAt_mk ?a ?l ?c ?k
      (case a => k_is)
      (case l => k_is)
      (case c => k_is)
      (case k => k_is)
    case c_WIDE =>
      refine' G.const_int ?e
      (case e => k_is)
    case c_LETTERS =>
      refine' G.const_str ?e
      (case e => k_is)
    case c_MOST_SIGNS =>
      refine' G.const_int ?e
      (case e => k_is)
    case c_KEPT =>
      refine' G.const_tup ?e ?g ?v
      (case e => k_is)
      (case g => k_is)
      (case v => rfl)
    case c_KEPT_MORE =>
      refine' G.const_tup ?e ?g ?v
      (case e => k_is)
      (case g => k_is)
      (case v => rfl)
    (case z_len => k_is)
    (case z_int => k_is)
    (case z_str => k_is)
    (case z_list => k_is)
    (case z_tuple => k_is)
    (case z_all => k_is)
    (case z_max => k_is)
    (case z_min => k_is)
    (case z_sum => k_is)
    (case z_isinstance => k_is)
    (case z_range => k_is)
    (case z_zip => k_is)
    (case z_enumerate => k_is)
    (case z_bool => k_is)
    (case z_repr => k_is)

