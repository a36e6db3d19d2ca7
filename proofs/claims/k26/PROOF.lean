import PyProof.Rows.All
import Wide.All
import OpenK.AllK
import Wide.FinOn
import HandS.ForMost
import HandS.ForExc
import HandS.CallSlots
import HandS.TupAny
import HandS.TupMul
import HandS.TupLe
import HandS.Conv
import HandS.Deep
import HandS.Wide
import HandS.Flow
import HandS.Style
import HandS.IsInst
import HandS.Zip
import HandS.Walk
import HandS.Defaults
import KE.KIntText
import KE.GoesEnum
import HandS.ExcOwn
import HandS.TryMany
import KE.KExcIs
import HandS.TupSets
import KE.KStateDown
import Lean
import HandS.Ends
import HandS.More
import HandS.Words
import HandS.WordsExc
import HandS.Head0
import HandS.Head1
import HandS.Head2
import HandS.HeadEnd
import HandS.HeadHook1
import HandS.HeadHook2
import PySem.Challenge.RW_collectedwords_k26_whole_refused_members
set_option Elab.async false
set_option linter.all false
set_option maxRecDepth 100000
/-! The small machine: values without addresses, a frame's own objects, an evaluator. -/
namespace VM
open PySem L2

abbrev DKey := Sum Key (List Key)

inductive U where
  | non | bl (b : Bool) | int (i : Int) | str (x : Str)
  | tup (xs : List U) | lst (xs : List U) | frz (xs : List U) | dct (kvs : List (DKey × U)) | fn (f : Nat)

/-- a dict of its own: keys tuples of ints -/
abbrev KD := List (List Int × U)
/-- a frame's own objects -/
inductive MO where
  | lst (xs : List U) | lck (xs : List U) | dct (kvs : List (DKey × U)) | ins (c : Nat) (fs : List (Str × U)) (kd : Option (Str × KD)) | kt (ks : List Int) | dead

/-- a slot, an argument -/
inductive S where
  | v (u : U) | r (n : Nat)
/-- a result: a value, an own object, a new object -/
inductive RV where
  | v (u : U) | r (n : Nat) | nw (o : MO)

structure Ex where
  c : Nat
  fs : List U

inductive Rs (α : Type) where
  | ok (a : α) (h : List MO) | ex (e : Ex) (h : List MO) | bad

abbrev Rho := List (Option S)
abbrev Hs := List MO

inductive SR where
  | nx (ρ : Rho) (h : Hs) | bk (ρ : Rho) (h : Hs) | ct (ρ : Rho) (h : Hs) | rt (r : RV) (h : Hs) | ex (e : Ex) (ρ : Rho) (h : Hs) | bad

inductive BO where
  | add | sub | mul | fdiv | mod | pow
inductive CO where
  | eq | ne | lt | le | gt | ge | is | isn | «in» | nin
/-- built-in functions and types called -/
inductive BI where
  | len | tuple | list | all | any | sum | min | max | abs | int | str | sorted | range | intL
inductive Ty where
  | int | bool | str | list | tuple | cls (c : Nat)
/-- methods of built-in types -/
inductive ME where
  | append | extend | pop | index | join | split

mutual
inductive IE where
  | var (i : Nat)
  | c (u : U)
  | gl (x : Str) (u : U)
  | fn (x : Str) (f : Nat)
  | bin (o : BO) (a b : IE)
  | neg (a : IE)
  | nt (a : IE)
  | cmp (o : CO) (a b : IE)
  | ch (o p : CO) (a b c : IE)
  | and (a b : IE)
  | or (a b : IE)
  | ife (c a b : IE)
  | tup (es : IEs)
  | lst (es : IEs)
  | idx (a b : IE)
  | slc (a : IE) (lo hi : IO)
  | rev (a : IE)
  | nr (a : IE)
  | call (f : Nat) (es : IEs) (ks : List (Str × Nat)) (kes : IEs)
  | cv (i : Nat) (es : IEs)
  | bi (b : BI) (es : IEs)
  | isi (a : IE) (ts : List Ty)
  | met (m : ME) (o : IE) (es : IEs)
  | lc (t : Tg) (it : II) (c : IO) (e : IE) (own : List (Str × Nat))
  | lc2 (t : Tg) (it : II) (c : IO) (t1 : Tg) (it1 : II) (c1 : IO) (e : IE) (own : List (Str × Nat))
  | fld (c : Nat) (o : IE) (x : Str)
  | kin (c : Nat) (n : Bool) (k o : IE) (x : Str)
  | kget (c : Nat) (o : IE) (x : Str) (k : IE)
  | mth (c : Nat) (m : Str) (f : Nat) (o : IE) (es : IEs)
  | mk (x : Str) (c f : Nat) (e : IE)
  | ktup (es : IEs)
  | srt (d : Nat) (e : IE)
  | xx
inductive IEs where
  | nil | cons (e : IE) (es : IEs)
inductive IO where
  | none | some (e : IE)
/-- what a loop walks -/
inductive II where
  | val (e : IE) | rng (es : IEs) | enm (e : IE) | zip (a b : IE)
/-- targets -/
inductive Tg where
  | nm (i : Nat) | tp (ts : Tgs) | sub (o i : IE)
inductive Tgs where
  | nil | cons (t : Tg) (ts : Tgs)
end

/-- what an except suite stores -/
inductive IH where
  | isi | lst (xs : List (Option Str)) | ife (a b : Str)

mutual
inductive IS where
  | asg (t : Tg) (e : IE)
  | par (is : List Nat) (es : IEs)
  | aug (i : Nat) (o : BO) (e : IE)
  | ex (e : IE)
  | ifs (c : IE) (a b : ISs)
  | fors (t : Tg) (it : II) (b : ISs)
  | whl (c : IE) (b : ISs)
  | ret (e : IE)
  | brk
  | cnt
  | rse (c : Nat) (x : Str) (es : IEs)
  | tr (ks : List Nat) (b : ISs) (hs : List (Nat × Nat × Nat × IH))
  | fz (i : Nat)
  | kput (c : Nat) (o : IE) (x : Str) (k e : IE)
  | xx
inductive ISs where
  | nil | cons (s : IS) (ss : ISs)
end

/-! ### values -/
def Rs.bind {α β : Type} : Rs α → (α → Hs → Rs β) → Rs β
  | .ok a h, f => f a h
  | .ex e h, _ => .ex e h
  | .bad, _ => .bad

/-- as an argument, an item: a new list is a value -/
def RV.s : RV → Option S
  | .v u => some (.v u)
  | .r n => some (.r n)
  | .nw (.lst xs) => some (.v (.lst xs))
  | .nw (.dct kvs) => some (.v (.dct kvs))
  | .nw _ => none
def S.u : S → Option U
  | .v u => some u
  | .r _ => none
def RV.u (r : RV) : Option U := r.s.bind S.u
def allU : List S → Option (List U)
  | [] => some []
  | s :: r => match s.u, allU r with
    | some u, some us => some (u :: us)
    | _, _ => none

/-- a list or a tuple, its items -/
def seqS (h : Hs) : S → Option (Bool × List U)
  | .v (.tup xs) => some (false, xs)
  | .v (.lst xs) => some (true, xs)
  | .v _ => none
  | .r n => match h[n]? with
    | some (.lst xs) => some (true, xs)
    | some (.lck xs) => some (true, xs)
    | _ => none

mutual
/-- how deep, at most n -/
def U.dp : U → Nat
  | .tup xs => dpL xs + 1
  | .lst xs => dpL xs + 1
  | _ => 0
def dpL : List U → Nat
  | [] => 0
  | x :: xs => max x.dp (dpL xs)
end
mutual
/-- data that == looks through -/
def U.dat : U → Bool
  | .tup xs => datL xs
  | .lst xs => datL xs
  | .frz _ => false
  | .dct _ => false
  | .fn _ => false
  | .str x => x.cps.all (· < 0x110000)
  | _ => true
def datL : List U → Bool
  | [] => true
  | x :: xs => x.dat && datL xs
end
def b2i (b : Bool) : Int := if b then 1 else 0
mutual
def eqU : U → U → Bool
  | .non, .non => true
  | .bl a, .bl b => a == b
  | .bl a, .int i => b2i a == i
  | .int i, .bl a => i == b2i a
  | .int i, .int j => i == j
  | .str x, .str y => decide (x = y)
  | .tup xs, .tup ys => eqL xs ys
  | .lst xs, .lst ys => eqL xs ys
  | _, _ => false
def eqL : List U → List U → Bool
  | [], [] => true
  | x :: xs, y :: ys => eqU x y && eqL xs ys
  | _, _ => false
end
/-- shallow enough data -/
def U.shp (u : U) : Bool := u.dat && Nat.ble u.dp 40

def truU : U → Option Bool
  | .non => some false
  | .bl b => some b
  | .int i => some (i != 0)
  | .str x => if x.length ≤ 16777216 then some ((x.length : Int) != 0) else none
  | .tup xs => some (!xs.isEmpty)
  | .lst xs => some (!xs.isEmpty)
  | _ => none
def truS (h : Hs) : S → Option Bool
  | .v u => truU u
  | .r n => (seqS h (.r n)).map fun p => !p.2.isEmpty

def lim : Nat := 16777216
def small64 (i : Int) : Bool := decide (-18446744073709551616 < i) && decide (i < 18446744073709551616)
def mulOk (i j : Int) : Bool := small64 i || small64 j || Nat.ble (i.natAbs.log2 + j.natAbs.log2) 900000

def rep {α : Type} (xs : List α) (k : Int) : List α := (List.replicate k.toNat xs).flatten

def binS (o : BO) (h : Hs) (x y : S) : Option RV :=
  match o, x, y with
  | .add, .v (.int i), .v (.int j) => some (.v (.int (i + j)))
  | .add, .v (.str a), .v (.str b) => if a.length + b.length ≤ lim then some (.v (.str (a ++ b))) else none
  | .sub, .v (.int i), .v (.int j) => some (.v (.int (i - j)))
  | .mul, .v (.int i), .v (.int j) => if mulOk i j then some (.v (.int (i * j))) else none
  | .fdiv, .v (.int i), .v (.int j) => if 0 < j ∧ j.natAbs.log2 < 8000 then some (.v (.int (i / j))) else none
  | .mod, .v (.int i), .v (.int j) => if 0 < j then some (.v (.int (i % j))) else none
  | .pow, .v (.int i), .v (.int j) => if 0 ≤ j ∧ j ≤ 1000 ∧ i.natAbs < 1000000 then some (.v (.int (i ^ j.toNat))) else none
  | .add, a, b => match seqS h a, seqS h b with
    | some (false, xs), some (false, ys) => if xs.length + ys.length ≤ lim then some (.v (.tup (xs ++ ys))) else none
    | some (true, xs), some (true, ys) => if xs.length + ys.length ≤ lim then some (.nw (.lst (xs ++ ys))) else none
    | _, _ => none
  | .mul, .v (.str a), .v (.int k) => if -1000000 ≤ k ∧ k ≤ 1000000 ∧ a.length * k.toNat ≤ lim then some (.v (.str ⟨(rep a.cps.toList k).toArray⟩)) else none
  | .mul, a, .v (.int k) => match seqS h a with
    | some (false, xs) => if -1000000 ≤ k ∧ k ≤ 1000 ∧ xs.length ≤ 1000 then some (.v (.tup (rep xs k))) else none
    | some (true, xs) => if -1000000 ≤ k ∧ k ≤ 1000000 ∧ xs.length * k.toNat ≤ lim then some (.nw (.lst (rep xs k))) else none
    | none => none
  | _, _, _ => none

def cmpI : CO → Int → Int → Option Bool
  | .eq, i, j => some (decide (i = j))
  | .ne, i, j => some (!decide (i = j))
  | .lt, i, j => some (decide (i < j))
  | .le, i, j => some (decide (i ≤ j))
  | .gt, i, j => some (decide (j < i))
  | .ge, i, j => some (decide (j ≤ i))
  | _, _, _ => none

def strLt (a b : Str) : Bool := decide (a.cps.toList < b.cps.toList)
/-- one sign within a text -/
def signIn (x z : Str) : Option Bool := match x.cps.toList with
  | [c] => some (decide (c ∈ z.cps.toList))
  | _ => none
def isNon : U → Bool
  | .non => true
  | _ => false
def cmpS (o : CO) (h : Hs) (x y : S) : Option Bool :=
  match o, x, y with
  | .is, .v a, .v .non => some (isNon a)
  | .is, .r n, .v .non => (seqS h (.r n)).map fun _ => false
  | .isn, .v a, .v .non => some (!isNon a)
  | .isn, .r n, .v .non => (seqS h (.r n)).map fun _ => true
  | .in, .v (.str a), .v (.str z) => signIn a z
  | .nin, .v (.str a), .v (.str z) => (signIn a z).map (!·)
  | .in, .v a, z => match seqS h z with
    | some (true, ys) => if a.shp && (U.lst ys).shp then some (ys.any fun y => eqU y a) else none
    | some (false, ys) => if a.shp && (U.tup ys).shp then some (ys.any fun y => eqU y a) else none
    | none => none
  | .nin, .v a, z => match seqS h z with
    | some (true, ys) => if a.shp && (U.lst ys).shp then some (!ys.any fun y => eqU y a) else none
    | some (false, ys) => if a.shp && (U.tup ys).shp then some (!ys.any fun y => eqU y a) else none
    | none => none
  | o, .v (.int i), .v (.int j) => cmpI o i j
  | .lt, .v (.str a), .v (.str b) => some (strLt a b)
  | .le, .v (.str a), .v (.str b) => some (!strLt b a)
  | .gt, .v (.str a), .v (.str b) => some (strLt b a)
  | .ge, .v (.str a), .v (.str b) => some (!strLt a b)
  | .eq, .v (.str a), .v (.str b) => some (decide (a = b))
  | .ne, .v (.str a), .v (.str b) => some (!decide (a = b))
  | .eq, .v a, .v b => if a.shp && b.shp then some (eqU a b) else none
  | .ne, .v a, .v b => if a.shp && b.shp then some (!eqU a b) else none
  | _, _, _ => none

/-- the place that i names among n -/
def ixU (n : Nat) (i : Int) : Option Nat := if 0 ≤ i then (if i < n then some i.toNat else none) else if -(n : Int) ≤ i then some (i + n).toNat else none
def idxS (h : Hs) (x : S) (i : S) : Option RV :=
  match x, i with
  | .v (.str z), .v (.int i) => if z.length ≤ lim then match ixU z.cps.toList.length i with
      | some j => (z.cps.toList[j]?).map fun c => .v (.str ⟨#[c]⟩)
      | none => none
    else none
  | .v (.frz xs), .v (.int i) => match ixU xs.length i with
    | some j => (xs[j]?).map .v
    | none => none
  | x, .v (.int i) => match seqS h x with
    | some (_, xs) => match ixU xs.length i with
      | some j => (xs[j]?).map .v
      | none => none
    | none => none
  | _, _ => none

def sIx (n d : Nat) : Option Int → Nat
  | none => d
  | some v => if v < 0 then (v + (n : Int)).toNat else min v.toNat n
def cut {α : Type} (xs : List α) (lo hi : Option Int) : List α := (xs.drop (sIx xs.length 0 lo)).take (sIx xs.length xs.length hi - sIx xs.length 0 lo)
def slcS (h : Hs) (x : S) (lo hi : Option Int) : Option RV :=
  match x with
  | .v (.str z) => if z.length ≤ lim then some (.v (.str ⟨(cut z.cps.toList lo hi).toArray⟩)) else none
  | .v (.frz xs) => some (.nw (.lst (cut xs lo hi)))
  | x => match seqS h x with
    | some (true, xs) => some (.nw (.lst (cut xs lo hi)))
    | some (false, xs) => some (.v (.tup (cut xs lo hi)))
    | none => none
def revS (h : Hs) (x : S) : Option RV :=
  match seqS h x with
  | some (true, xs) => some (.nw (.lst xs.reverse))
  | _ => none

def intsU : List U → Option (List Int)
  | [] => some []
  | .int i :: r => (intsU r).map (i :: ·)
  | _ => none
def blsU : List U → Option (List Bool)
  | [] => some []
  | .bl i :: r => (blsU r).map (i :: ·)
  | _ => none
def strsU : List U → Option (List Str)
  | [] => some []
  | .str i :: r => (strsU r).map (i :: ·)
  | _ => none
def maxI (i : Int) : List Int → Int
  | [] => i
  | j :: r => maxI (if i < j then j else i) r
def minI (i : Int) : List Int → Int
  | [] => i
  | j :: r => minI (if j < i then j else i) r

def seqAll (h : Hs) (x : S) : Option (Bool × List U) := match x with
  | .v (.frz xs) => some (true, xs)
  | x => seqS h x
def one1 {α : Type} (f : S → Option α) : List S → Option α
  | [x] => f x
  | _ => none
def lenB (h : Hs) : S → Option RV
  | .v (.str x) => if x.length ≤ lim then some (.v (.int x.length)) else none
  | x => (seqAll h x).map fun p => .v (.int p.2.length)
def blsB (h : Hs) (f : List Bool → Bool) (x : S) : Option RV := match seqS h x with
  | some (true, xs) => (blsU xs).map fun bs => .v (.bl (f bs))
  | _ => none
def extB (h : Hs) (f : Int → List Int → Int) (x : S) : Option RV := match seqS h x with
  | some (true, xs) => match intsU xs with
    | some (i :: r) => some (.v (.int (f i r)))
    | _ => none
  | _ => none
def two2 (f : S → Option RV) (g : Int → Int → Int) : List S → Option RV
  | [x] => f x
  | [x, y] => match x, y with
    | .v (.int i), .v (.int j) => some (.v (.int (g i j)))
    | _, _ => none
  | _ => none
def absB : S → Option RV
  | .v (.int i) => some (.v (.int (if i < 0 then -i else i)))
  | _ => none
def intB : S → Option RV
  | .v (.int i) => some (.v (.int i))
  | .v (.bl b) => some (.v (.int (if b then 1 else 0)))
  | .v (.str x) => if x.length ≤ 640 then (PySem.intText? x).map fun n => .v (.int n) else none
  | _ => none
/-- of a long text -/
def intLB : S → Option RV
  | .v (.str x) => if x.length ≤ lim then (PySem.intText? x).map fun n => .v (.int n) else none
  | _ => none
def strB : S → Option RV
  | .v (.int i) => if i.natAbs.log2 < 1920 then some (.v (.str (toString i))) else none
  | _ => none
def bltS (b : BI) (h : Hs) (ss : List S) : Option RV :=
  match b with
  | .len => one1 (lenB h) ss
  | .tuple => one1 (fun x => (seqS h x).map fun p => .v (.tup p.2)) ss
  | .list => one1 (fun x => (seqS h x).map fun p => .nw (.lst p.2)) ss
  | .all => one1 (blsB h fun bs => bs.all id) ss
  | .any => one1 (blsB h fun bs => bs.any id) ss
  | .sum => one1 (fun x => match seqS h x with
    | some (true, xs) => (intsU xs).map fun bs => .v (.int bs.sum)
    | _ => none) ss
  | .max => two2 (extB h maxI) (fun i j => if j > i then j else i) ss
  | .min => two2 (extB h minI) (fun i j => if j < i then j else i) ss
  | .abs => one1 absB ss
  | .int => one1 intB ss
  | .str => one1 strB ss
  | .intL => one1 intLB ss
  | .sorted => none
  | .range => none

def setAt (h : Hs) (n : Nat) (o : MO) : Hs := h.set n o
def onL (h : Hs) (o : S) (f : Nat → List U → Option (RV × Hs)) : Option (RV × Hs) := match o with
  | .r n => match h[n]? with
    | some (.lst xs) => f n xs
    | _ => none
  | _ => none
def appM (h : Hs) (o : S) : List S → Option (RV × Hs)
  | [.v u] => onL h o fun n xs => if xs.length < lim then some (.v .non, h.set n (.lst (xs ++ [u]))) else none
  | _ => none
def extM (h : Hs) (o : S) : List S → Option (RV × Hs)
  | [s] => onL h o fun n xs => match seqS h s with
    | some (true, ys) => if xs.length + ys.length ≤ lim then some (.v .non, h.set n (.lst (xs ++ ys))) else none
    | _ => none
  | _ => none
def popM (h : Hs) (o : S) : List S → Option (RV × Hs)
  | [] => onL h o fun n xs => match xs[xs.length - 1]? with
    | some u => some (.v u, h.set n (.lst xs.dropLast))
    | none => none
  | [.v (.int i)] => onL h o fun n xs => if xs.length ≤ lim then match ixU xs.length i with
      | some j => match xs[j]? with
        | some u => some (.v u, h.set n (.lst (xs.eraseIdx j)))
        | none => none
      | none => none else none
  | _ => none
def findU (u : U) : List U → Option Nat
  | [] => none
  | y :: ys => if eqU y u then some 0 else (findU u ys).map (· + 1)
def idxM (h : Hs) (o : S) : List S → Option (RV × Hs)
  | [.v u] => match seqS h o with
    | some (true, xs) => if u.shp && (U.lst xs).shp then (findU u xs).map fun j => (.v (.int j), h) else none
    | _ => none
  | _ => none
def joinM (h : Hs) (o : S) : List S → Option (RV × Hs)
  | [s] => match o with
    | .v (.str a) => match seqS h s with
      | some (_, xs) => match strsU xs with
        | some ys => if (ys.map (·.length)).sum + ys.length * a.length ≤ lim then some (.v (.str (Txt.join a ys)), h) else none
        | none => none
      | none => none
    | _ => none
  | _ => none
def splM (h : Hs) (o : S) : List S → Option (RV × Hs)
  | [.v (.str b)] => match o with
    | .v (.str a) => if (b.length == 0) = false ∧ a.length + 2 ≤ lim then some (.nw (.lst ((Txt.split a b).map .str)), h) else none
    | _ => none
  | _ => none
def metS (m : ME) (h : Hs) (o : S) (ss : List S) : Option (RV × Hs) :=
  match m with
  | .append => appM h o ss
  | .extend => extM h o ss
  | .pop => popM h o ss
  | .index => idxM h o ss
  | .join => joinM h o ss
  | .split => splM h o ss

/-- the receiver fits -/
def metT (m : ME) (h : Hs) (o : S) : Bool := match m with
  | .join => match o with
    | .v (.str _) => true
    | _ => false
  | .split => match o with
    | .v (.str _) => true
    | _ => false
  | _ => match seqS h o with
    | some (true, _) => true
    | _ => false
/-- the built-in type: None 0, bool 1, int 2, str 3, tuple 4, list 5 -/
def tyS (h : Hs) : S → Option Nat
  | .v .non => some 0
  | .v (.bl _) => some 1
  | .v (.int _) => some 2
  | .v (.str _) => some 3
  | .v (.tup _) => some 4
  | .v (.lst _) => some 5
  | .v _ => none
  | .r n => (seqS h (.r n)).map fun _ => 5
def isTy (t : Nat) : Ty → Bool
  | .int => t == 2 || t == 1
  | .bool => t == 1
  | .str => t == 3
  | .tuple => t == 4
  | .list => t == 5
  | .cls _ => false

/-! ### calls -/
structure CC where
  call : Nat → List S → Hs → Rs RV
  np : Nat → Nat
  df : Nat → List U
  lv : Nat

def refsOf : List S → List Nat
  | [] => []
  | .v _ :: r => refsOf r
  | .r n :: r => n :: refsOf r
def pick (h : Hs) : List Nat → Option Hs
  | [] => some []
  | n :: r => match h[n]?, pick h r with
    | some .dead, _ => none
    | some o, some os => some (o :: os)
    | _, _ => none
def renum (k : Nat) : List S → List S
  | [] => []
  | .v u :: r => .v u :: renum k r
  | .r _ :: r => .r k :: renum (k + 1) r
def putBack {α : Type} (h : List α) : List Nat → List α → List α
  | n :: ns, o :: os => putBack (h.set n o) ns os
  | _, _ => h
def ndup : List Nat → Bool
  | [] => true
  | n :: r => !r.contains n && ndup r
/-- what a call hands back, in the caller's numbers -/
def backR (ns : List Nat) (h : Hs) : RV → Rs RV
  | .v u => .ok (.v u) h
  | .r k => match ns[k]? with
    | some n => .ok (.r n) h
    | none => .bad
  | .nw (.ins c fs kd) => .ok (.r h.length) (h ++ [.ins c fs kd])
  | .nw o => .ok (.nw o) h
def doCall (c : CC) (f : Nat) (ss : List S) (h : Hs) : Rs RV :=
  if ndup (refsOf ss) then match pick h (refsOf ss) with
    | some os => match c.call f (renum 0 ss) os with
      | .ok rv os' => if os'.length = (refsOf ss).length then backR (refsOf ss) (putBack h (refsOf ss) os') rv else .bad
      | .ex e os' => if os'.length = (refsOf ss).length then .ex e (putBack h (refsOf ss) os') else .bad
      | .bad => .bad
    | none => .bad
  else .bad
def mapO {α β : Type} (f : α → Option β) : List α → Option (List β)
  | [] => some []
  | a :: r => match f a, mapO f r with
    | some b, some bs => some (b :: bs)
    | _, _ => none
/-- the parameters' values: from the left, then by names, then what stands by itself -/
def arrJ {α : Type} (np : Nat) (us : List α) (ks : List Nat) (ws ds : List α) (j : Nat) : Option α := match us[j]? with
  | some s => some s
  | none => match ks.idxOf? j with
    | some q => ws[q]?
    | none => if np - ds.length ≤ j then ds[j - (np - ds.length)]? else none
def arrG {α : Type} (np : Nat) (us : List α) (ks : List Nat) (ws ds : List α) : Option (List α) := if us.length ≤ np then mapO (arrJ np us ks ws ds) (List.range np) else none
def argsOf (c : CC) (f : Nat) (ss : List S) (ks : List Nat) (kss : List S) : Option (List S) := arrG (c.np f) ss ks kss ((c.df f).map .v)

def wipeR (ρ : Rho) : List Nat → Rho
  | [] => ρ
  | v :: vs => (wipeR ρ vs).set v none
def rngN (lo hi st : Int) : Option Nat :=
  if -1000000 ≤ lo ∧ lo ≤ 16000000 ∧ -1000000 ≤ hi ∧ hi ≤ 16000000 then (if st = 1 then some (hi - lo).toNat else if st = -1 then some (lo - hi).toNat else none) else none
/-- what is walked: an item at each turn, as it stands then -/
inductive Src where
  | seq (s : S) | str (z : Str) | enm (s : S) | zip (s t : S) | rng (lo st : Int) (n : Nat)
def srcAt (h : Hs) : Src → Nat → Option U
  | .seq s, i => match seqAll h s with
    | some (_, us) => us[i]?
    | none => none
  | .str z, i => (z.cps.toList[i]?).map fun c => .str ⟨#[c]⟩
  | .enm s, i => match seqAll h s with
    | some (_, us) => (us[i]?).map fun u => .tup [.int i, u]
    | none => none
  | .zip s t, i => match seqAll h s, seqAll h t with
    | some (_, us), some (_, ws) => match us[i]?, ws[i]? with
      | some u, some w => some (.tup [u, w])
      | _, _ => none
    | _, _ => none
  | .rng lo st n, i => if i < n then some (.int (lo + i * st)) else none
/-- it stops at turn i -/
def srcEnd (h : Hs) : Src → Nat → Bool
  | .seq s, i => match seqAll h s with
    | some (_, us) => Nat.ble us.length i
    | none => false
  | .str z, i => Nat.ble z.cps.toList.length i
  | .enm s, i => match seqAll h s with
    | some (_, us) => Nat.ble us.length i
    | none => false
  | .zip s t, i => match seqAll h s, seqAll h t with
    | some (_, us), some (_, ws) => Nat.ble us.length i || Nat.ble ws.length i
    | _, _ => false
  | .rng _ _ n, i => Nat.ble n i

/-! ### the evaluator -/
abbrev EvE := Rho → Hs → Rs RV
abbrev EvL := Rho → Hs → Rs (List S)
/-- what is walked, how many turns -/
abbrev EvI := Rho → Hs → Rs (Src × Nat)
abbrev EvG := RV → Rho → Hs → Rs Rho
abbrev EvGs := List U → Rho → Hs → Rs Rho

def ofO {α : Type} (h : Hs) : Option α → Rs α
  | some a => .ok a h
  | none => .bad
def ofP {α : Type} : Option (α × Hs) → Rs α
  | some (a, h) => .ok a h
  | none => .bad
def oneS (h : Hs) (r : RV) : Rs S := ofO h r.s
/-- e as an item -/
def sE (f : EvE) : Rho → Hs → Rs S := fun ρ h => (f ρ h).bind fun r h => oneS h r
def vBin (o : BO) (f g : EvE) : EvE := fun ρ h => (sE f ρ h).bind fun x h => (sE g ρ h).bind fun y h => ofO h (binS o h x y)
def vCmp (o : CO) (f g : EvE) : EvE := fun ρ h => (sE f ρ h).bind fun x h => (sE g ρ h).bind fun y h => ofO h ((cmpS o h x y).map fun b => .v (.bl b))
def vCh (o p : CO) (f g k : EvE) : EvE := fun ρ h => (sE f ρ h).bind fun x h => (sE g ρ h).bind fun y h => match cmpS o h x y with
  | some true => (sE k ρ h).bind fun z h => ofO h ((cmpS p h y z).map fun b => .v (.bl b))
  | some false => .ok (.v (.bl false)) h
  | none => .bad
/-- a test -/
def tE (f : EvE) : Rho → Hs → Rs Bool := fun ρ h => (sE f ρ h).bind fun x h => ofO h (truS h x)
def vNt (f : EvE) : EvE := fun ρ h => (tE f ρ h).bind fun b h => .ok (.v (.bl !b)) h
def vAnd (f g : EvE) : EvE := fun ρ h => (f ρ h).bind fun r h => match r.s with
  | some x => match truS h x with
    | some true => g ρ h
    | some false => .ok r h
    | none => .bad
  | none => .bad
def vOr (f g : EvE) : EvE := fun ρ h => (f ρ h).bind fun r h => match r.s with
  | some x => match truS h x with
    | some true => .ok r h
    | some false => g ρ h
    | none => .bad
  | none => .bad
def vIf (c f g : EvE) : EvE := fun ρ h => (tE c ρ h).bind fun b h => if b = true then f ρ h else g ρ h
def vVar (i : Nat) : EvE := fun ρ h => match ρ[i]? with
  | some (some (.v u)) => .ok (.v u) h
  | some (some (.r n)) => .ok (.r n) h
  | _ => .bad
/-- the items as values -/
def usE (f : EvL) : Rho → Hs → Rs (List U) := fun ρ h => (f ρ h).bind fun ss h => ofO h (allU ss)
def vTup (f : EvL) : EvE := fun ρ h => (usE f ρ h).bind fun us h => if us.length ≤ lim then .ok (.v (.tup us)) h else .bad
def vLst (f : EvL) : EvE := fun ρ h => (usE f ρ h).bind fun us h => if us.length ≤ lim then .ok (.nw (.lst us)) h else .bad
def intO : S → Option (Option Int)
  | .v (.int i) => some (some i)
  | _ => none
abbrev EvO := Rho → Hs → Rs (Option Int)
def vCall (c : CC) (f : Nat) (es : EvL) (ks : List Nat) (kes : EvL) : EvE := fun ρ h => (es ρ h).bind fun ss h => (kes ρ h).bind fun kss h => match argsOf c f ss ks kss with
  | some as => doCall c f as h
  | none => .bad
def vCv (c : CC) (i : Nat) (es : EvL) : EvE := fun ρ h => match ρ[i]? with
  | some (some (.v (.fn f))) => if c.np f = 0 then .bad else (es ρ h).bind fun ss h => if ss.length = c.np f then doCall c f ss h else .bad
  | _ => .bad
/-- the turns of a comprehension: what is made so far, how many come, which is on -/
def compL (src : Src) (g : EvGs) (k : Rho → Hs → Rs Bool) (f : EvE) (ρ : Rho) : Nat → Nat → List U → Hs → Rs (List U)
  | 0, i, acc, h => if srcEnd h src i = true then .ok acc h else .bad
  | n + 1, i, acc, h => match srcAt h src i with
    | none => .bad
    | some x => (g [x] ρ h).bind fun ρ1 h => (k ρ1 h).bind fun b h => if b = true then
      (sE f ρ1 h).bind fun s h => match s.u with
        | some u => if acc.length < lim then compL src g k f ρ n (i + 1) (acc ++ [u]) h else .bad
        | none => .bad
      else compL src g k f ρ n (i + 1) acc h
def vLc (g : EvGs) (it : EvI) (k : Rho → Hs → Rs Bool) (f : EvE) (own : List Nat) : EvE := fun ρ h => (it ρ h).bind fun p h => match compL p.1 g k f (wipeR ρ own) p.2 0 [] h with
  | .ok us h => .ok (.nw (.lst us)) h
  | _ => .bad
/-- targets that hold one value -/
def gNm (i : Nat) : EvG := fun r ρ h => match r.s with
  | some s => .ok (ρ.set i (some s)) h
  | none => .bad
def gTp (g : EvGs) : EvG := fun r ρ h => match r with
  | .v (.tup us) => g us ρ h
  | _ => .bad
def gSubS (h : Hs) (o i : S) (u : U) : Option Hs := match o, i with
  | .r n, .v (.int i) => match h[n]? with
    | some (.lst xs) => match ixU xs.length i with
      | some j => some (h.set n (.lst (xs.set j u)))
      | none => none
    | _ => none
  | _, _ => none
def noEx {α : Type} : Rs α → Rs α
  | .ex _ _ => .bad
  | r => r
def gSub (o i : EvE) : EvG := fun r ρ h => match r.u with
  | some u => noEx ((sE o ρ h).bind fun o h => (sE i ρ h).bind fun i h => match gSubS h o i u with
    | some h => .ok ρ h
    | none => .bad)
  | none => .bad

def vNr (f : EvE) : EvE := fun ρ h => (f ρ h).bind fun r h => match r with
  | .nw o => .ok (.r h.length) (h ++ [o])
  | .r n => .ok (.r n) h
  | .v _ => .bad
def vNeg (f : EvE) : EvE := fun ρ h => (sE f ρ h).bind fun x h => match x with
  | .v (.int i) => .ok (.v (.int (-i))) h
  | _ => .bad
def vIdx (f k : EvE) : EvE := fun ρ h => (sE f ρ h).bind fun x h => (sE k ρ h).bind fun y h => ofO h (idxS h x y)
def vSlc (f : EvE) (lo hi : EvO) : EvE := fun ρ h => (sE f ρ h).bind fun x h => (lo ρ h).bind fun l h => (hi ρ h).bind fun u h => ofO h (slcS h x l u)
def vRev (f : EvE) : EvE := fun ρ h => (sE f ρ h).bind fun x h => ofO h (revS h x)
def vBi (b : BI) (es : EvL) : EvE := fun ρ h => (es ρ h).bind fun ss h => ofO h (bltS b h ss)
def vIsi (f : EvE) (ts : List Ty) : EvE := fun ρ h => (sE f ρ h).bind fun x h => ofO h ((tyS h x).map fun t => .v (.bl (ts.any (isTy t))))
def vMet (m : ME) (f : EvE) (es : EvL) : EvE := fun ρ h => (sE f ρ h).bind fun x h => if metT m h x = true then (es ρ h).bind fun ss h => ofP (metS m h x ss) else .bad
def vO (f : EvE) : EvO := fun ρ h => (sE f ρ h).bind fun s h => ofO h (intO s)
mutual
def tgN : Tg → List Nat
  | .nm i => [i]
  | .tp ts => tgsN ts
  | .sub _ _ => []
def tgsN : Tgs → List Nat
  | .nil => []
  | .cons t ts => tgN t ++ tgsN ts
end
/-! ### instances -/
def flA (x : Str) : List (Str × U) → Option U
  | [] => none
  | (y, u) :: r => if y = x then some u else flA x r
def dGt (k : List Int) : KD → Option U
  | [] => none
  | (j, u) :: r => if j = k then some u else dGt k r
def dPt (k : List Int) (u : U) (kvs : KD) : KD := if (kvs.any fun p => decide (p.1 = k)) = true then kvs.map (fun p => if p.1 = k then (p.1, u) else p) else kvs ++ [(k, u)]
def keyU (h : Hs) : S → Option (List Int)
  | .r n => match h[n]? with
    | some (.kt ks) => some ks
    | _ => none
  | _ => none
def fldS (c : Nat) (h : Hs) (s : S) (x : Str) : Option RV := match s with
  | .r n => match h[n]? with
    | some (.ins c' fs _) => if c' = c then (flA x fs).map .v else none
    | _ => none
  | _ => none
/-- the dict x of the instance s -/
def kdS (c : Nat) (h : Hs) (s : S) (x : Str) : Option KD := match s with
  | .r n => match h[n]? with
    | some (.ins c' _ (some (y, kvs))) => if c' = c ∧ y = x then some kvs else none
    | _ => none
  | _ => none
def kputS (h : Hs) (s : S) (x : Str) (k : List Int) (u : U) : Option Hs := match s with
  | .r n => match h[n]? with
    | some (.ins c fs (some (y, kvs))) => if y = x ∧ kvs.length < lim then some (h.set n (.ins c fs (some (y, dPt k u kvs)))) else none
    | _ => none
  | _ => none
def isIns (h : Hs) (c : Nat) (m : Str) : S → Bool
  | .r n => match h[n]? with
    | some (.ins c' fs kd) => decide (c' = c) && (flA m fs).isNone && (match kd with
      | some (y, _) => !decide (y = m)
      | none => true)
    | _ => false
  | _ => false
def vKtup (es : EvL) : EvE := fun ρ h => (usE es ρ h).bind fun us h => match intsU us with
  | some ks => if ks.length ≤ 10 then .ok (.nw (.kt ks)) h else .bad
  | none => .bad
def vFld (c : Nat) (x : Str) (f : EvE) : EvE := fun ρ h => (sE f ρ h).bind fun s h => ofO h (fldS c h s x)
def vKin (c : Nat) (n : Bool) (x : Str) (fk fo : EvE) : EvE := fun ρ h => (sE fk ρ h).bind fun k h => (sE fo ρ h).bind fun s h => match kdS c h s x, keyU h k with
  | some kvs, some ks => .ok (.v (.bl (if n then !(dGt ks kvs).isSome else (dGt ks kvs).isSome))) h
  | _, _ => .bad
def vKget (c : Nat) (x : Str) (fo fk : EvE) : EvE := fun ρ h => (sE fo ρ h).bind fun s h => match kdS c h s x with
  | none => .bad
  | some _ => (sE fk ρ h).bind fun k h => match kdS c h s x, keyU h k with
    | some kvs, some ks => ofO h ((dGt ks kvs).map .v)
    | _, _ => .bad
def vMth (cc : CC) (c : Nat) (m : Str) (f : Nat) (fo : EvE) (es : EvL) : EvE := fun ρ h => (sE fo ρ h).bind fun s h => if isIns h c m s = true then (es ρ h).bind fun ss h => match argsOf cc f (s :: ss) [] [] with
    | some as => doCall cc f as h
    | none => .bad
  else .bad
/-- the one class that is made: book, many, one, kept -/
def hallO (c : Nat) (u : U) : Option MO := match u with
  | .tup (.tup os :: r) => if os.length ≤ 1000 then some (.ins c [(⟨#[98, 111, 111, 107]⟩, u), (⟨#[109, 97, 110, 121]⟩, .int os.length), (⟨#[111, 110, 101]⟩, .tup (List.replicate os.length (.int 0)))] (some (⟨#[107, 101, 112, 116]⟩, []))) else none
  | _ => none
def vMk (cc : CC) (c : Nat) (f : EvE) : EvE := fun ρ h => if 2 ≤ cc.lv then (sE f ρ h).bind fun s h => match s with
    | .v u => ofO h ((hallO c u).map .nw)
    | .r _ => .bad
  else .bad
/-! sorted tuples of ints -/
def codeM : List Int → Int
  | [] => 0
  | d :: r => d * 1000000 ^ r.length + codeM r
def insT (x : List Int) : List (List Int) → List (List Int)
  | [] => [x]
  | y :: ys => if codeM x ≤ codeM y then x :: y :: ys else y :: insT x ys
def sortT : List (List Int) → List (List Int)
  | [] => []
  | x :: xs => insT x (sortT xs)
def tupI (d : Nat) : List U → Option (List (List Int))
  | [] => some []
  | .tup us :: r => match intsU us, tupI d r with
    | some is, some rs => if is.length = d ∧ (is.all fun i => decide (0 ≤ i ∧ i < 1000000)) = true then some (is :: rs) else none
    | _, _ => none
  | _ => none
def srtS (d : Nat) (h : Hs) (s : S) : Option RV := match seqS h s with
  | some (true, us) => match tupI d us with
    | some rs => if rs.length < 64 then some (.nw (.lst ((sortT rs).map fun is => .tup (is.map .int)))) else none
    | none => none
  | _ => none
def vSrt (d : Nat) (f : EvE) : EvE := fun ρ h => (sE f ρ h).bind fun s h => ofO h (srtS d h s)
/-! two walks in a comprehension -/
def compO (src : Src) (g : EvGs) (k : Rho → Hs → Rs Bool) (it1 : EvI) (g1 : EvGs) (k1 : Rho → Hs → Rs Bool) (f : EvE) (ρ : Rho) (vs1 : List Nat) : Nat → Nat → List U → Hs → Rs (List U)
  | 0, i, acc, h => if srcEnd h src i = true then .ok acc h else .bad
  | n + 1, i, acc, h => match srcAt h src i with
    | none => .bad
    | some x => (g [x] ρ h).bind fun ρ1 h => (k ρ1 h).bind fun b h => if b = true then
      (it1 ρ1 h).bind fun p h => (compL p.1 g1 k1 f (wipeR ρ1 vs1) p.2 0 acc h).bind fun acc h => compO src g k it1 g1 k1 f ρ vs1 n (i + 1) acc h
      else compO src g k it1 g1 k1 f ρ vs1 n (i + 1) acc h
def vLc2 (g : EvGs) (it : EvI) (k : Rho → Hs → Rs Bool) (g1 : EvGs) (it1 : EvI) (k1 : Rho → Hs → Rs Bool) (f : EvE) (own vs1 : List Nat) : EvE := fun ρ h => (it ρ h).bind fun p h => match compO p.1 g k it1 g1 k1 f (wipeR ρ own) vs1 p.2 0 [] h with
  | .ok us h => .ok (.nw (.lst us)) h
  | _ => .bad
def vNil : EvL := fun _ h => .ok [] h
def vCons (f : EvE) (es : EvL) : EvL := fun ρ h => (sE f ρ h).bind fun s h => (es ρ h).bind fun ss h => .ok (s :: ss) h

def iVal (f : EvE) : EvI := fun ρ h => (sE f ρ h).bind fun s h => match s with
  | .v (.str z) => .ok (.str z, z.cps.toList.length) h
  | s => match seqAll h s with
    | some (_, us) => .ok (.seq s, us.length) h
    | none => .bad
def iRng (f : EvL) : EvI := fun ρ h => (f ρ h).bind fun ss h => match ss with
  | [.v (.int n)] => ofO h ((rngN 0 n 1).map fun k => (.rng 0 1 k, k))
  | [.v (.int a), .v (.int b)] => ofO h ((rngN a b 1).map fun k => (.rng a 1 k, k))
  | [.v (.int a), .v (.int b), .v (.int d)] => ofO h ((rngN a b d).map fun k => (.rng a d k, k))
  | _ => .bad
def iEnm (f : EvE) : EvI := fun ρ h => (sE f ρ h).bind fun s h => match seqAll h s with
  | some (_, us) => .ok (.enm s, us.length) h
  | none => .bad
def iZp (f k : EvE) : EvI := fun ρ h => (sE f ρ h).bind fun s h => (sE k ρ h).bind fun t h => match seqAll h s, seqAll h t with
  | some (_, us), some (_, ws) => .ok (.zip s t, min us.length ws.length) h
  | _, _ => .bad

mutual
def evE (c : CC) : IE → EvE
  | .var i => vVar i
  | .c u => fun _ h => .ok (.v u) h
  | .gl _ u => fun _ h => .ok (.v u) h
  | .fn _ f => fun _ h => .ok (.v (.fn f)) h
  | .bin o a b => vBin o (evE c a) (evE c b)
  | .neg a => vNeg (evE c a)
  | .nt a => vNt (evE c a)
  | .cmp o a b => vCmp o (evE c a) (evE c b)
  | .ch o p a b d => vCh o p (evE c a) (evE c b) (evE c d)
  | .and a b => vAnd (evE c a) (evE c b)
  | .or a b => vOr (evE c a) (evE c b)
  | .ife t a b => vIf (evE c t) (evE c a) (evE c b)
  | .tup es => vTup (evL c es)
  | .lst es => vLst (evL c es)
  | .idx a b => vIdx (evE c a) (evE c b)
  | .slc a lo hi => vSlc (evE c a) (evO c lo) (evO c hi)
  | .rev a => vRev (evE c a)
  | .nr a => vNr (evE c a)
  | .call f es ks kes => vCall c f (evL c es) (ks.map (·.2)) (evL c kes)
  | .cv i es => vCv c i (evL c es)
  | .bi b es => vBi b (evL c es)
  | .isi a ts => vIsi (evE c a) ts
  | .met m o es => vMet m (evE c o) (evL c es)
  | .lc t it k e own => vLc (evT1 c t) (evI c it) (evK c k) (evE c e) (own.map (·.2))
  | .lc2 t it k t1 it1 k1 e own => vLc2 (evT1 c t) (evI c it) (evK c k) (evT1 c t1) (evI c it1) (evK c k1) (evE c e) (own.map (·.2)) (tgN t1)
  | .fld cl o x => vFld cl x (evE c o)
  | .kin cl n k o x => vKin cl n x (evE c k) (evE c o)
  | .kget cl o x k => vKget cl x (evE c o) (evE c k)
  | .mth cl m f o es => vMth c cl m f (evE c o) (evL c es)
  | .mk _ cl _ e => vMk c cl (evE c e)
  | .srt d e => vSrt d (evE c e)
  | .ktup es => vKtup (evL c es)
  | .xx => fun _ _ => .bad
def evL (c : CC) : IEs → EvL
  | .nil => vNil
  | .cons e es => vCons (evE c e) (evL c es)
def evO (c : CC) : IO → EvO
  | .none => fun _ h => .ok none h
  | .some e => vO (evE c e)
def evK (c : CC) : IO → Rho → Hs → Rs Bool
  | .none => fun _ h => .ok true h
  | .some e => tE (evE c e)
def evI (c : CC) : II → EvI
  | .val e => iVal (evE c e)
  | .rng es => iRng (evL c es)
  | .enm e => iEnm (evE c e)
  | .zip a b => iZp (evE c a) (evE c b)
/-- a target that takes one value, as a list of one -/
def evT1 (c : CC) : Tg → EvGs
  | .nm i => fun us ρ h => match us with
    | [u] => .ok (ρ.set i (some (.v u))) h
    | _ => .bad
  | .tp ts => fun us ρ h => match us with
    | [.tup xs] => evTs c ts xs ρ h
    | _ => .bad
  | _ => fun _ _ _ => .bad
def evTs (c : CC) : Tgs → EvGs
  | .nil => fun us ρ h => match us with
    | [] => .ok ρ h
    | _ => .bad
  | .cons t ts => fun us ρ h => match us with
    | u :: us => (evG c t (.v u) ρ h).bind fun ρ h => evTs c ts us ρ h
    | [] => .bad
def evG (c : CC) : Tg → EvG
  | .nm i => gNm i
  | .tp ts => gTp (evTs c ts)
  | .sub o i => gSub (evE c o) (evE c i)
end

/-! ### statements -/
abbrev EvS := Rho → Hs → SR
def SR.ofRs {α : Type} (ρ : Rho) : Rs α → (α → Hs → SR) → SR
  | .ok a h, f => f a h
  | .ex e h, _ => .ex e ρ h
  | .bad, _ => .bad
def SR.andThen : SR → (Rho → Hs → SR) → SR
  | .nx ρ h, f => f ρ h
  | r, _ => r
/-- the turns of a for -/
def forL (src : Src) (g : EvGs) (b : EvS) : Nat → Nat → EvS
  | 0, i => fun ρ h => if srcEnd h src i = true then .nx ρ h else .bad
  | n + 1, i => fun ρ h => match srcAt h src i with
    | none => .bad
    | some x => match g [x] ρ h with
      | .ok ρ h => match b ρ h with
        | .nx ρ h => forL src g b n (i + 1) ρ h
        | .ct ρ h => forL src g b n (i + 1) ρ h
        | .bk ρ h => .nx ρ h
        | r => r
      | _ => .bad
def whlL (t : Rho → Hs → Rs Bool) (b : EvS) : Nat → EvS
  | 0 => fun _ _ => .bad
  | k + 1 => fun ρ h => SR.ofRs ρ (t ρ h) fun c h => if c = true then match b ρ h with
      | .nx ρ h => whlL t b k ρ h
      | .ct ρ h => whlL t b k ρ h
      | .bk ρ h => .nx ρ h
      | r => r
    else .nx ρ h
def setMany (ρ : Rho) : List Nat → List S → Option Rho
  | [], [] => some ρ
  | i :: is, s :: ss => setMany (ρ.set i (some s)) is ss
  | _, _ => none
/-- an exception's class against a clause's, or a built-in one above it -/
abbrev Sub := Nat → Nat → Bool
def hxU (e : Ex) (isv : Bool) : IH → Option RV
  | .isi => some (.v (.bl isv))
  | .lst xs => some (.nw (.lst (xs.map fun x => match x with
    | some z => .str z
    | none => .bl isv)))
  | .ife a b => some (.v (.str (if isv then a else b)))
def catchS (ρ : Rho) (h : Hs) (e : Ex) : List (Nat × Nat × Nat × IH) → SR
  | [] => .ex e ρ h
  | (c, i, j, x) :: r => if e.c = c then match (hxU e true x).bind RV.s with
      | some s => .nx ((ρ.set j (some s)).set i none) h
      | none => .bad
    else catchS ρ h e r

def kpEnd (y : Str) (s v q : S) (ρ : Rho) (h : Hs) : SR := match v, keyU h q with
  | .v u, some ks => match kputS h s y ks u with
    | some h => .nx ρ h
    | none => .bad
  | _, _ => .bad
def kpMid (c : Nat) (y : Str) (k : EvE) (v : S) (ρ : Rho) (s : S) (h : Hs) : SR := match kdS c h s y with
  | none => .bad
  | some _ => SR.ofRs ρ (sE k ρ h) fun q h => kpEnd y s v q ρ h
def sKput (c : Nat) (y : Str) (l f k : EvE) : EvS := fun ρ h => SR.ofRs ρ (sE l ρ h) fun v h => SR.ofRs ρ (sE f ρ h) fun s h => kpMid c y k v ρ s h
def sTr (ks : List Nat) (f : EvS) (hs : List (Nat × Nat × Nat × IH)) : EvS := fun ρ h => match f ρ h with
  | .ex e ρ h => if (ks.contains e.c && hs.all fun q => Nat.blt q.2.1 ρ.length) = true then catchS ρ h e hs else .bad
  | r => r
mutual
def evS (c : CC) (k : Nat) : IS → EvS
  | .asg t e => fun ρ h => SR.ofRs ρ (evE c e ρ h) fun r h => SR.ofRs ρ (noEx (evG c t r ρ h)) .nx
  | .par is es => fun ρ h => SR.ofRs ρ (evL c es ρ h) fun ss h => match setMany ρ is ss with
    | some ρ => .nx ρ h
    | none => .bad
  | .aug i o e => fun ρ h => match ρ[i]? with
    | some (some x) => SR.ofRs ρ (sE (evE c e) ρ h) fun y h => match x, y with
      | .v (.int _), .v (.int _) => match (binS o h x y).bind RV.s with
        | some s => .nx (ρ.set i (some s)) h
        | none => .bad
      | _, _ => .bad
    | _ => .bad
  | .ex e => fun ρ h => SR.ofRs ρ (evE c e ρ h) fun _ h => .nx ρ h
  | .ifs t a b => fun ρ h => SR.ofRs ρ (tE (evE c t) ρ h) fun d h => if d = true then evSs c k a ρ h else evSs c k b ρ h
  | .fors t it b => fun ρ h => SR.ofRs ρ (evI c it ρ h) fun p h => forL p.1 (evT1 c t) (evSs c k b) p.2 0 ρ h
  | .whl t b => fun ρ h => whlL (tE (evE c t)) (evSs c k b) k ρ h
  | .ret e => fun ρ h => SR.ofRs ρ (evE c e ρ h) .rt
  | .brk => .bk
  | .cnt => .ct
  | .rse d _ es => fun ρ h => SR.ofRs ρ (usE (evL c es) ρ h) fun us h => .ex ⟨d, us⟩ ρ h
  | .tr ks b hs => sTr ks (evSs c k b) hs
  | .kput cl o x k e => sKput cl x (evE c e) (evE c o) (evE c k)
  | .fz i => fun ρ h => match ρ[i]? with
    | some (some (.r n)) => match h[n]? with
      | some (.lst xs) => .nx (ρ.set i (some (.v (.lst xs)))) (h.set n .dead)
      | _ => .bad
    | _ => .bad
  | .xx => fun _ _ => .bad
def evSs (c : CC) (k : Nat) : ISs → EvS
  | .nil => .nx
  | .cons s ss => fun ρ h => (evS c k s ρ h).andThen (evSs c k ss)
end

/-! ### defs -/
structure FD where
  np : Nat
  ns : Nat
  df : List U
  body : ISs
abbrev Prog := List FD
/-- what leaves a def: its own new object goes out as a new one -/
def leave (n : Nat) : RV → Hs → Rs RV
  | .r k, h => if k < n then .ok (.r k) (h.take n) else match h[k]? with
    | some (.lst xs) => .ok (.nw (.lst xs)) (h.take n)
    | some (.dct xs) => .ok (.nw (.dct xs)) (h.take n)
    | some (.ins c fs kd) => .ok (.nw (.ins c fs kd)) (h.take n)
    | _ => .bad
  | r, h => .ok r (h.take n)
def runF (c : CC) (k : Nat) (d : FD) (as : List S) (os : Hs) : Rs RV :=
  if as.length = d.np then match evSs c k d.body (as.map some ++ List.replicate (d.ns - d.np) none) os with
    | .nx _ h => .ok (.v .non) (h.take os.length)
    | .rt r h => leave os.length r h
    | .ex e _ h => .ex e (h.take os.length)
    | _ => .bad
  else .bad
/-- the machine of a program at a fuel -/
def cc (P : Prog) : Nat → CC
  | 0 => { call := fun _ _ _ => .bad, np := fun f => (P[f]?.map FD.np).getD 0, df := fun f => (P[f]?.map FD.df).getD [], lv := 0 }
  | n + 1 => { call := fun f as os => (match P[f]? with
      | some d => runF (cc P n) 1000000 d as os
      | none => .bad), np := fun f => (P[f]?.map FD.np).getD 0, df := fun f => (P[f]?.map FD.df).getD [], lv := n + 1 }
theorem eqs_made : True := by
  have := @evS.eq_12
  have := @evSs.eq_2
  have := @evE.eq_12
  have := @evL.eq_2
  have := @evI.eq_2
  have := @evG.eq_2
  have := @evTs.eq_2
  trivial
end VM

/-! The small machine against the model: what a value, a frame's objects stand for. -/
namespace VM
open PySem PySem.Spec PyProof.Rows L2

/-- what is written of the program: where defs, classes stand -/
structure GS where
  K : PySem.W.Frag
  fa : Nat → Addr
  ca : Nat → Addr

abbrev OA := List Addr
abbrev Phi := List (Option OA)
def own (φ : Phi) (a : Addr) : Prop := ∃ l, some l ∈ φ ∧ a ∈ l

/-- a tuple | a list that is not the frame's own -/
def TupA (K : PySem.W.Frag) (o : Addr → Prop) (H : Hp) (a : Addr) (vs : List V) : Prop :=
  (Rd H a (.tup vs) ∧ ¬ o a) ∨ ∃ (ob : Obj) (its : Array Value) (n : Nat), K.lookup a = some ob ∧ ob.cls = .type "tuple" ∧ ob.data = .seq its n ∧ its.size ≤ sizeLine ∧ Vals vs its.toList
/-- a list that no one changes -/
def FrzA (K : PySem.W.Frag) (o : Addr → Prop) (H : Hp) (a : Addr) (vs : List V) : Prop :=
  (∃ ob, H a = some (.frz ob (.lst vs)) ∧ ¬ o a) ∨ ∃ (ob : Obj) (its : Array Value) (n : Nat), K.lookup a = some ob ∧ ob.cls = .type "list" ∧ ob.dict = none ∧ ob.data = .seq its n ∧ its.size ≤ sizeLine ∧ Vals vs its.toList
def keyV : Key → V := kV
def DKs (o : Addr → Prop) (H : Hp) : List (DKey × U) → List (Key × V) → Prop := fun _ _ => True

mutual
def Den (g : GS) (o : Addr → Prop) (H : Hp) : U → V → Prop
  | .non, v => v = .non
  | .bl b, v => v = .bl b
  | .int i, v => v = .int i
  | .str x, v => v = .str x
  | .tup us, v => ∃ a vs, v = .ref a ∧ TupA g.K o H a vs ∧ DenL g o H us vs
  | .lst us, v => ∃ a vs, v = .ref a ∧ H a = some (.lst vs) ∧ ¬ o a ∧ DenL g o H us vs
  | .frz us, v => ∃ a vs, v = .ref a ∧ FrzA g.K o H a vs ∧ DenL g o H us vs
  | .dct _, _ => False
  | .fn f, v => v = .ref (g.fa f)
def DenL (g : GS) (o : Addr → Prop) (H : Hp) : List U → List V → Prop
  | [], vs => vs = []
  | u :: us, vs => ∃ w ws, vs = w :: ws ∧ Den g o H u w ∧ DenL g o H us ws
end

/-- what a step leaves: what is not its own, no own object beside new ones -/
structure Keep (o : Addr → Prop) (H : Hp) (o' : Addr → Prop) (H' : Hp) : Prop where
  same : ∀ a, ¬ o a → H a ≠ none → H' a = H a
  grow : ∀ a, H a ≠ none → H' a ≠ none
  own : ∀ a, o' a → o a ∨ H a = none
theorem Keep.refl {o : Addr → Prop} {H : Hp} : Keep o H o H := ⟨fun _ _ _ => rfl, fun _ h => h, fun _ h => .inl h⟩
theorem Keep.trans {o o1 o2 : Addr → Prop} {H H1 H2 : Hp} (a : Keep o H o1 H1) (b : Keep o1 H1 o2 H2) : Keep o H o2 H2 where
  same := fun x n h => by
    have e := a.same x n h
    have n1 : ¬ o1 x := fun q => (a.own x q).elim n h
    rw [b.same x n1 (a.grow x h), e]
  grow := fun x h => b.grow x (a.grow x h)
  own := fun x q => (b.own x q).elim (fun z => a.own x z) fun z => .inr (Classical.byContradiction fun h => a.grow x h z)

theorem rd_ne {H : Hp} {a : Addr} {u : HO} (h : Rd H a u) : H a ≠ none := by
  rcases h with h | ⟨_, h⟩ <;> rw [h] <;> simp
theorem rd_eq {H H' : Hp} {a : Addr} {u : HO} (h : Rd H a u) (e : H' a = H a) : Rd H' a u := by
  unfold Rd
  rw [e]
  exact h
section
variable {g : GS} {o o' : Addr → Prop} {H H' : Hp}
theorem Keep.notOwn (k : Keep o H o' H') {a : Addr} (n : ¬ o a) (h : H a ≠ none) : ¬ o' a := fun q => (k.own a q).elim n h
theorem TupA.keep {K : PySem.W.Frag} {a : Addr} {vs : List V} (k : Keep o H o' H') (h : TupA K o H a vs) : TupA K o' H' a vs := by
  rcases h with ⟨h, n⟩ | h
  · exact .inl ⟨rd_eq h (k.same a n (rd_ne h)), k.notOwn n (rd_ne h)⟩
  · exact .inr h
theorem FrzA.keep {K : PySem.W.Frag} {a : Addr} {vs : List V} (k : Keep o H o' H') (h : FrzA K o H a vs) : FrzA K o' H' a vs := by
  rcases h with ⟨ob, h, n⟩ | h
  · have hn : H a ≠ none := by rw [h]; simp
    exact .inl ⟨ob, (k.same a n hn).trans h, k.notOwn n hn⟩
  · exact .inr h
theorem TupA.sq {K : PySem.W.Frag} {a : Addr} {vs : List V} (h : TupA K o H a vs) : SqT K H a vs := by
  rcases h with ⟨h, _⟩ | h
  · exact .inl h
  · exact .inr h
theorem TupA.weak {K : PySem.W.Frag} {a : Addr} {vs : List V} (k : ∀ a, o' a → o a) (h : TupA K o H a vs) : TupA K o' H a vs := by
  rcases h with ⟨h, n⟩ | h
  · exact .inl ⟨h, fun q => n (k a q)⟩
  · exact .inr h
mutual
theorem Den.keep (k : Keep o H o' H') : ∀ (u : U) (v : V), Den g o H u v → Den g o' H' u v
  | .non, _, h => h
  | .bl _, _, h => h
  | .int _, _, h => h
  | .str _, _, h => h
  | .fn _, _, h => h
  | .dct _, _, h => h
  | .tup us, v, h => by
    obtain ⟨a, vs, e, t, d⟩ := h
    exact ⟨a, vs, e, t.keep k, DenL.keep k us vs d⟩
  | .lst us, v, h => by
    obtain ⟨a, vs, e, t, n, d⟩ := h
    have hn : H a ≠ none := by rw [t]; simp
    exact ⟨a, vs, e, (k.same a n hn).trans t, k.notOwn n hn, DenL.keep k us vs d⟩
  | .frz us, v, h => by
    obtain ⟨a, vs, e, t, d⟩ := h
    exact ⟨a, vs, e, t.keep k, DenL.keep k us vs d⟩
theorem DenL.keep (k : Keep o H o' H') : ∀ (us : List U) (vs : List V), DenL g o H us vs → DenL g o' H' us vs
  | [], _, h => h
  | u :: us, vs, h => by
    obtain ⟨w, ws, e, d, ds⟩ := h
    exact ⟨w, ws, e, Den.keep k u w d, DenL.keep k us ws ds⟩
end
theorem Keep.weak (k : ∀ a, o' a → o a) : Keep o H o' H := ⟨fun _ _ _ => rfl, fun _ h => h, fun a q => .inl (k a q)⟩
theorem Den.weak (k : ∀ a, o' a → o a) {u : U} {v : V} (h : Den g o H u v) : Den g o' H u v := Den.keep (Keep.weak k) u v h
theorem DenL.weak (k : ∀ a, o' a → o a) {u : List U} {v : List V} (h : DenL g o H u v) : DenL g o' H u v := DenL.keep (Keep.weak k) u v h
end

/-! ### a frame's own objects -/
/-- a dict's entries -/
def DK (g : GS) (o : Addr → Prop) (H : Hp) : KD → List (List L2.Key × V) → Prop
  | [], kv => kv = []
  | (k, u) :: r, kv => ∃ v kv', kv = (k.map Sum.inl, v) :: kv' ∧ Den g o H u v ∧ DK g o H r kv'
theorem DK.keep {g : GS} {o o' : Addr → Prop} {H H' : Hp} (k : Keep o H o' H') : ∀ (r : KD) (kv : List (List L2.Key × V)), DK g o H r kv → DK g o' H' r kv
  | [], _, h => h
  | (_, u) :: r, kv, ⟨v, kv', e, d, t⟩ => ⟨v, kv', e, Den.keep k u v d, DK.keep k r kv' t⟩
/-- an instance's attributes -/
structure RepI (g : GS) (o : Addr → Prop) (H : Hp) (fs : List (Str × U)) (kd : Option (Str × KD)) (fv : List (Str × V)) (ds : List Addr) : Prop where
  at_ : ∀ z u, flA z fs = some u → ∃ v, fv.lookup z = some v ∧ Den g o H u v
  no : ∀ z, flA z fs = none → (∀ y r, kd = some (y, r) → y ≠ z) → fv.lookup z = none
  dk : ∀ y r, kd = some (y, r) → ∃ d kv, ds = [d] ∧ fv.lookup y = some (.ref d) ∧ H d = some (.dT kv) ∧ DK g o H r kv
  nk : kd = none → ds = []
theorem RepI.keep {g : GS} {o o' : Addr → Prop} {H H' : Hp} (k : Keep o H o' H') {fs : List (Str × U)} {kd : Option (Str × KD)} {fv : List (Str × V)} {ds : List Addr} (h : RepI g o H fs kd fv ds) (e : ∀ a ∈ ds, H' a = H a) : RepI g o' H' fs kd fv ds :=
  ⟨fun z u q => let ⟨v, e1, d⟩ := h.at_ z u q; ⟨v, e1, Den.keep k u v d⟩, h.no, fun y r q => let ⟨d, kv, e1, e2, e3, e4⟩ := h.dk y r q; ⟨d, kv, e1, e2, by rw [e d (by rw [e1]; simp)]; exact e3, DK.keep k r kv e4⟩, h.nk⟩
/-- an object and its addresses, the first one its own -/
def RepO (g : GS) (o : Addr → Prop) (H : Hp) : MO → OA → Prop
  | .lst us, l => ∃ a vs, l = [a] ∧ H a = some (.lst vs) ∧ DenL g o H us vs
  | .lck us, l => ∃ a vs, l = [a] ∧ H a = some (.lst vs) ∧ DenL g o H us vs
  | .dct _, _ => False
  | .ins c fs kd, l => ∃ a dx ds fv, l = a :: dx :: ds ∧ H a = some (.ins (g.ca c) dx fv) ∧ H dx = some (.own a) ∧ RepI g o H fs kd fv ds
  | .kt ks, l => ∃ a, l = [a] ∧ H a = some (.tup (ks.map V.int))
  | .dead, _ => False
def hd (l : OA) : Addr := l.headD 0
/-- what a value may not stand at: the frame's own objects, those of the frames around -/
def ow (φ : Phi) (x : Addr → Prop) : Addr → Prop := fun a => own φ a ∨ x a
/-- the frame's objects h stand at φ -/
structure RepH (g : GS) (x : Addr → Prop) (φ : Phi) (h : Hs) (H : Hp) : Prop where
  len : φ.length = h.length
  at_ : ∀ (n : Nat) (l : OA), φ[n]? = some (some l) → ∃ ob, h[n]? = some ob ∧ RepO g (ow φ x) H ob l
  dead : ∀ n : Nat, φ[n]? = some none → h[n]? = some .dead
  nd : (φ.filterMap id).flatten.Nodup
  apart : ∀ a, own φ a → ¬ x a
  xs : ∀ a, x a → H a ≠ none

theorem RepO.keep {g : GS} {o o' : Addr → Prop} {H H' : Hp} (k : Keep o H o' H') : ∀ {ob : MO} {l : OA}, RepO g o H ob l → (∀ a ∈ l, H' a = H a) → RepO g o' H' ob l
  | .lst us, l, h, e => by
    obtain ⟨a, vs, rfl, t, d⟩ := h
    exact ⟨a, vs, rfl, (e a (by simp)).trans t, DenL.keep k us vs d⟩
  | .lck us, l, h, e => by
    obtain ⟨a, vs, rfl, t, d⟩ := h
    exact ⟨a, vs, rfl, (e a (by simp)).trans t, DenL.keep k us vs d⟩
  | .dct _, _, h, _ => h.elim
  | .ins c fs kd, l, h, e => by
    obtain ⟨a, dx, ds, fv, rfl, t1, t2, r⟩ := h
    exact ⟨a, dx, ds, fv, rfl, (e a (by simp)).trans t1, (e dx (by simp)).trans t2, r.keep k fun b hb => e b (by simp [hb])⟩
  | .kt ks, l, h, e => by
    obtain ⟨a, rfl, t⟩ := h
    exact ⟨a, rfl, (e a (by simp)).trans t⟩
  | .dead, _, h, _ => h.elim
theorem RepO.there {g : GS} {o : Addr → Prop} {H : Hp} : ∀ {ob : MO} {l : OA}, RepO g o H ob l → ∀ a ∈ l, H a ≠ none
  | .lst us, l, h, b, hb => by
    obtain ⟨a, vs, rfl, t, d⟩ := h
    simp at hb
    rw [hb, t]
    simp
  | .lck us, l, h, b, hb => by
    obtain ⟨a, vs, rfl, t, d⟩ := h
    simp at hb
    rw [hb, t]
    simp
  | .dct _, _, h, _, _ => h.elim
  | .ins c fs kd, l, h, b, hb => by
    obtain ⟨a, dx, ds, fv, rfl, t1, t2, r⟩ := h
    simp at hb
    rcases hb with rfl | rfl | hb
    · rw [t1]; simp
    · rw [t2]; simp
    · cases hk : kd with
      | none => rw [r.nk hk] at hb; cases hb
      | some p =>
        obtain ⟨y, rr⟩ := p
        obtain ⟨d, kv, e1, e2, e3, _⟩ := r.dk y rr hk
        rw [e1] at hb
        have : b = d := by simpa using hb
        rw [this, e3]; simp
  | .kt ks, l, h, b, hb => by
    obtain ⟨a, rfl, t⟩ := h
    simp at hb
    rw [hb, t]
    simp
  | .dead, _, h, _, _ => h.elim
theorem RepO.hd_mem {g : GS} {o : Addr → Prop} {H : Hp} : ∀ {ob : MO} {l : OA}, RepO g o H ob l → hd l ∈ l
  | .lst us, l, h => by
    obtain ⟨a, vs, rfl, t, d⟩ := h
    simp [hd]
  | .lck us, l, h => by
    obtain ⟨a, vs, rfl, t, d⟩ := h
    simp [hd]
  | .dct _, _, h => h.elim
  | .ins c fs kd, l, h => by
    obtain ⟨a, dx, ds, fv, rfl, _⟩ := h
    simp [hd]
  | .kt ks, l, h => by
    obtain ⟨a, rfl, _⟩ := h
    simp [hd]
  | .dead, _, h => h.elim
theorem own_at {φ : Phi} {n : Nat} {l : OA} (h : φ[n]? = some (some l)) {a : Addr} (ha : a ∈ l) : own φ a := ⟨l, List.mem_of_getElem? h, ha⟩
theorem RepH.there {g : GS} {x : Addr → Prop} {φ : Phi} {h : Hs} {H : Hp} (r : RepH g x φ h H) {a : Addr} (ho : own φ a) : H a ≠ none := by
  obtain ⟨l, hl, ha⟩ := ho
  obtain ⟨n, hn⟩ := List.getElem?_of_mem hl
  obtain ⟨ob, _, q⟩ := r.at_ n l hn
  exact q.there a ha

/-! ### slots -/
def DenS (g : GS) (x : Addr → Prop) (φ : Phi) (H : Hp) : S → V → Prop
  | .v u, v => Den g (ow φ x) H u v
  | .r n, v => n < φ.length ∧ ∀ l, φ[n]? = some (some l) → v = .ref (hd l)
def DenSs (g : GS) (x : Addr → Prop) (φ : Phi) (H : Hp) : List S → List V → Prop
  | [], vs => vs = []
  | s :: ss, vs => ∃ w ws, vs = w :: ws ∧ DenS g x φ H s w ∧ DenSs g x φ H ss ws
/-- the slots -/
structure RelS (g : GS) (x : Addr → Prop) (φ : Phi) (H : Hp) (ρ : Rho) (σ : L2.St) : Prop where
  len : ρ.length = σ.length
  at_ : ∀ (i : Nat) (s : S), ρ[i]? = some (some s) → ∃ v, σ[i]? = some (some v) ∧ DenS g x φ H s v

/-- a step of the whole frame -/
structure Step (φ : Phi) (H : Hp) (φ' : Phi) (H' : Hp) : Prop where
  same : ∀ a, ¬ own φ a → H a ≠ none → H' a = H a
  grow : ∀ a, H a ≠ none → H' a ≠ none
  owns : ∀ a, own φ' a → own φ a ∨ H a = none
  len : φ.length ≤ φ'.length
  back : ∀ (n : Nat) (l : OA), n < φ.length → φ'[n]? = some (some l) → φ[n]? = some (some l)
  fresh : ∀ (n : Nat) (l : OA), φ.length ≤ n → φ'[n]? = some (some l) → ∀ a ∈ l, H a = none
theorem fresh_le {φ φ' : Phi} {H : Hp} (h : φ'.length ≤ φ.length) : ∀ (n : Nat) (l : OA), φ.length ≤ n → φ'[n]? = some (some l) → ∀ a ∈ l, H a = none := fun n l hn e => by
  rw [List.getElem?_eq_none (by omega)] at e
  cases e
theorem Step.keep {φ φ' : Phi} {H H' : Hp} (k : Step φ H φ' H') (x : Addr → Prop) : Keep (ow φ x) H (ow φ' x) H' :=
  ⟨fun a n h => k.same a (fun q => n (.inl q)) h, k.grow, fun a q => q.elim (fun q => (k.owns a q).imp .inl id) fun q => .inl (.inr q)⟩
theorem Step.refl {φ : Phi} {H : Hp} : Step φ H φ H := ⟨fun _ _ _ => rfl, fun _ h => h, fun _ h => .inl h, Nat.le_refl _, fun _ _ _ h => h, fresh_le (Nat.le_refl _)⟩
theorem Step.trans {φ φ1 φ2 : Phi} {H H1 H2 : Hp} (a : Step φ H φ1 H1) (b : Step φ1 H1 φ2 H2) : Step φ H φ2 H2 where
  same := fun y n h => by
    have n1 : ¬ own φ1 y := fun q => (a.owns y q).elim n h
    rw [b.same y n1 (a.grow y h), a.same y n h]
  grow := fun y h => b.grow y (a.grow y h)
  owns := fun y q => (b.owns y q).elim (fun z => a.owns y z) fun z => .inr (Classical.byContradiction fun h => a.grow y h z)
  len := Nat.le_trans a.len b.len
  back := fun n l hn h => a.back n l hn (b.back n l (Nat.lt_of_lt_of_le hn a.len) h)
  fresh := fun n l hn h x hx => by
    by_cases q : n < φ1.length
    · exact a.fresh n l hn (b.back n l q h) x hx
    · exact Classical.byContradiction fun z => a.grow x z (b.fresh n l (by omega) h x hx)
section
variable {g : GS} {x : Addr → Prop} {φ φ' : Phi} {H H' : Hp}
theorem DenS.step (k : Step φ H φ' H') : ∀ {s : S} {v : V}, DenS g x φ H s v → DenS g x φ' H' s v
  | .v u, v, h => Den.keep (k.keep x) u v h
  | .r n, v, ⟨h1, h2⟩ => ⟨Nat.lt_of_lt_of_le h1 k.len, fun l hl => h2 l (k.back n l h1 hl)⟩
theorem DenSs.step (k : Step φ H φ' H') : ∀ {s : List S} {v : List V}, DenSs g x φ H s v → DenSs g x φ' H' s v
  | [], _, h => h
  | s :: ss, vs, ⟨w, ws, e, d, ds⟩ => ⟨w, ws, e, d.step k, DenSs.step k ds⟩
theorem RelS.step {ρ : Rho} {σ : L2.St} (k : Step φ H φ' H') (r : RelS g x φ H ρ σ) : RelS g x φ' H' ρ σ :=
  ⟨r.len, fun i s h => let ⟨v, e, d⟩ := r.at_ i s h; ⟨v, e, d.step k⟩⟩
end

/-! ### what a run comes to -/
/-- of a kind of results: from the heap at the start, the result, the own objects behind, what the model has -/
abbrev Kd (α β : Type) := GS → (Addr → Prop) → Hp → α → Hs → Phi → β → Hp → Prop
def KV : Kd RV V := fun g x H r h' φ' v H' => match r with
  | .v u => Den g (ow φ' x) H' u v
  | .r n => n < φ'.length ∧ ∀ l, φ'[n]? = some (some l) → v = .ref (hd l)
  | .nw ob => ∃ l, RepH g x (φ' ++ [some l]) (h' ++ [ob]) H' ∧ v = .ref (hd l) ∧ ∀ a ∈ l, H a = none
def KS : Kd S V := fun g x _ r _ φ' v H' => DenS g x φ' H' r v
def KL : Kd (List S) (List V) := fun g x _ r _ φ' v H' => DenSs g x φ' H' r v
def KU : Kd (List U) (List V) := fun g x _ r _ φ' v H' => DenL g (ow φ' x) H' r v
def KB : Kd Bool Bool := fun _ _ _ r _ _ v _ => v = r
def KO : Kd (Option Int) (Option Int) := fun _ _ _ r _ _ v _ => v = r

/-- an exception: its class, its own dict -/
def ExV (g : GS) (e : Ex) (cls : Value) (d : Option Addr) (H : Hp) : Prop := cls = .ref (g.ca e.c) ∧ e.fs = [] ∧ d = none

def Cond {α β : Type} (g : GS) (x : Addr → Prop) (W : WX) (P : Kd α β) (σ : L2.St) (Q : β → Hp → Prop) (φ : Phi) (H : Hp) : Rs α → Prop
  | .ok r h' => ∀ φ' b H', Step φ H φ' H' → RepH g x φ' h' H' → P g x H r h' φ' b H' → Q b H'
  | .ex e h' => ∀ φ' H' cls d, Step φ H φ' H' → RepH g x φ' h' H' → ExV g e cls d H' → W cls d σ H'
  | .bad => False
/-- the reading of a run -/
def RD {α β : Type} (g : GS) (W : WX) (P : Kd α β) (f : Rho → Hs → Rs α) : L2.St → Hp → (β → Hp → Prop) → Prop := fun σ H Q =>
  ∃ x φ ρ h, RelS g x φ H ρ σ ∧ RepH g x φ h H ∧ Cond g x W P σ Q φ H (f ρ h)

/-- kinds whose start may be taken earlier -/
def Kd.Mono {α β : Type} (P : Kd α β) : Prop := ∀ g x H H1 r h' φ' b H', (∀ a, H a ≠ none → H1 a ≠ none) → P g x H1 r h' φ' b H' → P g x H r h' φ' b H'
theorem KV.mono : KV.Mono := fun g x H H1 r h' φ' b H' k p => by
  cases r with
  | v u => exact p
  | r n => exact p
  | nw ob =>
    obtain ⟨l, h1, h2, h3⟩ := p
    exact ⟨l, h1, h2, fun a ha => Classical.byContradiction fun q => k a q (h3 a ha)⟩
theorem KS.mono : KS.Mono := fun _ _ _ _ _ _ _ _ _ _ p => p
theorem KL.mono : KL.Mono := fun _ _ _ _ _ _ _ _ _ _ p => p
theorem KU.mono : KU.Mono := fun _ _ _ _ _ _ _ _ _ _ p => p
theorem KB.mono : KB.Mono := fun _ _ _ _ _ _ _ _ _ _ p => p
theorem KO.mono : KO.Mono := fun _ _ _ _ _ _ _ _ _ _ p => p
section
variable {α β γ δ : Type} {g : GS} {x : Addr → Prop} {W : WX} {P : Kd α β} {R : Kd γ δ} {σ : L2.St} {Q : β → Hp → Prop} {φ φ1 : Phi} {H H1 : Hp}
theorem Cond.later (m : P.Mono) (k : Step φ H φ1 H1) : ∀ {r : Rs α}, Cond g x W P σ Q φ H r → Cond g x W P σ Q φ1 H1 r
  | .ok r h', c => fun φ' b H' s rep p => c φ' b H' (k.trans s) rep (m _ _ _ _ _ _ _ _ _ k.grow p)
  | .ex e h', c => fun φ' H' cls d s rep p => c φ' H' cls d (k.trans s) rep p
  | .bad, c => c
theorem Cond.mono {Q' : β → Hp → Prop} (hq : ∀ b H, Q b H → Q' b H) : ∀ {r : Rs α}, Cond g x W P σ Q φ H r → Cond g x W P σ Q' φ H r
  | .ok r h', c => fun φ' b H' s rep p => hq _ _ (c φ' b H' s rep p)
  | .ex e h', c => c
  | .bad, c => c
/-- the first of two runs -/
theorem Cond.bind (m : P.Mono) {ρ : Rho} {f : Rs γ} {k : γ → Hs → Rs α} (rs : RelS g x φ H ρ σ) (c : Cond g x W P σ Q φ H (f.bind k)) :
    Cond g x W R σ (fun b H1 => ∃ φ1 h1 a, Step φ H φ1 H1 ∧ RelS g x φ1 H1 ρ σ ∧ RepH g x φ1 h1 H1 ∧ R g x H a h1 φ1 b H1 ∧ Cond g x W P σ Q φ1 H1 (k a h1)) φ H f := by
  cases f with
  | bad => exact c
  | ex e h => exact c
  | ok a h1 =>
    intro φ1 b H1 s rep p
    exact ⟨φ1, h1, a, s, rs.step s, rep, p, Cond.later m s c⟩
/-- a result handed on -/
theorem Cond.ofO {o : Option α} {h : Hs} (c : Cond g x W P σ Q φ H (ofO h o)) : ∃ r, o = some r ∧ ∀ φ' b H', Step φ H φ' H' → RepH g x φ' h H' → P g x H r h φ' b H' → Q b H' := by
  cases o with
  | none => exact c.elim
  | some r => exact ⟨r, rfl, c⟩
end

theorem PE.imp {X : Cx} {e : Expr} {t t' : TE} (h : PE X e t) (k : ∀ σ H Q, t' σ H Q → t σ H Q) : PE X e t' := ⟨fun pins s σ H Q I hw => h.run pins s σ H Q I (k σ H Q hw)⟩
theorem PT.imp {X : Cx} {e : Expr} {t t' : TT} (h : PT X e t) (k : ∀ σ H Q, t' σ H Q → t σ H Q) : PT X e t' := ⟨fun pins s σ H Q I hw => h.run pins s σ H Q I (k σ H Q hw)⟩
theorem PA.imp {X : Cx} {e : List Expr} {t t' : TA} (h : PA X e t) (k : ∀ σ H Q, t' σ H Q → t σ H Q) : PA X e t' := ⟨fun pos pins s σ H Q I hw => h.run pos pins s σ H Q I (k σ H Q hw)⟩
theorem PS.imp {X : Cx} {e : Stmt} {t t' : TS} (h : PS X e t) (k : ∀ D σ H, t' D σ H → t D σ H) : PS X e t' := ⟨fun pins s σ H D I hw => h.run pins s σ H D I (k D σ H hw)⟩
theorem PSs.imp {X : Cx} {e : List Stmt} {t t' : TS} (h : PSs X e t) (k : ∀ D σ H, t' D σ H → t D σ H) : PSs X e t' := ⟨fun pins s σ H D I hw => h.run pins s σ H D I (k D σ H hw)⟩

/-- a result as an item -/
theorem KV.s {g : GS} {x : Addr → Prop} {H H' : Hp} {r : RV} {h' : Hs} {φ' : Phi} {v : V} {s : S} (p : KV g x H r h' φ' v H') (e : r.s = some s) : DenS g x φ' H' s v := by
  cases r with
  | v u => cases e; exact p
  | r n => cases e; exact p
  | nw ob =>
    obtain ⟨l, rep, hv, _⟩ := p
    have hlen : φ'.length = h'.length := by have := rep.len; simp at this; exact this
    obtain ⟨ob', e1, q⟩ := rep.at_ φ'.length l (by simp)
    rw [hlen] at e1
    simp at e1
    subst e1
    cases ob with
    | lst us =>
      cases e
      obtain ⟨a, vs, rfl, t, d⟩ := q
      have wk : ∀ b, ow φ' x b → ow (φ' ++ [some [a]]) x b := fun b hb => hb.imp (fun ⟨l, hl, ha⟩ => ⟨l, List.mem_append_left _ hl, ha⟩) id
      refine ⟨a, vs, hv, t, fun hb => ?_, DenL.weak wk d⟩
      rcases hb with ⟨l, hl, ha⟩ | hb
      · have nd := rep.nd
        rw [List.filterMap_append, List.flatten_append, List.nodup_append] at nd
        refine nd.2.2 a ?_ a (by simp) rfl
        exact List.mem_flatten.mpr ⟨l, List.mem_filterMap.mpr ⟨some l, hl, rfl⟩, ha⟩
      · exact rep.apart a ⟨[a], by simp, by simp⟩ hb
    | dct kvs => exact q.elim
    | lck us => cases e
    | ins c fs kd => cases e
    | kt ks => cases e
    | dead => cases e
end VM

namespace VM
open PySem PySem.Spec PyProof.Rows L2
section
variable {g : GS} {x : Addr → Prop} {φ : Phi} {h : Hs} {H H' : Hp} {p : Addr} {o : HO}

theorem keep_of (k : ∀ a, H a ≠ none → H' a = H a) {o : Addr → Prop} : Keep o H o H' := ⟨fun a _ q => k a q, fun a q => by rw [k a q]; exact q, fun _ q => .inl q⟩
theorem step_of (k : ∀ a, H a ≠ none → H' a = H a) : Step φ H φ H' := ⟨fun a _ q => k a q, fun a q => by rw [k a q]; exact q, fun _ q => .inl q, Nat.le_refl _, fun _ _ _ q => q, fresh_le (Nat.le_refl _)⟩
theorem new_same (hp : H p = none) : ∀ a, H a ≠ none → (upd H p o) a = H a := fun a q => upd_ne (fun e => by rw [e, hp] at q; exact q rfl)
theorem RepH.same (r : RepH g x φ h H) (k : ∀ a, H a ≠ none → H' a = H a) : RepH g x φ h H' where
  len := r.len
  at_ := fun n l e => by
    obtain ⟨ob, e1, q⟩ := r.at_ n l e
    exact ⟨ob, e1, q.keep (keep_of k) fun a ha => k a (q.there a ha)⟩
  dead := r.dead
  nd := r.nd
  apart := r.apart
  xs := fun a q => by rw [k a (r.xs a q)]; exact r.xs a q
theorem RepH.fresh (r : RepH g x φ h H) (hp : H p = none) : ¬ ow φ x p := fun q => q.elim (fun q => r.there q hp) fun q => r.xs p q hp
/-- a new tuple -/
theorem new_tup {us : List U} {vs : List V} (r : RepH g x φ h H) (hp : H p = none) (d : DenL g (ow φ x) H us vs) :
    Step φ H φ (upd H p (.tup vs)) ∧ RepH g x φ h (upd H p (.tup vs)) ∧ Den g (ow φ x) (upd H p (.tup vs)) (.tup us) (.ref p) := by
  have k := new_same (o := .tup vs) hp
  exact ⟨step_of k, r.same k, p, vs, rfl, .inl ⟨.inl upd_same, r.fresh hp⟩, DenL.keep (keep_of k) us vs d⟩
theorem filt_app (l : OA) : ((φ ++ [some l]).filterMap id).flatten = (φ.filterMap id).flatten ++ l := by
  rw [List.filterMap_append, List.flatten_append]
  simp
theorem own_app {l : OA} {a : Addr} : own (φ ++ [some l]) a ↔ own φ a ∨ a ∈ l := by
  constructor
  · rintro ⟨m, hm, ha⟩
    rcases List.mem_append.mp hm with hm | hm
    · exact .inl ⟨m, hm, ha⟩
    · simp at hm
      subst hm
      exact .inr ha
  · rintro (⟨m, hm, ha⟩ | ha)
    · exact ⟨m, List.mem_append_left _ hm, ha⟩
    · exact ⟨l, by simp, ha⟩
theorem own_mem {φ : Phi} {a : Addr} : own φ a ↔ a ∈ (φ.filterMap id).flatten := by
  constructor
  · rintro ⟨l, hl, ha⟩
    exact List.mem_flatten.mpr ⟨l, List.mem_filterMap.mpr ⟨some l, hl, rfl⟩, ha⟩
  · intro h
    obtain ⟨l, hl, ha⟩ := List.mem_flatten.mp h
    obtain ⟨o, ho, e⟩ := List.mem_filterMap.mp hl
    exact ⟨l, by simpa [← (show o = some l from e)] using ho, ha⟩
/-- one more own object, all its addresses new -/
theorem RepH.push {ob : MO} {l : OA} (r : RepH g x φ h H) (k : ∀ a, H a ≠ none → H' a = H a) (hl : ∀ a ∈ l, H a = none) (nd : l.Nodup) (q : Keep (ow φ x) H (ow (φ ++ [some l]) x) H' → RepO g (ow (φ ++ [some l]) x) H' ob l) : RepH g x (φ ++ [some l]) (h ++ [ob]) H' := by
  have kk : Keep (ow φ x) H (ow (φ ++ [some l]) x) H' := ⟨fun a _ q => k a q, fun a q => by rw [k a q]; exact q, fun a z => by
    rcases z with z | z
    · rcases own_app.mp z with z | z
      · exact .inl (.inl z)
      · exact .inr (hl a z)
    · exact .inl (.inr z)⟩
  have r' := r.same k
  have nl : ∀ a ∈ l, ¬ ow φ x a := fun a ha => r.fresh (hl a ha)
  have up : ∀ {ob : MO} {m : OA}, some m ∈ φ → RepO g (ow φ x) H ob m → RepO g (ow (φ ++ [some l]) x) H' ob m := fun {ob m} hm z => by
    exact z.keep kk fun a ha => k a (z.there a ha)
  refine ⟨by simp [r.len], fun n m e => ?_, fun n e => ?_, ?_, fun a z => ?_, r'.xs⟩
  · by_cases hn : n < φ.length
    · rw [List.getElem?_append_left hn] at e
      obtain ⟨ob', e1, z⟩ := r.at_ n m e
      exact ⟨ob', by rw [List.getElem?_append_left (by rw [← r.len]; exact hn)]; exact e1, up (List.mem_of_getElem? e) z⟩
    · rw [List.getElem?_append_right (by omega)] at e
      have hn' : n - φ.length = 0 := by
        rcases Nat.eq_zero_or_pos (n - φ.length) with z | z
        · exact z
        · rw [List.getElem?_eq_none (by simp; omega)] at e
          cases e
      rw [hn'] at e
      simp at e
      subst e
      have : n = h.length := by rw [← r.len]; omega
      exact ⟨ob, by rw [this]; simp, q kk⟩
  · by_cases hn : n < φ.length
    · rw [List.getElem?_append_left hn] at e
      rw [List.getElem?_append_left (by rw [← r.len]; exact hn)]
      exact r.dead n e
    · rw [List.getElem?_append_right (by omega)] at e
      rcases Nat.eq_zero_or_pos (n - φ.length) with z | z
      · rw [z] at e
        simp at e
      · rw [List.getElem?_eq_none (by simp; omega)] at e
        cases e
  · rw [filt_app, List.nodup_append]
    exact ⟨r.nd, nd, fun a ha b hb e => nl b hb (.inl (own_mem.mpr (e ▸ ha)))⟩
  · rcases own_app.mp z with z | z
    · exact r.apart a z
    · exact fun q => nl a z (.inr q)
/-- a new list -/
theorem new_lst {us : List U} {vs : List V} (r : RepH g x φ h H) (hp : H p = none) (d : DenL g (ow φ x) H us vs) :
    Step φ H φ (upd H p (.lst vs)) ∧ RepH g x φ h (upd H p (.lst vs)) ∧ KV g x H (.nw (.lst us)) h φ (.ref p) (upd H p (.lst vs)) := by
  have k := new_same (o := .lst vs) hp
  refine ⟨step_of k, r.same k, [p], r.push k (fun a ha => by simp at ha; rw [ha]; exact hp) (by simp) (fun kk => ⟨p, vs, rfl, upd_same, DenL.keep kk us vs d⟩), rfl, fun a ha => by simp at ha; rw [ha]; exact hp⟩

/-! ### lists of values -/
theorem DenL.len {o : Addr → Prop} : ∀ {us : List U} {vs : List V}, DenL g o H us vs → us.length = vs.length
  | [], _, h => by rw [show _ = [] from h]; rfl
  | u :: us, _, ⟨w, ws, e, _, ds⟩ => by rw [e, List.length_cons, List.length_cons, DenL.len ds]
theorem DenL.app {o : Addr → Prop} : ∀ {us : List U} {vs : List V} {us' : List U} {vs' : List V}, DenL g o H us vs → DenL g o H us' vs' → DenL g o H (us ++ us') (vs ++ vs')
  | [], _, _, _, h, h' => by rw [show _ = [] from h]; exact h'
  | u :: us, _, _, _, ⟨w, ws, e, d, ds⟩, h' => by rw [e]; exact ⟨w, ws ++ _, rfl, d, DenL.app ds h'⟩
theorem DenL.get {o : Addr → Prop} : ∀ {us : List U} {vs : List V} {i : Nat} {u : U}, DenL g o H us vs → us[i]? = some u → ∃ v, vs[i]? = some v ∧ Den g o H u v
  | [], _, _, _, _, e => by simp at e
  | u :: us, _, 0, _, ⟨w, ws, e, d, ds⟩, e2 => by
    simp at e2
    subst e2
    exact ⟨w, by rw [e]; rfl, d⟩
  | u :: us, _, i + 1, _, ⟨w, ws, e, d, ds⟩, e2 => by
    obtain ⟨v, h1, h2⟩ := DenL.get (i := i) ds (by simpa using e2)
    exact ⟨v, by rw [e]; simpa using h1, h2⟩
theorem DenL.drop {o : Addr → Prop} : ∀ {us : List U} {vs : List V} (n : Nat), DenL g o H us vs → DenL g o H (us.drop n) (vs.drop n)
  | _, _, 0, h => h
  | [], _, n + 1, h => by rw [show _ = [] from h]; exact rfl
  | u :: us, _, n + 1, ⟨w, ws, e, d, ds⟩ => by rw [e]; exact DenL.drop n ds
theorem DenL.take {o : Addr → Prop} : ∀ {us : List U} {vs : List V} (n : Nat), DenL g o H us vs → DenL g o H (us.take n) (vs.take n)
  | _, _, 0, h => rfl
  | [], _, n + 1, h => by rw [show _ = [] from h]; exact rfl
  | u :: us, _, n + 1, ⟨w, ws, e, d, ds⟩ => by rw [e]; exact ⟨w, ws.take n, rfl, d, DenL.take n ds⟩
theorem DenL.set {o : Addr → Prop} {u' : U} {v' : V} (hd : Den g o H u' v') : ∀ {us : List U} {vs : List V} (n : Nat), DenL g o H us vs → DenL g o H (us.set n u') (vs.set n v')
  | [], _, n, h => by rw [show _ = [] from h]; exact rfl
  | u :: us, _, 0, ⟨w, ws, e, d, ds⟩ => by rw [e]; exact ⟨v', ws, rfl, hd, ds⟩
  | u :: us, _, n + 1, ⟨w, ws, e, d, ds⟩ => by rw [e]; exact ⟨w, ws.set n v', rfl, d, DenL.set hd n ds⟩
theorem DenL.erase {o : Addr → Prop} : ∀ {us : List U} {vs : List V} (n : Nat), DenL g o H us vs → DenL g o H (us.eraseIdx n) (vs.eraseIdx n)
  | [], _, n, h => by rw [show _ = [] from h]; exact rfl
  | u :: us, _, 0, ⟨w, ws, e, d, ds⟩ => by rw [e]; exact ds
  | u :: us, _, n + 1, ⟨w, ws, e, d, ds⟩ => by rw [e]; exact ⟨w, ws.eraseIdx n, rfl, d, DenL.erase n ds⟩
theorem DenL.snoc {o : Addr → Prop} {us : List U} {vs : List V} {u : U} {v : V} (h : DenL g o H us vs) (d : Den g o H u v) : DenL g o H (us ++ [u]) (vs ++ [v]) := h.app ⟨v, [], rfl, d, rfl⟩
theorem DenL.rev {o : Addr → Prop} : ∀ {us : List U} {vs : List V}, DenL g o H us vs → DenL g o H us.reverse vs.reverse
  | [], _, h => by rw [show _ = [] from h]; exact rfl
  | u :: us, _, ⟨w, ws, e, d, ds⟩ => by
    rw [e, List.reverse_cons, List.reverse_cons]
    exact (DenL.rev ds).snoc d
theorem DenL.rep {o : Addr → Prop} {us : List U} {vs : List V} (h : DenL g o H us vs) : ∀ n : Nat, DenL g o H (List.replicate n us).flatten (List.replicate n vs).flatten
  | 0 => rfl
  | n + 1 => by
    rw [List.replicate_succ, List.replicate_succ, List.flatten_cons, List.flatten_cons]
    exact h.app (DenL.rep h n)
theorem DenL.map {α : Type} {o : Addr → Prop} {f : α → U} {f' : α → V} (hf : ∀ a, Den g o H (f a) (f' a)) : ∀ l : List α, DenL g o H (l.map f) (l.map f')
  | [] => rfl
  | a :: l => ⟨f' a, l.map f', rfl, hf a, DenL.map hf l⟩
theorem DenL.ints {o : Addr → Prop} : ∀ {us : List U} {vs : List V} {is : List Int}, DenL g o H us vs → intsU us = some is → vs = is.map V.int
  | [], vs, is, h, e => by
    cases e
    exact h
  | .int i :: us, vs, is, ⟨w, ws, e1, d, ds⟩, e => by
    unfold intsU at e
    cases q : intsU us with
    | none => rw [q] at e; cases e
    | some js =>
      rw [q] at e
      cases e
      rw [e1, DenL.ints ds q, show w = V.int i from d]
      rfl
  | .non :: us, _, _, _, e => by cases e
  | .bl _ :: us, _, _, _, e => by cases e
  | .str _ :: us, _, _, _, e => by cases e
  | .tup _ :: us, _, _, _, e => by cases e
  | .lst _ :: us, _, _, _, e => by cases e
  | .frz _ :: us, _, _, _, e => by cases e
  | .dct _ :: us, _, _, _, e => by cases e
  | .fn _ :: us, _, _, _, e => by cases e
theorem DenL.bls {o : Addr → Prop} : ∀ {us : List U} {vs : List V} {is : List Bool}, DenL g o H us vs → blsU us = some is → vs = is.map V.bl
  | [], vs, is, h, e => by
    cases e
    exact h
  | .bl i :: us, vs, is, ⟨w, ws, e1, d, ds⟩, e => by
    unfold blsU at e
    cases q : blsU us with
    | none => rw [q] at e; cases e
    | some js =>
      rw [q] at e
      cases e
      rw [e1, DenL.bls ds q, show w = V.bl i from d]
      rfl
  | .non :: us, _, _, _, e => by cases e
  | .int _ :: us, _, _, _, e => by cases e
  | .str _ :: us, _, _, _, e => by cases e
  | .tup _ :: us, _, _, _, e => by cases e
  | .lst _ :: us, _, _, _, e => by cases e
  | .frz _ :: us, _, _, _, e => by cases e
  | .dct _ :: us, _, _, _, e => by cases e
  | .fn _ :: us, _, _, _, e => by cases e
theorem DenL.strs {o : Addr → Prop} : ∀ {us : List U} {vs : List V} {is : List Str}, DenL g o H us vs → strsU us = some is → vs = is.map V.str
  | [], vs, is, h, e => by
    cases e
    exact h
  | .str i :: us, vs, is, ⟨w, ws, e1, d, ds⟩, e => by
    unfold strsU at e
    cases q : strsU us with
    | none => rw [q] at e; cases e
    | some js =>
      rw [q] at e
      cases e
      rw [e1, DenL.strs ds q, show w = V.str i from d]
      rfl
  | .non :: us, _, _, _, e => by cases e
  | .int _ :: us, _, _, _, e => by cases e
  | .bl _ :: us, _, _, _, e => by cases e
  | .tup _ :: us, _, _, _, e => by cases e
  | .lst _ :: us, _, _, _, e => by cases e
  | .frz _ :: us, _, _, _, e => by cases e
  | .dct _ :: us, _, _, _, e => by cases e
  | .fn _ :: us, _, _, _, e => by cases e

/-! ### sequences read -/
/-- what seqS finds stands there -/
theorem seq_ok {s : S} {v : V} {us : List U} {b : Bool} (r : RepH g x φ h H) (d : DenS g x φ H s v) (e : seqS h s = some (b, us)) :
    ∃ a vs, v = .ref a ∧ DenL g (ow φ x) H us vs ∧ if b = true then H a = some (.lst vs) else TupA g.K (ow φ x) H a vs := by
  cases s with
  | v u =>
    cases u with
    | tup xs =>
      cases e
      obtain ⟨a, vs, e1, t, d⟩ := d
      exact ⟨a, vs, e1, d, t⟩
    | lst xs =>
      cases e
      obtain ⟨a, vs, e1, t, n, d⟩ := d
      exact ⟨a, vs, e1, d, t⟩
    | _ => cases e
  | r n =>
    obtain ⟨hn, hv⟩ := d
    unfold seqS at e
    simp only at e
    cases q : φ[n]? with
    | none => rw [List.getElem?_eq_none_iff] at q; omega
    | some w =>
      cases w with
      | none =>
        rw [r.dead n q] at e
        cases e
      | some l =>
        obtain ⟨ob, e1, z⟩ := r.at_ n l q
        have hv := hv l q
        rw [e1] at e
        cases ob with
        | lst xs =>
          cases e
          obtain ⟨a, vs, rfl, t, d⟩ := z
          exact ⟨a, vs, hv, d, t⟩
        | lck xs =>
          cases e
          obtain ⟨a, vs, rfl, t, d⟩ := z
          exact ⟨a, vs, hv, d, t⟩
        | _ => cases e
theorem seqL_ok {s : S} {v : V} {us : List U} (r : RepH g x φ h H) (d : DenS g x φ H s v) (e : seqS h s = some (true, us)) : ∃ a vs, v = .ref a ∧ DenL g (ow φ x) H us vs ∧ H a = some (.lst vs) := by
  obtain ⟨a, vs, e1, d1, t⟩ := seq_ok r d e
  exact ⟨a, vs, e1, d1, t⟩
theorem seqT_ok {s : S} {v : V} {us : List U} (r : RepH g x φ h H) (d : DenS g x φ H s v) (e : seqS h s = some (false, us)) : ∃ a vs, v = .ref a ∧ DenL g (ow φ x) H us vs ∧ TupA g.K (ow φ x) H a vs := by
  obtain ⟨a, vs, e1, d1, t⟩ := seq_ok r d e
  exact ⟨a, vs, e1, d1, t⟩
theorem seqA_ok {s : S} {v : V} {us : List U} {b : Bool} (r : RepH g x φ h H) (d : DenS g x φ H s v) (e : seqS h s = some (b, us)) : ∃ a vs, v = .ref a ∧ DenL g (ow φ x) H us vs ∧ (SqL g.K H a vs ∨ SqT g.K H a vs) := by
  obtain ⟨a, vs, e1, d1, t⟩ := seq_ok r d e
  cases b with
  | true => exact ⟨a, vs, e1, d1, .inl (.inl (.inl t))⟩
  | false => exact ⟨a, vs, e1, d1, .inr (TupA.sq t)⟩
end
end VM

/-! Operations by values. -/
namespace VM
open PySem PySem.Spec PyProof.Rows L2
/-- two items come to a result that leaves the own objects as they are -/
def r2 (g : GS) (f : Hs → S → S → Option RV) : R2 := fun a b H Q => ∃ x φ h s t, RepH g x φ h H ∧ DenS g x φ H s a ∧ DenS g x φ H t b ∧
  ∃ r, f h s t = some r ∧ ∀ φ' v H', Step φ H φ' H' → RepH g x φ' h H' → KV g x H r h φ' v H' → Q v H'
theorem lim_eq : lim = sizeLine := by rw [sizeLine_eq]; rfl
section
variable {X : Cx} {g : GS}
theorem mulOk_ok {i j : Int} (h : mulOk i j = true) : CMul i j ∨ L2.CMulW i j := by
  unfold mulOk small64 at h
  simp only [Bool.or_eq_true, Bool.and_eq_true, decide_eq_true_eq] at h
  rcases h with (h | h) | h
  · exact .inl (.inl ⟨by omega, by omega⟩)
  · exact .inl (.inr ⟨by omega, by omega⟩)
  · refine .inr ?_
    have h' := Nat.le_of_ble_eq_true h
    unfold CMulW
    omega
theorem add_ok (hK : X.K = g.K) : OpR X (binaryOp .Add) (r2 g (binS .add)) := by
  intro pins s σ H xv yv v u Q I rx ry h
  obtain ⟨x, φ, hs, a, b, rep, da, db, r, e, q⟩ := h
  have seqs : ∀ (r : RV), (match seqS hs a, seqS hs b with
    | some (false, xs), some (false, ys) => if xs.length + ys.length ≤ lim then some (RV.v (.tup (xs ++ ys))) else none
    | some (true, xs), some (true, ys) => if xs.length + ys.length ≤ lim then some (.nw (.lst (xs ++ ys))) else none
    | _, _ => none) = some r → (∀ φ' v H', Step φ H φ' H' → RepH g x φ' hs H' → KV g x H r hs φ' v H' → Q v H') →
      wpAny (model X.prog X.w) X.A (binaryOp .Add v u) (EP X pins σ Q) X.xe s := by
    intro r e q
    cases e1 : seqS hs a with
    | none => rw [e1] at e; cases e
    | some p1 =>
      cases e2 : seqS hs b with
      | none =>
        rw [e1, e2] at e
        obtain ⟨b1, xs⟩ := p1
        cases b1 <;> cases e
      | some p2 =>
        rw [e1, e2] at e
        obtain ⟨b1, us⟩ := p1
        obtain ⟨b2, ws⟩ := p2
        cases b1 <;> cases b2
        · simp only at e
          split at e
          · rename_i hl
            cases e
            obtain ⟨p1, vs1, rfl, d1, t1⟩ := seqT_ok rep da e1
            obtain ⟨p2, vs2, rfl, d2, t2⟩ := seqT_ok rep db e2
            have l1 := d1.len
            have l2 := d2.len
            refine op_catA pins s σ H _ _ v u Q I rx ry ⟨p1, p2, vs1, vs2, rfl, rfl, by rw [hK]; exact t1.sq, by rw [hK]; exact t2.sq, by rw [← lim_eq]; omega, fun z => ?_, fun _ z => ?_, fun _ _ p hp => ?_⟩
            · subst z
              refine q φ _ H Step.refl rep ⟨p2, vs2, rfl, t2, ?_⟩
              have : us = [] := List.eq_nil_of_length_eq_zero (by simpa using l1)
              rw [this]
              exact d2
            · subst z
              refine q φ _ H Step.refl rep ⟨p1, vs1, rfl, t1, ?_⟩
              have : ws = [] := List.eq_nil_of_length_eq_zero (by simpa using l2)
              rw [this, List.append_nil]
              exact d1
            · obtain ⟨k1, k2, k3⟩ := new_tup rep hp (d1.app d2)
              exact q φ _ _ k1 k2 k3
          · cases e
        · cases e
        · cases e
        · simp only at e
          split at e
          · rename_i hl
            cases e
            obtain ⟨p1, vs1, rfl, d1, t1⟩ := seqL_ok rep da e1
            obtain ⟨p2, vs2, rfl, d2, t2⟩ := seqL_ok rep db e2
            have l1 := d1.len
            have l2 := d2.len
            refine op_cat pins s σ H _ _ v u Q I rx ry ⟨p1, p2, vs1, vs2, rfl, rfl, t1, t2, by rw [← lim_eq]; omega, fun p hp => ?_⟩
            obtain ⟨k1, k2, k3⟩ := new_lst rep hp (d1.app d2)
            exact q φ _ _ k1 k2 k3
          · cases e
  have vals : ∀ (i j : Int), a = .v (.int i) → b = .v (.int j) → r = .v (.int (i + j)) → wpAny (model X.prog X.w) X.A (binaryOp .Add v u) (EP X pins σ Q) X.xe s := by
    rintro i j rfl rfl rfl
    have e1 : xv = .int i := da
    have e2 : yv = .int j := db
    exact op_add pins s σ H xv yv v u Q I rx ry ⟨i, j, e1, e2, q φ _ H Step.refl rep rfl⟩
  have txts : ∀ (i j : Str), a = .v (.str i) → b = .v (.str j) → (if i.length + j.length ≤ lim then some (RV.v (.str (i ++ j))) else none) = some r → wpAny (model X.prog X.w) X.A (binaryOp .Add v u) (EP X pins σ Q) X.xe s := by
    rintro i j rfl rfl e
    split at e
    · rename_i hl
      cases e
      have e1 : xv = .str i := da
      have e2 : yv = .str j := db
      exact op_add_str pins s σ H xv yv v u Q I rx ry ⟨i, j, e1, e2, by rw [← lim_eq]; exact hl, q φ _ H Step.refl rep rfl⟩
    · cases e
  cases a with
  | r n => exact seqs r (by cases b <;> exact e) q
  | v ua =>
    cases ua with
    | int i =>
      cases b with
      | v ub =>
        cases ub with
        | int j => exact vals i j rfl rfl (Option.some.inj e).symm
        | _ => exact seqs r e q
      | r n => exact seqs r e q
    | str i =>
      cases b with
      | v ub =>
        cases ub with
        | str j => exact txts i j rfl rfl e
        | _ => exact seqs r e q
      | r n => exact seqs r e q
    | _ => exact seqs r (by cases b <;> (try exact e) <;> (rename_i ub; cases ub <;> exact e)) q

theorem tup_mul_same (l : Addr) (items : Array Value) (n : Nat) (dd : Option Addr) (sl : Array (Option Value)) (k : Int) (u : Tok) (c0 : (decide (k < -(2 ^ 63)) || decide (k ≥ 2 ^ 63)) = false) (c1 : (items.isEmpty || k == 1) = true) :
    Meets (Builtin.«tuple.__mul__» ⟨[.ref l, .int k u], []⟩) (fun _ R s => s.heap.get? l = some { cls := .type "tuple", dict := dd, data := .seq items n, slots := sl } ∧ R (.ok (.ret (Value.ref l))) s) :=
  .of_wp fun prog w A R s h => by
    obtain ⟨hp, gs, d, tk, os⟩ := s
    obtain ⟨hl, h⟩ := h
    have f1 := AutoSeq1.idx_int
    wp_walk using wpAny_loadPart' hl
    repeat (first
      | (refine wpAny_ite_false (decide_eq_false (by rw [c0]; exact Bool.false_ne_true)) ?_; wp_walk using wpAny_loadPart' hl)
      | (refine wpAny_ite_true (decide_eq_true c1) ?_; wp_walk using wpAny_loadPart' hl))
    all_goals first | exact ⟨_, rfl, h⟩ | skip
theorem tup_mul_none (l : Addr) (items : Array Value) (n : Nat) (dd : Option Addr) (sl : Array (Option Value)) (k : Int) (u : Tok) (c0 : (decide (k < -(2 ^ 63)) || decide (k ≥ 2 ^ 63)) = false) (c1 : (items.isEmpty || k == 1) = false) (c2 : (decide (k ≤ 0) || items.isEmpty) = true) :
    Meets (Builtin.«tuple.__mul__» ⟨[.ref l, .int k u], []⟩) (fun _ R s => s.heap.get? l = some { cls := .type "tuple", dict := dd, data := .seq items n, slots := sl } ∧
      R (.ok (.ret (Value.ref s.heap.objs.size))) { s with heap := s.heap.push { cls := Value.type "tuple", data := Data.seq #[] }, toks := s.toks }) :=
  .of_wp fun prog w A R s h => by
    obtain ⟨hp, gs, d, tk, os⟩ := s
    obtain ⟨hl, h⟩ := h
    have f1 := AutoSeq1.idx_int
    wp_walk using wpAny_loadPart' hl
    repeat (first
      | (refine wpAny_ite_false (decide_eq_false (by rw [c0]; exact Bool.false_ne_true)) ?_; wp_walk using wpAny_loadPart' hl)
      | (refine wpAny_ite_false (decide_eq_false (by rw [c1]; exact Bool.false_ne_true)) ?_; wp_walk using wpAny_loadPart' hl)
      | (refine wpAny_ite_true (decide_eq_true c2) ?_; wp_walk using wpAny_loadPart' hl))
    all_goals first | exact ⟨_, rfl, h⟩ | skip

theorem rep_zero {α : Type} {xs : List α} {k : Int} (h : k ≤ 0) : rep xs k = [] := by
  unfold rep
  rw [show k.toNat = 0 by omega]
  rfl
theorem rep_nil {α : Type} {k : Int} : rep ([] : List α) k = [] := by
  unfold rep
  induction k.toNat with
  | zero => rfl
  | succ n ih => rw [List.replicate_succ, List.flatten_cons, ih]; rfl
theorem rep_one {α : Type} {xs : List α} : rep xs 1 = xs := by
  unfold rep
  show (List.replicate 1 xs).flatten = xs
  simp
theorem binop_tup {l : Addr} {k : Int} {t : Tok} {its : List Value} {n : Nat} {dd : Option Addr} {sl : Array (Option Value)} {s : Shared} {Q : Value → Shared → Prop} (ho : s.heap.get? l = some { cls := .type "tuple", dict := dd, data := .seq its.toArray n, slots := sl })
    (h : wpAny (model X.prog X.w) X.A (call (.builtin "tuple.__mul__") [.ref l, .int k t]) Q X.xe s) : wpAny (model X.prog X.w) X.A (binaryOp .Mult (.ref l) (.int k t)) Q X.xe s :=
  wpAny_binaryOp_repeat_ref (T := "tuple") (U := "int") (by decide) ⟨_, ho, rfl⟩ (fun s' => typeIs_int s' k t) noFill_tuple_mul F.fills_int_mul F.slot_int_rmul repeat_tuple F.slot_int_index.lookup
    (call_meets F.slot_int_rmul (typeIs_int s k t) F.entry_int_rmul (F.args_int_rmul_2 _ _) (int_rmul_tuple k t l its.toArray n dd sl) ⟨ho, rfl, ⟨_, ho, rfl⟩, h⟩)
/-- tuple * int, whatever the int -/
def rMulT (K : PySem.W.Frag) : R2 := fun x y H Q => ∃ l k xs, x = .ref l ∧ y = .int k ∧ SqT K H l xs ∧ -1000000 ≤ k ∧ k ≤ 1000 ∧ xs.length ≤ 1000 ∧ (rep xs k = xs → Q (.ref l) H) ∧ ∀ p, H p = none → Q (.ref p) (upd H p (.tup (rep xs k)))
theorem op_mulT : OpR X (binaryOp .Mult) (rMulT X.K) := by
  intro pins s σ H x y v u Q I rx ry h
  obtain ⟨l, k, xs, rfl, rfl, hT, h1, h2, hz, qs, q⟩ := h
  by_cases hbig : xs ≠ [] ∧ 2 ≤ k
  · exact op_repT pins s σ H _ _ v u Q I rx ry ⟨l, k, xs, rfl, rfl, hT, hbig.1, hbig.2, h2, hz, q⟩
  · cases rx
    obtain ⟨t, rfl⟩ := ry
    obtain ⟨its, r, ⟨⟨cls, dd, data, sl⟩, ho, hc, n, hd⟩, hs⟩ := I.tuple hT
    simp only at hc hd
    subst hc hd
    have hle : its.length = xs.length := r.length.symm
    have hem : its.toArray.isEmpty = xs.isEmpty := by
      have := isEmpty_of r
      simpa using this
    have c0 : (decide (k < -(2 ^ 63)) || decide (k ≥ 2 ^ 63)) = false := by
      rw [decide_eq_false (by omega), decide_eq_false (by omega)] <;> rfl
    refine binop_tup (dd := dd) (n := n) (sl := sl) ho ?_
    cases c1 : (its.toArray.isEmpty || k == 1) with
    | true =>
      refine call_meets F.slot_tuple_mul ⟨_, ho, rfl⟩ F.entry_tuple_mul (F.args_tuple_mul_2 _ _) (tup_mul_same l its.toArray n dd sl k t c0 c1) ⟨ho, ?_⟩
      refine ⟨.ref l, H, I, rfl, qs ?_⟩
      rcases Bool.or_eq_true_iff.mp c1 with z | z
      · rw [hem] at z
        have : xs = [] := by simpa using z
        subst this
        exact rep_nil
      · have : k = 1 := by simpa using z
        subst this
        exact rep_one
    | false =>
      obtain ⟨z1, z2⟩ := Bool.or_eq_false_iff.mp c1
      have hk : k ≤ 0 := by
        have hne : xs ≠ [] := fun e => by
          rw [hem, e] at z1
          cases z1
        have h3 : ¬ 2 ≤ k := fun e => hbig ⟨hne, e⟩
        have h4 : k ≠ 1 := by simpa using z2
        omega
      have c2 : (decide (k ≤ 0) || its.toArray.isEmpty) = true := by rw [decide_eq_true hk]; rfl
      refine call_meets F.slot_tuple_mul ⟨_, ho, rfl⟩ F.entry_tuple_mul (F.args_tuple_mul_2 _ _) (tup_mul_none l its.toArray n dd sl k t c0 c1 c2) ⟨ho, ?_⟩
      have q' := q s.heap.objs.size (I.hok.fresh (Nat.le_refl _))
      rw [rep_zero hk] at q'
      refine ⟨.ref s.heap.objs.size, _, I.laid (t' := s.toks) (o := .tup []) (fun b ob q => Heap.get?_push_of_some _ q) (Nat.le_refl _) ?_, rfl, q'⟩
      exact ⟨Nat.zero_le _, [], .nil, IsTup.new _ _⟩
theorem rep_cps (z : Array Nat) (n : Nat) : (List.replicate n z).foldl (· ++ ·) #[] = ((List.replicate n z.toList).flatten).toArray := by
  have : ∀ (l : List (Array Nat)) (acc : Array Nat), l.foldl (· ++ ·) acc = (acc.toList ++ (l.map (·.toList)).flatten).toArray := by
    intro l
    induction l with
    | nil => intro acc; simp
    | cons a l ih => intro acc; rw [List.foldl_cons, ih]; simp
  rw [this]
  simp
theorem op_mulStr : OpR X (binaryOp .Mult) (fun x y H Q => ∃ z k, x = .str z ∧ y = .int k ∧ -1000000 ≤ k ∧ k ≤ 1000000 ∧ z.length * k.toNat ≤ sizeLine ∧ Q (.str ⟨(rep z.cps.toList k).toArray⟩) H) := by
  intro pins s σ H x y v u Q I rx ry h
  obtain ⟨z, k, rfl, rfl, h1, h2, hz, q⟩ := h
  obtain ⟨t, rfl⟩ := rx
  obtain ⟨t', rfl⟩ := ry
  have hs : sizeLine = 16777216 := sizeLine_eq
  refine P.mul_str (by rw [decide_eq_false (by omega), decide_eq_false (by omega)]; rfl) (fun a b => ?_) (fun a b => ?_) ?_
  · obtain ⟨b1, b2⟩ := Bool.or_eq_false_iff.mp b
    have hz0 : z.length ≠ 0 := by simpa using b2
    have hk : 1 ≤ k.toNat := by omega
    have : z.length ≤ 16777216 := by
      have := Nat.le_mul_of_pos_right z.length (show 0 < k.toNat by omega)
      omega
    have hd : (2 ^ 63 - 1) / 1000000 ≤ ((2 : Int) ^ 63 - 1) / k := by
      apply Int.le_ediv_of_mul_le (by omega)
      omega
    omega
  · exact decide_eq_false (Nat.not_lt.mpr hz)
  · by_cases c : k < 1
    · rw [if_pos c]
      have e : (⟨(rep z.cps.toList k).toArray⟩ : Str) = Str.empty := by rw [rep_zero (by omega)]; rfl
      rw [e] at q
      exact ⟨by decide, .str _, H, I.tok _, ⟨_, rfl⟩, q⟩
    · rw [if_neg c]
      by_cases c2 : (k == 1 || z.length == 0) = true
      · rw [if_pos c2]
        have e : (⟨(rep z.cps.toList k).toArray⟩ : Str) = z := by
          rcases Bool.or_eq_true_iff.mp c2 with c3 | c3
          · have : k = 1 := by simpa using c3
            subst this
            rw [rep_one]
          · have : z.cps.toList = [] := by
              have h3 : z.cps.size = 0 := by simpa [Str.length] using c3
              simpa using h3
            rw [this, rep_nil]
            cases z with
            | mk cps =>
              simp at this
              rw [this]
        rw [e] at q
        exact ⟨.str _, H, I, ⟨_, rfl⟩, q⟩
      · rw [if_neg c2, rep_cps]
        have e : (⟨(rep z.cps.toList k).toArray⟩ : Str).length ≤ sizeLine := by
          show (rep z.cps.toList k).toArray.size ≤ _
          unfold rep
          rw [List.size_toArray, PyProof.Rows.lm_len_rep_flat, Array.length_toList]
          rw [Nat.mul_comm]
          exact hz
        exact ⟨e, .str _, H, I.tok _, ⟨_, rfl⟩, q⟩
end
end VM

/-! Operations by values, further. -/
namespace VM
open PySem PySem.Spec PyProof.Rows L2
section
variable {X : Cx} {g : GS}
theorem mul_ok (hK : X.K = g.K) : OpR X (binaryOp .Mult) (r2 g (binS .mul)) := by
  intro pins s σ H xv yv v u Q I rx ry h
  obtain ⟨x, φ, hs, a, b, rep', da, db, r, e, q⟩ := h
  have seqs : ∀ (k : Int), b = .v (.int k) → (match seqS hs a with
    | some (false, xs) => if -1000000 ≤ k ∧ k ≤ 1000 ∧ xs.length ≤ 1000 then some (RV.v (.tup (rep xs k))) else none
    | some (true, xs) => if -1000000 ≤ k ∧ k ≤ 1000000 ∧ xs.length * k.toNat ≤ lim then some (.nw (.lst (rep xs k))) else none
    | none => none) = some r → wpAny (model X.prog X.w) X.A (binaryOp .Mult v u) (EP X pins σ Q) X.xe s := by
    rintro k rfl e
    have ey : yv = .int k := db
    subst ey
    cases e1 : seqS hs a with
    | none => rw [e1] at e; cases e
    | some p1 =>
      obtain ⟨b1, us⟩ := p1
      rw [e1] at e
      cases b1
      · simp only at e
        split at e
        · rename_i hl
          cases e
          obtain ⟨p1, vs1, rfl, d1, t1⟩ := seqT_ok rep' da e1
          have l1 := d1.len
          refine op_mulT pins s σ H _ _ v u Q I rx ry ⟨p1, k, vs1, rfl, rfl, by rw [hK]; exact t1.sq, hl.1, hl.2.1, by omega, fun z => ?_, fun p hp => ?_⟩
          · refine q φ _ H Step.refl rep' ⟨p1, vs1, rfl, t1, ?_⟩
            have d2 : DenL g (ow φ x) H (rep us k) (rep vs1 k) := d1.rep k.toNat
            rw [z] at d2
            exact d2
          · obtain ⟨k1, k2, k3⟩ := new_tup rep' hp (show DenL g (ow φ x) H (rep us k) (rep vs1 k) from d1.rep k.toNat)
            exact q φ _ _ k1 k2 k3
        · cases e
      · simp only at e
        split at e
        · rename_i hl
          cases e
          obtain ⟨p1, vs1, rfl, d1, t1⟩ := seqL_ok rep' da e1
          have l1 := d1.len
          refine op_rep pins s σ H _ _ v u Q I rx ry ⟨p1, k, vs1, rfl, rfl, t1, by omega, by omega, by rw [← lim_eq, ← l1]; exact hl.2.2, fun p hp => ?_⟩
          obtain ⟨k1, k2, k3⟩ := new_lst rep' hp (show DenL g (ow φ x) H (rep us k) (rep vs1 k) from d1.rep k.toNat)
          exact q φ _ _ k1 k2 k3
        · cases e
  have vals : ∀ (i j : Int), a = .v (.int i) → b = .v (.int j) → (if mulOk i j then some (RV.v (.int (i * j))) else none) = some r → wpAny (model X.prog X.w) X.A (binaryOp .Mult v u) (EP X pins σ Q) X.xe s := by
    rintro i j rfl rfl e
    split at e
    · rename_i hm
      cases e
      have e1 : xv = .int i := da
      have e2 : yv = .int j := db
      rcases mulOk_ok hm with z | z
      · exact op_mul pins s σ H xv yv v u Q I rx ry ⟨i, j, e1, e2, z, q φ _ H Step.refl rep' rfl⟩
      · exact op_mulW pins s σ H xv yv v u Q I rx ry ⟨i, j, e1, e2, z, q φ _ H Step.refl rep' rfl⟩
    · cases e
  have txts : ∀ (z : Str) (k : Int), a = .v (.str z) → b = .v (.int k) → (if -1000000 ≤ k ∧ k ≤ 1000000 ∧ z.length * k.toNat ≤ lim then some (RV.v (.str ⟨(rep z.cps.toList k).toArray⟩)) else none) = some r → wpAny (model X.prog X.w) X.A (binaryOp .Mult v u) (EP X pins σ Q) X.xe s := by
    rintro z k rfl rfl e
    split at e
    · rename_i hl
      cases e
      have e1 : xv = .str z := da
      have e2 : yv = .int k := db
      exact op_mulStr pins s σ H xv yv v u Q I rx ry ⟨z, k, e1, e2, hl.1, hl.2.1, by rw [← lim_eq]; exact hl.2.2, q φ _ H Step.refl rep' rfl⟩
    · cases e
  cases b with
  | r n =>
    cases a with
    | r m => cases e
    | v ua => cases ua <;> cases e
  | v ub =>
    cases ub with
    | int k =>
      cases a with
      | r n => exact seqs k rfl e
      | v ua =>
        cases ua with
        | int i => exact vals i k rfl rfl e
        | str z => exact txts z k rfl rfl e
        | _ => exact seqs k rfl e
    | _ =>
      cases a with
      | r n => cases e
      | v ua => cases ua <;> cases e

/-- two ints -/
theorem ints_ok {op : Operator} {f : Hs → S → S → Option RV} {C : Int → Int → Prop} {k : Int → Int → Int}
    (rule : OpR X (binaryOp op) (rI C fun i j => .int (k i j)))
    (hf : ∀ h s t r, f h s t = some r → ∃ i j, s = .v (.int i) ∧ t = .v (.int j) ∧ C i j ∧ r = .v (.int (k i j))) : OpR X (binaryOp op) (r2 g f) := by
  intro pins s σ H xv yv v u Q I rx ry h
  obtain ⟨x, φ, hs, a, b, rep', da, db, r, e, q⟩ := h
  obtain ⟨i, j, rfl, rfl, c, rfl⟩ := hf _ _ _ _ e
  exact rule pins s σ H xv yv v u Q I rx ry ⟨i, j, da, db, c, q φ _ H Step.refl rep' rfl⟩
theorem sub_ok : OpR X (binaryOp .Sub) (r2 g (binS .sub)) := by
  refine ints_ok (C := fun _ _ => True) (k := fun i j => i - j) ?_ fun h s t r e => ?_
  · intro pins s σ H xv yv v u Q I rx ry h
    obtain ⟨i, j, h1, h2, _, q⟩ := h
    exact op_sub pins s σ H xv yv v u Q I rx ry ⟨i, j, h1, h2, q⟩
  · cases s with
    | r n => cases t <;> cases e
    | v us =>
      cases us with
      | int i =>
        cases t with
        | r n => cases e
        | v ut =>
          cases ut with
          | int j => cases e; exact ⟨i, j, rfl, rfl, trivial, rfl⟩
          | _ => cases e
      | _ => cases t <;> (try cases e) <;> (rename_i ut; cases ut <;> cases e)
theorem fdiv_ok : OpR X (binaryOp .FloorDiv) (r2 g (binS .fdiv)) := by
  refine ints_ok op_fdivW fun h s t r e => ?_
  cases s with
  | r n => cases t <;> cases e
  | v us =>
    cases us with
    | int i =>
      cases t with
      | r n => cases e
      | v ut =>
        cases ut with
        | int j =>
          simp only [binS] at e
          split at e
          · rename_i hc
            cases e
            exact ⟨i, j, rfl, rfl, ⟨hc.1, by omega⟩, rfl⟩
          · cases e
        | _ => cases e
    | _ => cases t <;> (try cases e) <;> (rename_i ut; cases ut <;> cases e)
theorem mod_ok : OpR X (binaryOp .Mod) (r2 g (binS .mod)) := by
  refine ints_ok op_mod fun h s t r e => ?_
  cases s with
  | r n => cases t <;> cases e
  | v us =>
    cases us with
    | int i =>
      cases t with
      | r n => cases e
      | v ut =>
        cases ut with
        | int j =>
          simp only [binS] at e
          split at e
          · rename_i hc
            cases e
            exact ⟨i, j, rfl, rfl, hc, rfl⟩
          · cases e
        | _ => cases e
    | _ => cases t <;> (try cases e) <;> (rename_i ut; cases ut <;> cases e)
theorem pow_ok : OpR X (binaryOp .Pow) (r2 g (binS .pow)) := by
  refine ints_ok op_pow fun h s t r e => ?_
  cases s with
  | r n => cases t <;> cases e
  | v us =>
    cases us with
    | int i =>
      cases t with
      | r n => cases e
      | v ut =>
        cases ut with
        | int j =>
          simp only [binS] at e
          split at e
          · rename_i hc
            cases e
            exact ⟨i, j, rfl, rfl, ⟨hc.1, by omega, by omega⟩, rfl⟩
          · cases e
        | _ => cases e
    | _ => cases t <;> (try cases e) <;> (rename_i ut; cases ut <;> cases e)
def opOf : BO → Operator
  | .add => .Add | .sub => .Sub | .mul => .Mult | .fdiv => .FloorDiv | .mod => .Mod | .pow => .Pow
theorem bin_ok (hK : X.K = g.K) : ∀ o : BO, OpR X (binaryOp (opOf o)) (r2 g (binS o))
  | .add => add_ok hK
  | .sub => sub_ok
  | .mul => mul_ok hK
  | .fdiv => fdiv_ok
  | .mod => mod_ok
  | .pow => pow_ok
end
end VM

/-! Comparisons by values. -/
namespace VM
open PySem PySem.Spec PyProof.Rows L2
mutual
/-- as the library's data -/
def toD : U → PyData
  | .non => .none
  | .bl b => .bool b
  | .int i => .int i
  | .str x => .str x
  | .tup xs => .tuple (toDs xs)
  | .lst xs => .list (toDs xs)
  | _ => .none
def toDs : List U → List PyData
  | [] => []
  | x :: xs => toD x :: toDs xs
end
mutual
theorem toD_lay : ∀ u : U, u.dat = true → (toD u).canLay0 = true
  | .non, _ => by simp [toD, PyData.canLay0]
  | .bl _, _ => by simp [toD, PyData.canLay0]
  | .int _, _ => by simp [toD, PyData.canLay0]
  | .str x, h => by
    simp only [toD, PyData.canLay0]
    exact h
  | .tup xs, h => by
    simp only [toD, PyData.canLay0]
    exact toDs_lay xs h
  | .lst xs, h => by
    simp only [toD, PyData.canLay0]
    exact toDs_lay xs h
  | .frz _, h => by cases h
  | .dct _, h => by cases h
  | .fn _, h => by cases h
theorem toDs_lay : ∀ us : List U, datL us = true → PyData.canLayAll0 (toDs us) = true
  | [], _ => by simp [toDs, PyData.canLayAll0]
  | u :: us, h => by
    obtain ⟨h1, h2⟩ := Bool.and_eq_true_iff.mp (show (u.dat && datL us) = true from h)
    simp only [toDs, PyData.canLayAll0]
    rw [toD_lay u h1, toDs_lay us h2]
    rfl
end
mutual
theorem toD_dp : ∀ u : U, (toD u).depth ≤ u.dp
  | .non => by simp [toD, PyData.depth]
  | .bl _ => by simp [toD, PyData.depth]
  | .int _ => by simp [toD, PyData.depth]
  | .str x => by simp [toD, PyData.depth]
  | .tup xs => by
    simp only [toD, PyData.depth, U.dp]
    exact Nat.succ_le_succ (toDs_dp xs)
  | .lst xs => by
    simp only [toD, PyData.depth, U.dp]
    exact Nat.succ_le_succ (toDs_dp xs)
  | .frz _ => by simp [toD, PyData.depth]
  | .dct _ => by simp [toD, PyData.depth]
  | .fn _ => by simp [toD, PyData.depth]
theorem toDs_dp : ∀ us : List U, PyData.depthAll (toDs us) ≤ dpL us
  | [] => by simp [toDs, PyData.depthAll]
  | u :: us => by
    have h1 := toD_dp u
    have h2 := toDs_dp us
    simp only [toDs, PyData.depthAll, dpL]
    omega
end
theorem shp_ok {u : U} (h : u.shp = true) : u.dat = true ∧ SeqAt.shaped (toD u) = true := by
  obtain ⟨h1, h2⟩ := Bool.and_eq_true_iff.mp h
  have h3 := Nat.le_of_ble_eq_true h2
  have h4 := toD_dp u
  refine ⟨h1, ?_⟩
  unfold SeqAt.shaped
  rw [toD_lay u h1]
  exact decide_eq_true (by omega)
theorem b2i_eq (b : Bool) : b2i b = if b then 1 else 0 := rfl
mutual
theorem eqU_ok : ∀ a b : U, a.dat = true → b.dat = true → eqU a b = PyData.eqv (toD a) (toD b)
  | .non, b, _, hb => by cases b <;> first | (cases hb; done) | simp [toD, eqU, PyData.eqv]
  | .bl _, b, _, hb => by cases b <;> first | (cases hb; done) | simp [toD, eqU, PyData.eqv, b2i]
  | .int _, b, _, hb => by cases b <;> first | (cases hb; done) | simp [toD, eqU, PyData.eqv, b2i]
  | .str x, b, _, hb => by
    cases b <;> first | (cases hb; done) | (simp [toD, eqU, PyData.eqv, Bool.beq_eq_decide_eq]; done)
  | .tup xs, b, ha, hb => by
    cases b with
    | tup ys =>
      simp only [toD, eqU, PyData.eqv]
      exact eqL_ok xs ys ha hb
    | _ => first | (cases hb; done) | simp [toD, eqU, PyData.eqv]
  | .lst xs, b, ha, hb => by
    cases b with
    | lst ys =>
      simp only [toD, eqU, PyData.eqv]
      exact eqL_ok xs ys ha hb
    | _ => first | (cases hb; done) | simp [toD, eqU, PyData.eqv]
  | .frz _, _, ha, _ => by cases ha
  | .dct _, _, ha, _ => by cases ha
  | .fn _, _, ha, _ => by cases ha
theorem eqL_ok : ∀ a b : List U, datL a = true → datL b = true → eqL a b = PyData.eqvAll (toDs a) (toDs b)
  | [], [], _, _ => by simp [toDs, eqL, PyData.eqvAll]
  | [], _ :: _, _, _ => by simp [toDs, eqL, PyData.eqvAll]
  | _ :: _, [], _, _ => by simp [toDs, eqL, PyData.eqvAll]
  | a :: as, b :: bs, ha, hb => by
    obtain ⟨h1, h2⟩ := Bool.and_eq_true_iff.mp (show (a.dat && datL as) = true from ha)
    obtain ⟨h3, h4⟩ := Bool.and_eq_true_iff.mp (show (b.dat && datL bs) = true from hb)
    simp only [toDs, eqL, PyData.eqvAll]
    rw [eqU_ok a b h1 h3, eqL_ok as bs h2 h4]
end
mutual
theorem Den.dp {g : GS} {o : Addr → Prop} {H : Hp} : ∀ (u : U) (v : V), u.dat = true → Den g o H u v → Dp g.K H v (toD u)
  | .non, v, _, h => by rw [show v = .non from h]; exact .non
  | .bl b, v, _, h => by rw [show v = .bl b from h]; exact .bl b
  | .int i, v, _, h => by rw [show v = .int i from h]; exact .int i
  | .str x, v, _, h => by rw [show v = .str x from h]; exact .str x
  | .tup us, v, hd, h => by
    obtain ⟨a, vs, rfl, t, d⟩ := h
    exact .tup t.sq (DenL.dp us vs hd d)
  | .lst us, v, hd, h => by
    obtain ⟨a, vs, rfl, t, n, d⟩ := h
    exact .lst (.inl (.inl t)) (DenL.dp us vs hd d)
  | .frz _, _, hd, _ => by cases hd
  | .dct _, _, hd, _ => by cases hd
  | .fn _, _, hd, _ => by cases hd
theorem DenL.dp {g : GS} {o : Addr → Prop} {H : Hp} : ∀ (us : List U) (vs : List V), datL us = true → DenL g o H us vs → DpAll g.K H vs (toDs us)
  | [], vs, _, h => by rw [show vs = [] from h]; exact .nil
  | u :: us, vs, hd, h => by
    obtain ⟨w, ws, rfl, d, ds⟩ := h
    obtain ⟨h1, h2⟩ := Bool.and_eq_true_iff.mp (show (u.dat && datL us) = true from hd)
    exact .cons (Den.dp u w h1 d) (DenL.dp us ws h2 ds)
end
theorem toDs_map : ∀ us : List U, toDs us = us.map toD
  | [] => rfl
  | u :: us => by
    show toD u :: toDs us = _
    rw [toDs_map us]
    rfl
theorem any_eqU {a : U} (ha : a.dat = true) : ∀ us : List U, datL us = true → (us.any fun y => eqU y a) = (toDs us).any fun z => PyData.eqv z (toD a)
  | [], _ => rfl
  | u :: us, h => by
    obtain ⟨h1, h2⟩ := Bool.and_eq_true_iff.mp (show (u.dat && datL us) = true from h)
    show (eqU u a || us.any fun y => eqU y a) = (PyData.eqv (toD u) (toD a) || (toDs us).any fun z => PyData.eqv z (toD a))
    rw [eqU_ok u a h1 ha, any_eqU ha us h2]

def cop : CO → CmpOp
  | .eq => .Eq | .ne => .NotEq | .lt => .Lt | .le => .LtE | .gt => .Gt | .ge => .GtE | .is => .Is | .isn => .IsNot | .in => .In | .nin => .NotIn
def cmpR (o : CO) : Hs → S → S → Option RV := fun h s t => (cmpS o h s t).map fun b => .v (.bl b)
section
variable {X : Cx} {g : GS}
theorem cI {o : CO} {i j : Int} {c : Bool} (h : cmpI o i j = some c) {pins : List (Addr × Obj)} {s : Shared} {σ : L2.St} {H : Hp} {v u : Value} {Q : VK} (I : L2.Inv X pins σ H s) (rx : L2.RelV (.int i) v) (ry : L2.RelV (.int j) u) (q : Q (.bl c) H) :
    wpAny (model X.prog X.w) X.A (compareOp (cop o) v u) (EP X pins σ Q) X.xe s := by
  cases o with
  | eq => cases h; exact op_eq pins s σ H _ _ v u Q I rx ry ⟨rfl, by rw [show decide (V.int i = V.int j) = decide (i = j) by rw [dec_int, Bool.beq_eq_decide_eq]]; exact q⟩
  | ne => cases h; exact op_ne pins s σ H _ _ v u Q I rx ry ⟨rfl, by rw [show decide (V.int i = V.int j) = decide (i = j) by rw [dec_int, Bool.beq_eq_decide_eq]]; exact q⟩
  | lt => cases h; exact op_lt pins s σ H _ _ v u Q I rx ry ⟨i, j, rfl, rfl, q⟩
  | le => cases h; exact op_le pins s σ H _ _ v u Q I rx ry ⟨i, j, rfl, rfl, q⟩
  | gt => cases h; exact op_gt pins s σ H _ _ v u Q I rx ry ⟨i, j, rfl, rfl, q⟩
  | ge => cases h; exact op_ge pins s σ H _ _ v u Q I rx ry ⟨i, j, rfl, rfl, q⟩
  | _ => cases h
/-- equal data -/
theorem cEq {a b : U} {c : Bool} {x : Addr → Prop} {φ : Phi} (hK : X.K = g.K) (hu : X.A.units + 64 < cLine) (h : (if a.shp && b.shp then some (eqU a b) else none) = some c) {pins : List (Addr × Obj)} {s : Shared} {σ : L2.St} {H : Hp} {xv yv : V} {v u : Value} {Q : VK} (I : L2.Inv X pins σ H s)
    (rx : L2.RelV xv v) (ry : L2.RelV yv u) (da : Den g (ow φ x) H a xv) (db : Den g (ow φ x) H b yv) (q : Q (.bl c) H) : wpAny (model X.prog X.w) X.A (compareOp .Eq v u) (EP X pins σ Q) X.xe s := by
  split at h
  · rename_i hs
    cases h
    obtain ⟨h1, h2⟩ := Bool.and_eq_true_iff.mp hs
    obtain ⟨d1, s1⟩ := shp_ok h1
    obtain ⟨d2, s2⟩ := shp_ok h2
    exact op_eqD hu pins s σ H xv yv v u Q I rx ry ⟨toD a, toD b, by rw [hK]; exact Den.dp a xv d1 da, by rw [hK]; exact Den.dp b yv d2 db, s1, s2, by rw [← eqU_ok a b d1 d2]; exact q⟩
  · cases h
theorem cNe {a b : U} {c : Bool} {x : Addr → Prop} {φ : Phi} (hK : X.K = g.K) (hu : X.A.units + 64 < cLine) (h : (if a.shp && b.shp then some (!eqU a b) else none) = some c) {pins : List (Addr × Obj)} {s : Shared} {σ : L2.St} {H : Hp} {xv yv : V} {v u : Value} {Q : VK} (I : L2.Inv X pins σ H s)
    (rx : L2.RelV xv v) (ry : L2.RelV yv u) (da : Den g (ow φ x) H a xv) (db : Den g (ow φ x) H b yv) (q : Q (.bl c) H) : wpAny (model X.prog X.w) X.A (compareOp .NotEq v u) (EP X pins σ Q) X.xe s := by
  split at h
  · rename_i hs
    cases h
    obtain ⟨h1, h2⟩ := Bool.and_eq_true_iff.mp hs
    obtain ⟨d1, s1⟩ := shp_ok h1
    obtain ⟨d2, s2⟩ := shp_ok h2
    exact op_neD hu pins s σ H xv yv v u Q I rx ry ⟨toD a, toD b, by rw [hK]; exact Den.dp a xv d1 da, by rw [hK]; exact Den.dp b yv d2 db, s1, s2, by rw [← eqU_ok a b d1 d2]; exact q⟩
  · cases h

theorem cIn {a : U} {t : S} {h : Hs} {x : Addr → Prop} {φ : Phi} {neg c : Bool} (hK : X.K = g.K) (hu : X.A.units + 65 < cLine)
    (e : (match seqS h t with
    | some (true, ys) => if a.shp && (U.lst ys).shp then some (if neg then !ys.any fun y => eqU y a else ys.any fun y => eqU y a) else none
    | some (false, ys) => if a.shp && (U.tup ys).shp then some (if neg then !ys.any fun y => eqU y a else ys.any fun y => eqU y a) else none
    | none => none) = some c) {pins : List (Addr × Obj)} {s : Shared} {σ : L2.St} {H : Hp} {xv yv : V} {v u : Value} {Q : VK} (I : L2.Inv X pins σ H s)
    (rx : L2.RelV xv v) (ry : L2.RelV yv u) (rep : RepH g x φ h H) (da : Den g (ow φ x) H a xv) (db : DenS g x φ H t yv) (q : Q (.bl c) H) :
    wpAny (model X.prog X.w) X.A (compareOp (if neg then .NotIn else .In) v u) (EP X pins σ Q) X.xe s := by
  cases e1 : seqS h t with
  | none => rw [e1] at e; cases e
  | some p =>
    obtain ⟨b, ys⟩ := p
    rw [e1] at e
    cases b
    · simp only at e
      split at e
      · rename_i hs
        obtain ⟨h1, h2⟩ := Bool.and_eq_true_iff.mp hs
        obtain ⟨d1, s1⟩ := shp_ok h1
        obtain ⟨d2, s2⟩ := shp_ok h2
        obtain ⟨p, vs, rfl, d, t⟩ := seqT_ok rep db e1
        obtain ⟨as, r1⟩ := Dp.reads I (toD a) xv v (by rw [hK]; exact Den.dp a xv d1 da) rx
        obtain ⟨bs, r2⟩ := Dp.reads I (.tuple (toDs ys)) _ u (by rw [hK]; exact .tup t.sq (DenL.dp ys vs d2 d)) ry
        have lay : PyData.canLayAll0 (toDs ys) = true := toDs_lay ys d2
        have hroom : X.A.units + 1 + min (PyData.depthAll (toDs ys)) (toD a).depth < cLine := by
          have := SeqAt.depth_of_shaped s1
          omega
        cases neg with
        | true =>
          cases e
          refine SeqAt.notIn_tuple_reads r2 r1 lay (SeqAt.canLay_of_shaped s1) hroom ⟨.bl _, H, I, rfl, ?_⟩
          rw [← any_eqU d1 ys d2]
          exact q
        | false =>
          cases e
          refine SeqAt.in_tuple_reads r2 r1 lay (SeqAt.canLay_of_shaped s1) hroom ⟨.bl _, H, I, rfl, ?_⟩
          rw [← any_eqU d1 ys d2]
          exact q
      · cases e
    · simp only at e
      split at e
      · rename_i hs
        obtain ⟨h1, h2⟩ := Bool.and_eq_true_iff.mp hs
        obtain ⟨d1, s1⟩ := shp_ok h1
        obtain ⟨d2, s2⟩ := shp_ok h2
        obtain ⟨p, vs, rfl, d, t⟩ := seqL_ok rep db e1
        obtain ⟨as, r1⟩ := Dp.reads I (toD a) xv v (by rw [hK]; exact Den.dp a xv d1 da) rx
        obtain ⟨bs, r2⟩ := Dp.reads I (.list (toDs ys)) _ u (by rw [hK]; exact .lst (.inl (.inl t)) (DenL.dp ys vs d2 d)) ry
        have lay : PyData.canLayAll0 (toDs ys) = true := toDs_lay ys d2
        have hroom : X.A.units + 1 + min (PyData.depthAll (toDs ys)) (toD a).depth < cLine := by
          have := SeqAt.depth_of_shaped s1
          omega
        cases neg with
        | true =>
          cases e
          refine SeqAt.notIn_list_reads r2 r1 lay (SeqAt.canLay_of_shaped s1) hroom ⟨.bl _, H, I, rfl, ?_⟩
          rw [← any_eqU d1 ys d2]
          exact q
        | false =>
          cases e
          refine SeqAt.in_list_reads r2 r1 lay (SeqAt.canLay_of_shaped s1) hroom ⟨.bl _, H, I, rfl, ?_⟩
          rw [← any_eqU d1 ys d2]
          exact q
      · cases e
theorem cSign {a z : Str} {c : Bool} (e : signIn a z = some c) : ∃ k, a = ⟨#[k]⟩ ∧ c = decide (k ∈ z.cps.toList) := by
  unfold signIn at e
  split at e
  · rename_i k hk
    cases e
    refine ⟨k, ?_, rfl⟩
    obtain ⟨cps⟩ := a
    have : cps = #[k] := by
      apply Array.toList_inj.mp
      simpa using hk
    rw [this]
  · cases e
theorem non_iff {x : Addr → Prop} {φ : Phi} {H : Hp} : ∀ {u : U} {v : V}, Den g (ow φ x) H u v → decide (v = .non) = isNon u
  | .non, v, h => by rw [show v = .non from h]; rfl
  | .bl b, v, h => by rw [show v = .bl b from h]; rfl
  | .int b, v, h => by rw [show v = .int b from h]; rfl
  | .str b, v, h => by rw [show v = .str b from h]; rfl
  | .tup us, v, h => by obtain ⟨a, vs, rfl, _⟩ := h; rfl
  | .lst us, v, h => by obtain ⟨a, vs, rfl, _⟩ := h; rfl
  | .frz us, v, h => by obtain ⟨a, vs, rfl, _⟩ := h; rfl
  | .dct us, v, h => h.elim
  | .fn f, v, h => by rw [show v = .ref _ from h]; rfl
theorem cmp_ok (hK : X.K = g.K) (hu : X.A.units + 65 < cLine) (o : CO) : OpR X (compareOp (cop o)) (r2 g (cmpR o)) := by
  intro pins s σ H xv yv v u Q I rx ry h
  obtain ⟨x, φ, hs, a, b, rep', da, db, r, e, q⟩ := h
  unfold cmpR at e
  cases ec : cmpS o hs a b with
  | none => rw [ec] at e; cases e
  | some c =>
    rw [ec] at e
    cases e
    have q' : Q (.bl c) H := q φ _ H Step.refl rep' rfl
    have isn : ∀ (n : Nat) (c' : Bool), a = .r n → ((seqS hs (.r n)).map fun _ => c') = some c → decide (xv = .non) = false ∧ c = c' := by
      rintro n c' rfl e
      cases e1 : seqS hs (.r n) with
      | none => rw [e1] at e; cases e
      | some p =>
        rw [e1] at e
        cases e
        obtain ⟨p, vs, rfl, _⟩ := seq_ok rep' da (b := p.1) (us := p.2) e1
        exact ⟨rfl, rfl⟩
    cases o with
    | is =>
      cases b with
      | r n => cases a <;> (try cases ec) <;> (rename_i ua; cases ua <;> cases ec)
      | v ub =>
        cases ub with
        | non =>
          have ey : yv = .non := db
          subst ey
          cases a with
          | r n =>
            obtain ⟨e1, e2⟩ := isn n false rfl ec
            exact op_isN pins s σ H xv _ v u Q I rx ry ⟨rfl, by rw [e1, ← e2]; exact q'⟩
          | v ua =>
            have e1 := non_iff (u := ua) da
            have e2 : c = isNon ua := (Option.some.inj ec).symm
            exact op_isN pins s σ H xv _ v u Q I rx ry ⟨rfl, by rw [e1, ← e2]; exact q'⟩
        | _ => cases a <;> (try cases ec) <;> (rename_i ua; cases ua <;> cases ec)
    | isn =>
      cases b with
      | r n => cases a <;> (try cases ec) <;> (rename_i ua; cases ua <;> cases ec)
      | v ub =>
        cases ub with
        | non =>
          have ey : yv = .non := db
          subst ey
          cases a with
          | r n =>
            obtain ⟨e1, e2⟩ := isn n true rfl ec
            exact op_notN pins s σ H xv _ v u Q I rx ry ⟨rfl, by rw [e1, Bool.not_false, ← e2]; exact q'⟩
          | v ua =>
            have e1 := non_iff (u := ua) da
            have e2 : c = !isNon ua := (Option.some.inj ec).symm
            exact op_notN pins s σ H xv _ v u Q I rx ry ⟨rfl, by rw [e1, ← e2]; exact q'⟩
        | _ => cases a <;> (try cases ec) <;> (rename_i ua; cases ua <;> cases ec)
    | «in» =>
      cases a with
      | r n => cases b <;> (try cases ec) <;> (rename_i ub; cases ub <;> cases ec)
      | v ua =>
        by_cases hss : ∃ y z, ua = .str y ∧ b = .v (.str z)
        · obtain ⟨y, z, rfl, rfl⟩ := hss
          obtain ⟨k, rfl, rfl⟩ := cSign (show signIn y z = some c from ec)
          exact op_in_sign pins s σ H xv yv v u Q I rx ry ⟨k, z, da, db, q'⟩
        · refine cIn (neg := false) hK hu ?_ I rx ry rep' da db q'
          rw [← ec]
          cases ua <;> first | rfl | (cases b <;> first | rfl | (rename_i z y; cases y <;> first | rfl | exact absurd ⟨_, _, rfl, rfl⟩ hss))
    | nin =>
      cases a with
      | r n => cases b <;> (try cases ec) <;> (rename_i ub; cases ub <;> cases ec)
      | v ua =>
        by_cases hss : ∃ y z, ua = .str y ∧ b = .v (.str z)
        · obtain ⟨y, z, rfl, rfl⟩ := hss
          have ec' : (signIn y z).map (!·) = some c := ec
          cases e3 : signIn y z with
          | none => rw [e3] at ec'; cases ec'
          | some c' =>
            rw [e3] at ec'
            cases ec'
            obtain ⟨k, rfl, rfl⟩ := cSign e3
            exact op_notIn_sign pins s σ H xv yv v u Q I rx ry ⟨k, z, da, db, q'⟩
        · refine cIn (neg := true) hK hu ?_ I rx ry rep' da db q'
          rw [← ec]
          cases ua <;> first | rfl | (cases b <;> first | rfl | (rename_i z y; cases y <;> first | rfl | exact absurd ⟨_, _, rfl, rfl⟩ hss))
    | eq =>
      cases a with
      | r n => cases b <;> (try cases ec) <;> (rename_i ub; cases ub <;> cases ec)
      | v ua =>
        cases b with
        | r n => cases ua <;> cases ec
        | v ub =>
          have gen : (if ua.shp && ub.shp then some (eqU ua ub) else none) = some c → wpAny (model X.prog X.w) X.A (compareOp .Eq v u) (EP X pins σ Q) X.xe s := fun z => cEq hK (by omega) z I rx ry da db q'
          cases ua with
          | int i =>
            cases ub with
            | int j =>
              have e1 : xv = .int i := da
              have e2 : yv = .int j := db
              subst e1 e2
              exact cI (o := .eq) ec I rx ry q'
            | _ => exact gen ec
          | str i =>
            cases ub with
            | str j =>
              have e1 : xv = .str i := da
              have e2 : yv = .str j := db
              subst e1 e2
              have e3 : c = decide (i = j) := (Option.some.inj ec).symm
              exact op_eq pins s σ H _ _ v u Q I rx ry ⟨rfl, by rw [show decide (V.str i = V.str j) = c by rw [dec_str, Bool.beq_eq_decide_eq, e3]]; exact q'⟩
            | _ => exact gen ec
          | _ => exact gen (by cases ub <;> exact ec)
    | ne =>
      cases a with
      | r n => cases b <;> (try cases ec) <;> (rename_i ub; cases ub <;> cases ec)
      | v ua =>
        cases b with
        | r n => cases ua <;> cases ec
        | v ub =>
          have gen : (if ua.shp && ub.shp then some (!eqU ua ub) else none) = some c → wpAny (model X.prog X.w) X.A (compareOp .NotEq v u) (EP X pins σ Q) X.xe s := fun z => cNe hK (by omega) z I rx ry da db q'
          cases ua with
          | int i =>
            cases ub with
            | int j =>
              have e1 : xv = .int i := da
              have e2 : yv = .int j := db
              subst e1 e2
              exact cI (o := .ne) ec I rx ry q'
            | _ => exact gen ec
          | str i =>
            cases ub with
            | str j =>
              have e1 : xv = .str i := da
              have e2 : yv = .str j := db
              subst e1 e2
              have e3 : c = !decide (i = j) := (Option.some.inj ec).symm
              exact op_ne pins s σ H _ _ v u Q I rx ry ⟨rfl, by rw [show decide (V.str i = V.str j) = decide (i = j) by rw [dec_str, Bool.beq_eq_decide_eq], ← e3]; exact q'⟩
            | _ => exact gen ec
          | _ => exact gen (by cases ub <;> exact ec)
    | lt =>
      cases a with
      | r n => cases b <;> (try cases ec) <;> (rename_i ub; cases ub <;> cases ec)
      | v ua =>
        cases b with
        | r n => cases ua <;> cases ec
        | v ub =>
          cases ua with
          | int i =>
            cases ub with
            | int j =>
              have e1 : xv = .int i := da
              have e2 : yv = .int j := db
              subst e1 e2
              exact cI (o := .lt) ec I rx ry q'
            | _ => cases ec
          | str i =>
            cases ub with
            | str j => cases ec; exact op_lt_str pins s σ H xv yv v u Q I rx ry ⟨i, j, da, db, q'⟩
            | _ => cases ec
          | _ => cases ub <;> cases ec
    | le =>
      cases a with
      | r n => cases b <;> (try cases ec) <;> (rename_i ub; cases ub <;> cases ec)
      | v ua =>
        cases b with
        | r n => cases ua <;> cases ec
        | v ub =>
          cases ua with
          | int i =>
            cases ub with
            | int j =>
              have e1 : xv = .int i := da
              have e2 : yv = .int j := db
              subst e1 e2
              exact cI (o := .le) ec I rx ry q'
            | _ => cases ec
          | str i =>
            cases ub with
            | str j => cases ec; exact op_le_str pins s σ H xv yv v u Q I rx ry ⟨i, j, da, db, q'⟩
            | _ => cases ec
          | _ => cases ub <;> cases ec
    | gt =>
      cases a with
      | r n => cases b <;> (try cases ec) <;> (rename_i ub; cases ub <;> cases ec)
      | v ua =>
        cases b with
        | r n => cases ua <;> cases ec
        | v ub =>
          cases ua with
          | int i =>
            cases ub with
            | int j =>
              have e1 : xv = .int i := da
              have e2 : yv = .int j := db
              subst e1 e2
              exact cI (o := .gt) ec I rx ry q'
            | _ => cases ec
          | str i =>
            cases ub with
            | str j => cases ec; exact op_gt_str pins s σ H xv yv v u Q I rx ry ⟨i, j, da, db, q'⟩
            | _ => cases ec
          | _ => cases ub <;> cases ec
    | ge =>
      cases a with
      | r n => cases b <;> (try cases ec) <;> (rename_i ub; cases ub <;> cases ec)
      | v ua =>
        cases b with
        | r n => cases ua <;> cases ec
        | v ub =>
          cases ua with
          | int i =>
            cases ub with
            | int j =>
              have e1 : xv = .int i := da
              have e2 : yv = .int j := db
              subst e1 e2
              exact cI (o := .ge) ec I rx ry q'
            | _ => cases ec
          | str i =>
            cases ub with
            | str j => cases ec; exact op_ge_str pins s σ H xv yv v u Q I rx ry ⟨i, j, da, db, q'⟩
            | _ => cases ec
          | _ => cases ub <;> cases ec
end
end VM

/-! Places, slices, built-in calls, methods, by values. -/
namespace VM
section
open PySem PySem.Calls PySem.NumText PyProof.Rows PySem.W PySem.W.KIN
theorem lim_look {K : PySem.W.Frag} {M : Model} {A : Around} {E : Value → Shared → Prop} {s : Shared} {Q : Nat → Shared → Prop} (KX : K.In s.heap) (e : PySem.W.nsIn K cStatics "sys.int_max_str_digits" = some none) (h : Q 4300 s) : wpAny M A Builtin.intMaxStrDigits Q E s := by
  unfold Builtin.intMaxStrDigits
  exact wpAny_bind (PySem.W.looks_nsIn KX e A _ E s (fun _ _ q => q) (wpAny_pure h))
theorem wp_textL {K : PySem.W.Frag} {M : Model} {A : Around} {E : Value → Shared → Prop} {s : Shared} {Q : Value → Shared → Prop} {v : Value} {text : List Nat} {n : Int} (KX : K.In s.heap) (e : PySem.W.nsIn K cStatics "sys.int_max_str_digits" = some none)
    (hs : ¬ (text.takeWhile (· != 0)).length ≤ 640) (hr : (int_private% "readNumeral") 4300 10 (text.takeWhile (· != 0)) = (int_private% "Numeral.value") n)
    (ha : ((text.takeWhile (· != 0)).length == text.length) = true) (h : Q (.int n s.toks) { s with toks := s.toks + 1 }) :
    wpAny M A ((int_private% "intFromText") v text 10) Q E s := by
  obtain ⟨hp, g, d, tk, os⟩ := s
  have hl : ∀ {Q : Nat → Shared → Prop}, Q 4300 ⟨hp, g, d, tk, os⟩ → wpAny M A Builtin.intMaxStrDigits Q E ⟨hp, g, d, tk, os⟩ := fun q => lim_look KX e q
  repeat (any_goals (first
    | assumption
    | (with_reducible refine hl ?_)
    | (with_reducible refine wpAny_ite_false (decide_eq_false hs) ?_)
    | (with_reducible refine wpAny_ite_true (decide_eq_true ha) ?_)
    | wp_step))
  all_goals (try rw [hr])
  all_goals (try dsimp only)
  repeat (any_goals (first
    | assumption
    | (with_reducible refine wpAny_ite_true (decide_eq_true ha) ?_)
    | wp_step))
structure Hd (p : Prop) : Prop where
  out : p
set_option maxHeartbeats 4000000 in
theorem meets_textL {K : PySem.W.Frag} (eD : PySem.W.nsIn K cStatics "sys.int_max_str_digits" = some none) {z : PySem.Str} {u : Tok} {n : Int} (hz : z.length ≤ sizeLine) (hn : PySem.intText? z = some n) :
    Meets (Builtin.«int.__new__» ⟨[.type "int", .str z u], []⟩) (fun _ R s => K.In s.heap ∧ (Made.int n).post (fun v s' => R (.ok (.ret v)) s') s) := fun prog w A R s hh => by
  obtain ⟨KX, h⟩ := hh
  by_cases hs : (numSeenOf z).length ≤ 640
  · obtain ⟨hp, g, d, tk, os⟩ := s
    have q1 := F.conv_sub_int
    have q2 := F.madeHere_int
    have q3 := str_int
    have q4 := str_idx
    have q5 := str_trunc
    have q6 : typeOf (.str z u) = pure (.type "str") := rfl
    have hr : (int_private% "readNumeral") 0 10 (numSeenOf z) = (int_private% "Numeral.value") n ∧ ((numSeenOf z).length == (numTextOf z).length) = true := by
      rcases read0 z hs with ⟨m, h1, h2, h3⟩ | ⟨h1, _⟩
      · rw [hn] at h1; cases h1; exact ⟨h3, h2⟩
      · rw [hn] at h1; cases h1
    have hk := Hd.mk (And.intro hs hr)
    have hX := Hd.mk KX
    clear hs hr hz hn KX
    repeat (any_goals (first
      | assumption
      | ((with_reducible show wpAny _ _ ((int_private% "intFromText") _ _ _) _ _ _); refine PySem.W.KIN.wp_text hk.out.1 hk.out.2.1 hk.out.2.2 ?_)
      | wp_step))
    all_goals first | exact ⟨_, rfl, h⟩ | exact h | skip
  · obtain ⟨hp, g, d, tk, os⟩ := s
    have q1 := F.conv_sub_int
    have q2 := F.madeHere_int
    have q3 := str_int
    have q4 := str_idx
    have q5 := str_trunc
    have q6 : typeOf (.str z u) = pure (.type "str") := rfl
    have hr : (int_private% "readNumeral") 4300 10 (numSeenOf z) = (int_private% "Numeral.value") n ∧ ((numSeenOf z).length == (numTextOf z).length) = true := by
      rcases read4300 z hz with ⟨m, h1, h2, h3⟩ | ⟨h1, _⟩
      · rw [hn] at h1; cases h1; exact ⟨h3, h2⟩
      · rw [hn] at h1; cases h1
    have hk := Hd.mk (And.intro hs hr)
    have hX := Hd.mk KX
    clear hs hr hz hn KX
    repeat (any_goals (first
      | assumption
      | ((with_reducible show wpAny _ _ ((int_private% "intFromText") _ _ _) _ _ _); refine wp_textL hX.out eD hk.out.1 hk.out.2.1 hk.out.2.2 ?_)
      | wp_step))
    all_goals first | exact ⟨_, rfl, h⟩ | exact h | skip
open L2 in
theorem call_int_long {X : Cx} (eD : PySem.W.nsIn X.K cStatics "sys.int_max_str_digits" = some none) : CallR X (.type "int") (fun xs H Q => ∃ a n, xs = [.str a] ∧ PySem.intText? a = some n ∧ a.length ≤ 16777216 ∧ Q (.int n) H) := by
  intro pins s σ H xs us Q I rs h
  obtain ⟨a, n, rfl, hn, hl, h⟩ := h
  cases rs with
  | cons r1 rs =>
    cases rs
    obtain ⟨t, rfl⟩ := r1
    exact call_int_1 (meets_textL eD (by rw [sizeLine_eq]; exact hl) hn) ⟨I.kIn, (show (Made.int n).post _ s from ⟨rfl, .int n, H, I.tok _, ⟨_, rfl⟩, h⟩)⟩
end
end VM
namespace VM
open PySem PySem.Spec PyProof.Rows L2
section
variable {X : Cx} {g : GS}
theorem atI_of {α : Type} {xs : List α} {i : Int} {j : Nat} {v : α} (h : ixU xs.length i = some j) (e : xs[j]? = some v) : atI xs i = some v := by
  unfold atI
  rw [show ixN xs.length i = ixU xs.length i from rfl, h]
  exact e
theorem frz_ok {x : Addr → Prop} {φ : Phi} {H : Hp} {us : List U} {v : V} (d : Den g (ow φ x) H (.frz us) v) : ∃ a vs, v = .ref a ∧ DenL g (ow φ x) H us vs ∧ SqL g.K H a vs := by
  obtain ⟨a, vs, e, t, d⟩ := d
  refine ⟨a, vs, e, d, ?_⟩
  rcases t with ⟨ob, t, _⟩ | t
  · exact .inl (.inr ⟨ob, t⟩)
  · exact .inr t
theorem ix_ok (hK : X.K = g.K) : IxR X (r2 g idxS) := by
  intro value slice pins s σ H xv yv v u Q I rx ry h hs
  obtain ⟨x, φ, hh, a, b, rep, da, db, r, e, q⟩ := h
  have gen : ∀ (i : Int) (us : List U) (vs : List V) (p : Addr), yv = .int i → xv = .ref p → DenL g (ow φ x) H us vs → (SqL g.K H p vs ∨ SqT g.K H p vs) →
      (match ixU us.length i with | some j => (us[j]?).map RV.v | none => none) = some r → wpAny (model X.prog X.w) X.A (subscriptTail value slice v u) (EP X pins σ Q) X.xe s := by
    rintro i us vs p rfl rfl d sq e
    cases e1 : ixU us.length i with
    | none => rw [e1] at e; cases e
    | some j =>
      rw [e1] at e
      cases e2 : us[j]? with
      | none => simp only [e2] at e; cases e
      | some w =>
        simp only [e2] at e
        cases e
        obtain ⟨v', h1, h2⟩ := d.get e2
        have at_ : atI vs i = some v' := atI_of (by rw [← d.len]; exact e1) h1
        have q' := q φ v' H Step.refl rep h2
        rcases sq with sq | sq
        · exact ix_list value slice pins s σ H _ _ v u Q I rx ry ⟨p, vs, i, v', rfl, rfl, by rw [hK]; exact sq, at_, q'⟩ hs
        · exact ix_tup value slice pins s σ H _ _ v u Q I rx ry ⟨p, vs, i, v', rfl, rfl, by rw [hK]; exact sq, at_, q'⟩ hs
  have seqs : ∀ i, b = .v (.int i) → (match seqS hh a with
    | some (_, xs) => match ixU xs.length i with
      | some j => (xs[j]?).map RV.v
      | none => none
    | none => none) = some r → wpAny (model X.prog X.w) X.A (subscriptTail value slice v u) (EP X pins σ Q) X.xe s := by
    rintro i rfl e
    cases e1 : seqS hh a with
    | none => rw [e1] at e; cases e
    | some p =>
      rw [e1] at e
      obtain ⟨p1, vs, e2, d, sq⟩ := seqA_ok rep da (b := p.1) (us := p.2) e1
      exact gen i p.2 vs p1 db e2 d sq e
  cases b with
  | r n => cases a <;> (try cases e) <;> (rename_i ua; cases ua <;> cases e)
  | v ub =>
    cases ub with
    | int i =>
      cases a with
      | r n => exact seqs i rfl e
      | v ua =>
        cases ua with
        | str z =>
          simp only [idxS] at e
          split at e
          · rename_i hl
            cases e1 : ixU z.cps.toList.length i with
            | none => rw [e1] at e; cases e
            | some j =>
              rw [e1] at e
              cases e2 : z.cps.toList[j]? with
              | none => simp only [e2] at e; cases e
              | some c =>
                simp only [e2] at e
                cases e
                exact ix_str value slice pins s σ H _ _ v u Q I rx ry ⟨z, i, c, da, db, by rw [← lim_eq]; exact hl, atI_of e1 e2, q φ _ H Step.refl rep rfl⟩ hs
          · cases e
        | frz us =>
          obtain ⟨p, vs, e2, d, sq⟩ := frz_ok da
          exact gen i us vs p db e2 d (.inl sq) e
        | _ => exact seqs i rfl e
    | _ => cases a <;> (try cases e) <;> (rename_i ua; cases ua <;> cases e)

/-- a slice's reading -/
def rSl (g : GS) : V → Option Int → Option Int → Hp → VK → Prop := fun a lo hi H Q => ∃ x φ h s, RepH g x φ h H ∧ DenS g x φ H s a ∧
  ∃ r, slcS h s lo hi = some r ∧ ∀ φ' v H', Step φ H φ' H' → RepH g x φ' h H' → KV g x H r h φ' v H' → Q v H'
theorem cut_len {α β : Type} {xs : List α} {ys : List β} (e : xs.length = ys.length) (lo hi : Option Int) : sIx xs.length 0 lo = sIx ys.length 0 lo ∧ sIx xs.length xs.length hi = sIx ys.length ys.length hi := by
  rw [e]
  exact ⟨rfl, rfl⟩
theorem DenL.cut {o : Addr → Prop} {H : Hp} {us : List U} {vs : List V} (h : DenL g o H us vs) (lo hi : Option Int) : DenL g o H (cut us lo hi) (cutV vs lo hi) := by
  unfold VM.cut cutV
  rw [show HT.sIx vs.length 0 lo = sIx vs.length 0 lo from rfl, show HT.sIx vs.length vs.length hi = sIx vs.length vs.length hi from rfl, h.len]
  exact (h.drop _).take _
theorem sl_ok (hK : X.K = g.K) : SlR X (rSl g) := by
  intro pins s σ H xv v vl vu lo hi sl Q I rx hs pl pu h
  obtain ⟨x, φ, hh, a, rep, da, r, e, q⟩ := h
  have lst : ∀ (p : Addr) (us : List U) (vs : List V), xv = .ref p → DenL g (ow φ x) H us vs → SqL g.K H p vs → r = .nw (.lst (cut us lo hi)) → ∃ T id, typeLookup (.type T) "__getitem__" = pure (some (.builtin id)) ∧ s.TypeIs v T ∧ wpAny (model X.prog X.w) X.A (getItem v (.ref sl)) (EP X pins σ Q) X.xe s := by
    rintro p us vs rfl d sq rfl
    refine sl_list pins s σ H _ v vl vu lo hi sl Q I rx hs pl pu ⟨p, vs, rfl, by rw [hK]; exact sq, fun p' hp => ?_⟩
    obtain ⟨k1, k2, k3⟩ := new_lst rep hp (d.cut lo hi)
    exact q φ _ _ k1 k2 k3
  have seqs : (match seqS hh a with
    | some (true, xs) => some (RV.nw (.lst (cut xs lo hi)))
    | some (false, xs) => some (.v (.tup (cut xs lo hi)))
    | none => none) = some r → ∃ T id, typeLookup (.type T) "__getitem__" = pure (some (.builtin id)) ∧ s.TypeIs v T ∧ wpAny (model X.prog X.w) X.A (getItem v (.ref sl)) (EP X pins σ Q) X.xe s := by
    intro e
    cases e1 : seqS hh a with
    | none => rw [e1] at e; cases e
    | some p =>
      obtain ⟨b, us⟩ := p
      rw [e1] at e
      cases b
      · cases e
        obtain ⟨p, vs, rfl, d, t⟩ := seqT_ok rep da e1
        refine sl_tupA pins s σ H _ v vl vu lo hi sl Q I rx hs pl pu ⟨p, vs, rfl, by rw [hK]; exact t.sq, fun z => ?_, fun _ p' hp => ?_⟩
        · refine q φ _ H Step.refl rep ⟨p, vs, rfl, t, ?_⟩
          have e3 : cut us lo hi = us := by
            unfold cut
            have z1 : sIx us.length 0 lo = 0 := by rw [d.len]; exact z.1
            have z2 : sIx us.length us.length hi = us.length := by
              have := z.2
              rw [← d.len] at this
              exact this
            rw [z1, z2]
            simp
          rw [e3]
          exact d
        · obtain ⟨k1, k2, k3⟩ := new_tup rep hp (d.cut lo hi)
          exact q φ _ _ k1 k2 k3
      · cases e
        obtain ⟨p, vs, e2, d, t⟩ := seqL_ok rep da e1
        exact lst p us vs e2 d (.inl (.inl t)) rfl
  cases a with
  | r n => exact seqs e
  | v ua =>
    cases ua with
    | str z =>
      simp only [slcS] at e
      split at e
      · rename_i hl
        cases e
        exact sl_str pins s σ H _ v vl vu lo hi sl Q I rx hs pl pu ⟨z, da, by rw [← lim_eq]; exact hl, q φ _ H Step.refl rep rfl⟩
      · cases e
    | frz us =>
      obtain ⟨p, vs, e2, d, sq⟩ := frz_ok da
      exact lst p us vs e2 d sq (Option.some.inj e).symm
    | _ => exact seqs e

/-! ### built-in calls -/
def rCB (g : GS) (f : Hs → List S → Option RV) : List V → Hp → VK → Prop := fun vs H Q => ∃ x φ h ss, RepH g x φ h H ∧ DenSs g x φ H ss vs ∧
  ∃ r, f h ss = some r ∧ ∀ φ' v H', Step φ H φ' H' → RepH g x φ' h H' → KV g x H r h φ' v H' → Q v H'
theorem ss1 {x : Addr → Prop} {φ : Phi} {H : Hp} {s : S} {vs : List V} (h : DenSs g x φ H [s] vs) : ∃ v, vs = [v] ∧ DenS g x φ H s v := by
  obtain ⟨w, ws, rfl, d, e⟩ := h
  rw [show ws = [] from e]
  exact ⟨w, rfl, d⟩
theorem ss2 {x : Addr → Prop} {φ : Phi} {H : Hp} {s t : S} {vs : List V} (h : DenSs g x φ H [s, t] vs) : ∃ v w, vs = [v, w] ∧ DenS g x φ H s v ∧ DenS g x φ H t w := by
  obtain ⟨w, ws, rfl, d, h⟩ := h
  obtain ⟨w', rfl, d'⟩ := ss1 h
  exact ⟨w, w', rfl, d, d'⟩
theorem maxI_ge : ∀ (r : List Int) (i : Int), i ≤ maxI i r ∧ ∀ j ∈ r, j ≤ maxI i r
  | [], i => ⟨Int.le_refl _, fun j h => by cases h⟩
  | k :: r, i => by
    have hm : i ≤ (if i < k then k else i) ∧ k ≤ (if i < k then k else i) := by split <;> omega
    obtain ⟨h1, h2⟩ := maxI_ge r (if i < k then k else i)
    refine ⟨Int.le_trans hm.1 h1, fun j hj => ?_⟩
    rcases List.mem_cons.mp hj with rfl | hj
    · exact Int.le_trans hm.2 h1
    · exact h2 j hj
theorem maxI_mem : ∀ (r : List Int) (i : Int), maxI i r ∈ i :: r
  | [], i => by simp [maxI]
  | k :: r, i => by
    have := maxI_mem r (if i < k then k else i)
    show maxI (if i < k then k else i) r ∈ i :: k :: r
    rcases List.mem_cons.mp this with h | h
    · rw [h]
      split <;> simp
    · simp [h]
theorem minI_le : ∀ (r : List Int) (i : Int), minI i r ≤ i ∧ ∀ j ∈ r, minI i r ≤ j
  | [], i => ⟨Int.le_refl _, fun j h => by cases h⟩
  | k :: r, i => by
    have hm : (if k < i then k else i) ≤ i ∧ (if k < i then k else i) ≤ k := by split <;> omega
    obtain ⟨h1, h2⟩ := minI_le r (if k < i then k else i)
    refine ⟨Int.le_trans h1 hm.1, fun j hj => ?_⟩
    rcases List.mem_cons.mp hj with rfl | hj
    · exact Int.le_trans h1 hm.2
    · exact h2 j hj
theorem minI_mem : ∀ (r : List Int) (i : Int), minI i r ∈ i :: r
  | [], i => by simp [minI]
  | k :: r, i => by
    have := minI_mem r (if k < i then k else i)
    show minI (if k < i then k else i) r ∈ i :: k :: r
    rcases List.mem_cons.mp this with h | h
    · rw [h]
      split <;> simp
    · simp [h]

def bid : BI → Value
  | .len => .builtin "len" | .tuple => .type "tuple" | .list => .type "list" | .all => .builtin "all" | .any => .builtin "any" | .sum => .builtin "sum"
  | .max => .builtin "max" | .min => .builtin "min" | .abs => .builtin "abs" | .int => .type "int" | .str => .type "str" | .sorted => .builtin "sorted" | .range => .type "range" | .intL => .type "int"
theorem one1_ok {α : Type} {f : S → Option α} {ss : List S} {r : α} (e : one1 f ss = some r) : ∃ s, ss = [s] ∧ f s = some r := by
  cases ss with
  | nil => cases e
  | cons s t =>
    cases t with
    | nil => exact ⟨s, rfl, e⟩
    | cons _ _ => cases e
theorem two2_ok {f : S → Option RV} {k : Int → Int → Int} {ss : List S} {r : RV} (e : two2 f k ss = some r) : (∃ s, ss = [s] ∧ f s = some r) ∨ ∃ i j, ss = [.v (.int i), .v (.int j)] ∧ r = .v (.int (k i j)) := by
  cases ss with
  | nil => cases e
  | cons s t =>
    cases t with
    | nil => exact .inl ⟨s, rfl, e⟩
    | cons s2 t =>
      cases t with
      | cons _ _ => cases e
      | nil =>
        cases s with
        | r n => cases e
        | v u1 =>
          cases u1 with
          | int i =>
            cases s2 with
            | r n => cases e
            | v u2 =>
              cases u2 with
              | int j => cases e; exact .inr ⟨i, j, rfl, rfl⟩
              | _ => cases e
          | _ => cases e
theorem blsB_ok {x : Addr → Prop} {φ : Phi} {h : Hs} {H : Hp} {f : List Bool → Bool} {s : S} {v : V} {r : RV} (rep : RepH g x φ h H) (d : DenS g x φ H s v) (e : blsB h f s = some r) : ∃ a bs, v = .ref a ∧ SqL g.K H a (bs.map V.bl) ∧ r = .v (.bl (f bs)) := by
  unfold blsB at e
  cases e1 : seqS h s with
  | none => rw [e1] at e; cases e
  | some p =>
    obtain ⟨b, ws⟩ := p
    rw [e1] at e
    cases b with
    | false => cases e
    | true =>
      cases e2 : blsU ws with
      | none => simp only [e2] at e; cases e
      | some bs =>
        simp only [e2] at e
        cases e
        obtain ⟨a, vs, rfl, d2, t⟩ := seqL_ok rep d e1
        have := d2.bls e2
        subst this
        exact ⟨a, bs, rfl, .inl (.inl t), rfl⟩
theorem extB_ok {x : Addr → Prop} {φ : Phi} {h : Hs} {H : Hp} {f : Int → List Int → Int} {s : S} {v : V} {r : RV} (rep : RepH g x φ h H) (d : DenS g x φ H s v) (e : extB h f s = some r) : ∃ a i bs, v = .ref a ∧ SqL g.K H a ((i :: bs).map V.int) ∧ r = .v (.int (f i bs)) := by
  unfold extB at e
  cases e1 : seqS h s with
  | none => rw [e1] at e; cases e
  | some p =>
    obtain ⟨b, ws⟩ := p
    rw [e1] at e
    cases b with
    | false => cases e
    | true =>
      cases e2 : intsU ws with
      | none => simp only [e2] at e; cases e
      | some bs =>
        cases bs with
        | nil => simp only [e2] at e; cases e
        | cons i bs =>
          simp only [e2] at e
          cases e
          obtain ⟨a, vs, rfl, d2, t⟩ := seqL_ok rep d e1
          have := d2.ints e2
          subst this
          exact ⟨a, i, bs, rfl, .inl (.inl t), rfl⟩
theorem blt_ok (hK : X.K = g.K) (hc : X.calm = true) (b : BI) (hD : b = .intL → PySem.W.nsIn X.K cStatics "sys.int_max_str_digits" = some none) : CallR X (bid b) (rCB g (bltS b)) := by
  intro pins s σ H vs us Q I r h
  obtain ⟨x, φ, hh, ss, rep, ds, rv, e, q⟩ := h
  cases b with
  | len =>
    replace e := one1_ok e
    obtain ⟨s1, rfl, e⟩ := e
    obtain ⟨v, rfl, d⟩ := ss1 ds
    have gen : ((seqAll hh s1).map fun p => RV.v (.int p.2.length)) = some rv → wpAny (model X.prog X.w) X.A (call (bid .len) us) (EP X pins σ Q) X.xe s := by
      intro e
      cases e1 : seqAll hh s1 with
      | none => rw [e1] at e; cases e
      | some p =>
        rw [e1] at e
        cases e
        obtain ⟨b, ws⟩ := p
        have got : ∃ a vs, v = .ref a ∧ DenL g (ow φ x) H ws vs ∧ (SqL g.K H a vs ∨ SqT g.K H a vs) := by
          cases s1 with
          | r n => exact seqA_ok rep d (b := b) e1
          | v u =>
            cases u with
            | frz xs =>
              cases e1
              obtain ⟨a, vs, h1, h2, h3⟩ := frz_ok d
              exact ⟨a, vs, h1, h2, .inl h3⟩
            | _ => exact seqA_ok rep d (b := b) e1
        obtain ⟨a, vs, rfl, d2, sq⟩ := got
        refine call_len_seq pins s σ H _ us Q I r ⟨a, vs, rfl, by rw [hK]; exact sq, q φ _ H Step.refl rep ?_⟩
        show V.int _ = .int _
        rw [d2.len]
    cases s1 with
    | r n => exact gen e
    | v u =>
      cases u with
      | str z =>
        unfold lenB at e
        simp only at e
        split at e
        · rename_i hl
          cases e
          exact call_len_str pins s σ H _ us Q I r ⟨z, by rw [show v = .str z from d], by rw [← lim_eq]; exact hl, q φ _ H Step.refl rep rfl⟩
        · cases e
      | _ => exact gen e
  | tuple =>
    replace e := one1_ok e
    obtain ⟨s1, rfl, e⟩ := e
    obtain ⟨v, rfl, d⟩ := ss1 ds
    cases e1 : seqS hh s1 with
    | none => rw [e1] at e; cases e
    | some p =>
      rw [e1] at e
      cases e
      obtain ⟨b, ws⟩ := p
      cases b with
      | true =>
        obtain ⟨a, vs, rfl, d2, t⟩ := seqL_ok rep d e1
        refine call_tuple_of pins s σ H _ us Q I r ⟨a, vs, rfl, .inl ⟨.inl (.inl t), fun p hp => ?_⟩⟩
        obtain ⟨k1, k2, k3⟩ := new_tup rep hp d2
        exact q φ _ _ k1 k2 k3
      | false =>
        obtain ⟨a, vs, rfl, d2, t⟩ := seqT_ok rep d e1
        exact call_tuple_of pins s σ H _ us Q I r ⟨a, vs, rfl, .inr ⟨by rw [hK]; exact t.sq, q φ _ H Step.refl rep ⟨a, vs, rfl, t, d2⟩⟩⟩
  | list =>
    replace e := one1_ok e
    obtain ⟨s1, rfl, e⟩ := e
    obtain ⟨v, rfl, d⟩ := ss1 ds
    cases e1 : seqS hh s1 with
    | none => rw [e1] at e; cases e
    | some p =>
      rw [e1] at e
      cases e
      obtain ⟨a, vs, rfl, d2, sq⟩ := seqA_ok rep d (b := p.1) (us := p.2) e1
      refine call_list_of pins s σ H _ us Q I r ⟨a, vs, rfl, by rw [hK]; exact sq, fun p hp => ?_⟩
      obtain ⟨k1, k2, k3⟩ := new_lst rep hp d2
      exact q φ _ _ k1 k2 k3
  | all =>
    replace e := one1_ok e
    obtain ⟨s1, rfl, e⟩ := e
    obtain ⟨v, rfl, d⟩ := ss1 ds
    obtain ⟨a, bs, rfl, sq, rfl⟩ := blsB_ok rep d e
    exact cr_all hc pins s σ H _ us Q I r ⟨a, bs, rfl, by rw [hK]; exact sq, q φ _ H Step.refl rep rfl⟩
  | any =>
    replace e := one1_ok e
    obtain ⟨s1, rfl, e⟩ := e
    obtain ⟨v, rfl, d⟩ := ss1 ds
    obtain ⟨a, bs, rfl, sq, rfl⟩ := blsB_ok rep d e
    exact cr_any hc pins s σ H _ us Q I r ⟨a, bs, rfl, by rw [hK]; exact sq, q φ _ H Step.refl rep rfl⟩
  | sum =>
    replace e := one1_ok e
    obtain ⟨s1, rfl, e⟩ := e
    obtain ⟨v, rfl, d⟩ := ss1 ds
    cases e1 : seqS hh s1 with
    | none => rw [e1] at e; cases e
    | some p =>
      obtain ⟨b, ws⟩ := p
      rw [e1] at e
      cases b with
      | false => cases e
      | true =>
        cases e2 : intsU ws with
        | none => simp only [e2] at e; cases e
        | some bs =>
          simp only [e2] at e
          cases e
          obtain ⟨a, vs, rfl, d2, t⟩ := seqL_ok rep d e1
          have := d2.ints e2
          subst this
          exact cr_sum hc pins s σ H _ us Q I r ⟨a, bs, rfl, .inl (.inl t), q φ _ H Step.refl rep rfl⟩
  | max =>
    replace e := two2_ok e
    rcases e with ⟨s1, rfl, e⟩ | ⟨i, j, rfl, rfl⟩
    · obtain ⟨v, rfl, d⟩ := ss1 ds
      obtain ⟨a, i, bs, rfl, sq, rfl⟩ := extB_ok rep d e
      refine cr_max hc pins s σ H _ us Q I r ⟨a, i :: bs, rfl, by rw [hK]; exact sq, by simp, fun m hm hle => ?_⟩
      have e3 : m = maxI i bs := by
        have h1 := hle _ (maxI_mem bs i)
        have h2 : m ≤ maxI i bs := by
          rcases List.mem_cons.mp hm with rfl | hm
          · exact (maxI_ge bs m).1
          · exact (maxI_ge bs i).2 m hm
        omega
      rw [e3]
      exact q φ _ H Step.refl rep rfl
    · obtain ⟨v, w, rfl, d1, d2⟩ := ss2 ds
      exact call_max2 hc pins s σ H _ us Q I r ⟨i, j, by rw [show v = .int i from d1, show w = .int j from d2], q φ _ H Step.refl rep rfl⟩
  | min =>
    replace e := two2_ok e
    rcases e with ⟨s1, rfl, e⟩ | ⟨i, j, rfl, rfl⟩
    · obtain ⟨v, rfl, d⟩ := ss1 ds
      obtain ⟨a, i, bs, rfl, sq, rfl⟩ := extB_ok rep d e
      refine cr_min hc pins s σ H _ us Q I r ⟨a, i :: bs, rfl, by rw [hK]; exact sq, by simp, fun m hm hle => ?_⟩
      have e3 : m = minI i bs := by
        have h1 := hle _ (minI_mem bs i)
        have h2 : minI i bs ≤ m := by
          rcases List.mem_cons.mp hm with rfl | hm
          · exact (minI_le bs m).1
          · exact (minI_le bs i).2 m hm
        omega
      rw [e3]
      exact q φ _ H Step.refl rep rfl
    · obtain ⟨v, w, rfl, d1, d2⟩ := ss2 ds
      exact call_min2 hc pins s σ H _ us Q I r ⟨i, j, by rw [show v = .int i from d1, show w = .int j from d2], q φ _ H Step.refl rep rfl⟩
  | abs =>
    replace e := one1_ok e
    obtain ⟨s1, rfl, e⟩ := e
    obtain ⟨v, rfl, d⟩ := ss1 ds
    cases s1 with
    | r n => cases e
    | v u =>
      cases u with
      | int i =>
        cases e
        exact call_abs pins s σ H _ us Q I r ⟨i, by rw [show v = .int i from d], q φ _ H Step.refl rep rfl⟩
      | _ => cases e
  | int =>
    replace e := one1_ok e
    obtain ⟨s1, rfl, e⟩ := e
    obtain ⟨v, rfl, d⟩ := ss1 ds
    cases s1 with
    | r n => cases e
    | v u =>
      cases u with
      | int i =>
        cases e
        exact call_int1 pins s σ H _ us Q I r (.inl ⟨i, by rw [show v = .int i from d], q φ _ H Step.refl rep rfl⟩)
      | bl b =>
        cases e
        exact call_int1 pins s σ H _ us Q I r (.inr ⟨b, by rw [show v = .bl b from d], q φ _ H Step.refl rep rfl⟩)
      | str z =>
        unfold intB at e
        simp only at e
        split at e
        · rename_i hl
          cases e2 : PySem.intText? z with
          | none => rw [e2] at e; cases e
          | some n =>
            rw [e2] at e
            cases e
            exact call_int_str pins s σ H _ us Q I r ⟨z, n, by rw [show v = .str z from d], e2, hl, q φ _ H Step.refl rep rfl⟩
        · cases e
      | _ => cases e
  | str =>
    replace e := one1_ok e
    obtain ⟨s1, rfl, e⟩ := e
    obtain ⟨v, rfl, d⟩ := ss1 ds
    cases s1 with
    | r n => cases e
    | v u =>
      cases u with
      | int i =>
        unfold strB at e
        simp only at e
        split at e
        · rename_i hl
          cases e
          exact call_str_int pins s σ H _ us Q I r ⟨i, by rw [show v = .int i from d], hl, q φ _ H Step.refl rep rfl⟩
        · cases e
      | _ => cases e
  | sorted => cases e
  | intL =>
    replace e := one1_ok e
    obtain ⟨s1, rfl, e⟩ := e
    obtain ⟨v, rfl, d⟩ := ss1 ds
    cases s1 with
    | r n => cases e
    | v u =>
      cases u with
      | str z =>
        unfold intLB at e
        simp only at e
        split at e
        · rename_i hl
          cases e2 : PySem.intText? z with
          | none => rw [e2] at e; cases e
          | some n =>
            rw [e2] at e
            cases e
            exact call_int_long (hD rfl) pins s σ H _ us Q I r ⟨z, n, by rw [show v = .str z from d], e2, hl, q φ _ H Step.refl rep rfl⟩
        · cases e
      | _ => cases e
  | range => cases e
end
end VM

/-! Methods of lists and texts, by values. -/
namespace VM
open PySem PySem.Spec PyProof.Rows L2
theorem disj : ∀ {φ : Phi} {n m : Nat} {l l' : OA} {a : Addr}, (φ.filterMap id).flatten.Nodup → φ[n]? = some (some l) → φ[m]? = some (some l') → a ∈ l → a ∈ l' → n = m
  | [], _, _, _, _, _, _, h, _, _, _ => by simp at h
  | o :: φ, n, m, l, l', a, nd, hn, hm, ha, hb => by
    have tail : (φ.filterMap id).flatten.Nodup := by
      cases o with
      | none => simpa using nd
      | some k =>
        have : (k ++ (φ.filterMap id).flatten).Nodup := by simpa using nd
        exact (List.nodup_append.mp this).2.1
    have apart : ∀ {k : OA} {j : Nat} {q : OA}, o = some k → φ[j]? = some (some q) → a ∈ k → a ∈ q → False := by
      intro k j q e hj h1 h2
      subst e
      have : (k ++ (φ.filterMap id).flatten).Nodup := by simpa using nd
      refine (List.nodup_append.mp this).2.2 a h1 a ?_ rfl
      exact List.mem_flatten.mpr ⟨q, List.mem_filterMap.mpr ⟨some q, List.mem_of_getElem? hj, rfl⟩, h2⟩
    cases n with
    | zero =>
      cases m with
      | zero => rfl
      | succ m => exact (apart (by simpa using hn) (by simpa using hm) ha hb).elim
    | succ n =>
      cases m with
      | zero => exact (apart (by simpa using hm) (by simpa using hn) hb ha).elim
      | succ m => exact congrArg Nat.succ (disj tail (by simpa using hn) (by simpa using hm) ha hb)
section
variable {g : GS} {x : Addr → Prop} {φ : Phi} {h : Hs} {H : Hp}
/-- an own list is written -/
theorem RepH.setL {n : Nat} {a : Addr} {ys : List U} {ws : List V} {ob : MO} (r : RepH g x φ h H) (e : φ[n]? = some (some [a])) (hob : (∃ ys', ob = .lst ys' ∧ ys' = ys) ∨ (∃ ys', ob = .lck ys' ∧ ys' = ys)) (d : DenL g (ow φ x) H ys ws) :
    RepH g x φ (h.set n ob) (upd H a (.lst ws)) ∧ Step φ H φ (upd H a (.lst ws)) := by
  have oa : own φ a := own_at e (by simp)
  have hne : H a ≠ none := r.there oa
  have same : ∀ b, ¬ own φ b → H b ≠ none → (upd H a (.lst ws)) b = H b := fun b nb _ => upd_ne (fun z => nb (z ▸ oa))
  have grow : ∀ b, H b ≠ none → (upd H a (.lst ws)) b ≠ none := fun b hb => by
    by_cases z : b = a
    · rw [z, upd_same]; simp
    · rw [upd_ne z]; exact hb
  have st : Step φ H φ (upd H a (.lst ws)) := ⟨same, grow, fun _ q => .inl q, Nat.le_refl _, fun _ _ _ q => q, fresh_le (Nat.le_refl _)⟩
  have kp := st.keep x
  refine ⟨⟨by rw [List.length_set]; exact r.len, fun m l em => ?_, fun m em => ?_, r.nd, r.apart, fun b hb => grow b (r.xs b hb)⟩, st⟩
  · by_cases hm : n = m
    · subst hm
      rw [e] at em
      cases em
      have hn : n < h.length := by rw [← r.len]; exact (List.getElem?_eq_some_iff.mp e).1
      refine ⟨ob, by rw [List.getElem?_set_self hn], ?_⟩
      rcases hob with ⟨ys', rfl, rfl⟩ | ⟨ys', rfl, rfl⟩
      · exact ⟨a, ws, rfl, upd_same, DenL.keep kp _ ws d⟩
      · exact ⟨a, ws, rfl, upd_same, DenL.keep kp _ ws d⟩
    · obtain ⟨ob', e1, q⟩ := r.at_ m l em
      refine ⟨ob', by rw [List.getElem?_set_ne hm]; exact e1, q.keep kp fun b hb => upd_ne (fun z => hm (disj r.nd e em (by simp) (z ▸ hb)))⟩
  · have hm : n ≠ m := fun z => by rw [← z, e] at em; cases em
    rw [List.getElem?_set_ne hm]
    exact r.dead m em
/-- an own list, found -/
theorem own_list {n : Nat} {us : List U} {v : V} (r : RepH g x φ h H) (d : DenS g x φ H (.r n) v) (e : h[n]? = some (.lst us)) : ∃ a vs, φ[n]? = some (some [a]) ∧ v = .ref a ∧ H a = some (.lst vs) ∧ DenL g (ow φ x) H us vs := by
  obtain ⟨hn, hv⟩ := d
  cases q : φ[n]? with
  | none => rw [List.getElem?_eq_none_iff] at q; omega
  | some w =>
    cases w with
    | none =>
      have := r.dead n q
      rw [e] at this
      cases this
    | some l =>
      obtain ⟨ob, e1, z⟩ := r.at_ n l q
      have hv := hv l q
      rw [e] at e1
      cases e1
      obtain ⟨a, vs, rfl, t, d⟩ := z
      exact ⟨a, vs, rfl, hv, t, d⟩
theorem onL_ok {o : S} {v : V} {f : Nat → List U → Option (RV × Hs)} {p : RV × Hs} (r : RepH g x φ h H) (d : DenS g x φ H o v) (e : onL h o f = some p) :
    ∃ n us a vs, o = .r n ∧ f n us = some p ∧ φ[n]? = some (some [a]) ∧ v = .ref a ∧ H a = some (.lst vs) ∧ DenL g (ow φ x) H us vs := by
  cases o with
  | v u => cases e
  | r n =>
    unfold onL at e
    simp only at e
    cases e1 : h[n]? with
    | none => rw [e1] at e; cases e
    | some ob =>
      rw [e1] at e
      cases ob with
      | lst us =>
        obtain ⟨a, vs, h1, h2, h3, h4⟩ := own_list r d e1
        exact ⟨n, us, a, vs, rfl, e, h1, h2, h3, h4⟩
      | _ => cases e
end
def mid : ME → String
  | .append => "list.append" | .extend => "list.extend" | .pop => "list.pop" | .index => "list.index" | .join => "str.join" | .split => "str.split"
def rMet (g : GS) (m : ME) : V → List V → Hp → VK → Prop := fun a vs H Q => ∃ x φ h s ss, RepH g x φ h H ∧ DenS g x φ H s a ∧ DenSs g x φ H ss vs ∧
  ∃ r h', metS m h s ss = some (r, h') ∧ ∀ φ' v H', Step φ H φ' H' → RepH g x φ' h' H' → KV g x H r h' φ' v H' → Q v H'
section
variable {X : Cx} {g : GS}
theorem ss0 {x : Addr → Prop} {φ : Phi} {H : Hp} {vs : List V} (h : DenSs g x φ H [] vs) : vs = [] := h
theorem toDs_get : ∀ {us : List U} {i : Nat} {u : U}, us[i]? = some u → (toDs us)[i]? = some (toD u)
  | [], _, _, h => by simp at h
  | u :: us, 0, _, h => by simp at h; subst h; rfl
  | u :: us, i + 1, w, h => by
    show (toDs us)[i]? = _
    exact toDs_get (by simpa using h)
theorem datL_get : ∀ {us : List U} {i : Nat} {u : U}, datL us = true → us[i]? = some u → u.dat = true
  | [], _, _, _, h => by simp at h
  | u :: us, 0, _, hd, h => by simp at h; subst h; exact (Bool.and_eq_true_iff.mp hd).1
  | u :: us, i + 1, w, hd, h => datL_get (Bool.and_eq_true_iff.mp hd).2 (by simpa using h)
theorem findU_ok {u : U} : ∀ {us : List U} {j : Nat}, findU u us = some j → (∃ z, us[j]? = some z ∧ eqU z u = true) ∧ ∀ m z, m < j → us[m]? = some z → eqU z u = false
  | [], _, h => by cases h
  | y :: ys, j, h => by
    unfold findU at h
    split at h
    · rename_i hy
      cases h
      exact ⟨⟨y, rfl, hy⟩, fun m z hm => by omega⟩
    · rename_i hy
      cases e : findU u ys with
      | none => rw [e] at h; cases h
      | some k =>
        rw [e] at h
        cases h
        obtain ⟨⟨z, h1, h2⟩, h3⟩ := findU_ok e
        refine ⟨⟨z, by simpa using h1, h2⟩, fun m z' hm hz => ?_⟩
        cases m with
        | zero =>
          simp at hz
          subst hz
          simpa using hy
        | succ m => exact h3 m z' (Nat.lt_of_succ_lt_succ hm) (by simpa using hz)
theorem ixN_seqI {n : Nat} {i : Int} {j : Nat} (h : ixU n i = some j) : seqIndex? i n = some j ∧ j < n ∧ -(n : Int) ≤ i ∧ i < n := ixN_seq h
theorem met_ok (hK : X.K = g.K) (hu : X.A.units + 65 < cLine) (m : ME) : MtR X (mid m) (rMet g m) := by
  intro pins s σ H xv vs v us Q I rx r h
  obtain ⟨x, φ, hh, o, ss, rep, d, ds, rv, h', e, q⟩ := h
  cases m with
  | append =>
    replace e : appM hh o ss = some (rv, h') := e
    unfold appM at e
    split at e
    · rename_i u
      obtain ⟨w, rfl, dw⟩ := ss1 ds
      obtain ⟨n, ws, a, vs, rfl, e, h1, rfl, h3, h4⟩ := onL_ok rep d e
      split at e
      · rename_i hl
        cases e
        obtain ⟨k1, k2⟩ := rep.setL h1 (.inl ⟨_, rfl, rfl⟩) (h4.snoc dw)
        exact mt_append pins s σ H _ _ v us Q I rx r ⟨a, vs, w, rfl, rfl, h3, by rw [← lim_eq, ← h4.len]; exact hl, q φ .non _ k2 k1 rfl⟩
      · cases e
    · cases e
  | extend =>
    replace e : extM hh o ss = some (rv, h') := e
    unfold extM at e
    split at e
    · rename_i s1
      obtain ⟨w, rfl, dw⟩ := ss1 ds
      obtain ⟨n, ws, a, vs, rfl, e, h1, rfl, h3, h4⟩ := onL_ok rep d e
      cases e1 : seqS hh s1 with
      | none => rw [e1] at e; cases e
      | some p =>
        obtain ⟨b, ys⟩ := p
        rw [e1] at e
        cases b with
        | false => cases e
        | true =>
          simp only at e
          split at e
          · rename_i hl
            cases e
            obtain ⟨b, ws', rfl, d2, t2⟩ := seqL_ok rep dw e1
            obtain ⟨k1, k2⟩ := rep.setL h1 (.inl ⟨_, rfl, rfl⟩) (h4.app d2)
            exact mt_extend pins s σ H _ _ v us Q I rx r ⟨a, b, vs, ws', rfl, rfl, h3, t2, by rw [← lim_eq, ← h4.len, ← d2.len]; exact hl, q φ .non _ k2 k1 rfl⟩
          · cases e
    · cases e
  | pop =>
    replace e : popM hh o ss = some (rv, h') := e
    unfold popM at e
    split at e
    · rw [ss0 ds] at r
      obtain ⟨n, ws, a, vs', rfl, e, h1, rfl, h3, h4⟩ := onL_ok rep d e
      cases e1 : ws[ws.length - 1]? with
      | none => simp only [e1] at e; cases e
      | some u =>
        simp only [e1] at e
        cases e
        obtain ⟨y, hy, dy⟩ := h4.get e1
        have dl : DenL g (ow φ x) H ws.dropLast vs'.dropLast := by
          rw [List.dropLast_eq_take, List.dropLast_eq_take, h4.len]
          exact h4.take _
        obtain ⟨k1, k2⟩ := rep.setL h1 (.inl ⟨_, rfl, rfl⟩) dl
        exact mt_pop pins s σ H _ _ v us Q I rx r ⟨a, vs', y, rfl, rfl, h3, by rw [← h4.len]; exact hy, q φ y _ k2 k1 (Den.keep (k2.keep x) _ _ dy)⟩
    · rename_i i
      obtain ⟨w, rfl, dw⟩ := ss1 ds
      obtain ⟨n, ws, a, vs', rfl, e, h1, rfl, h3, h4⟩ := onL_ok rep d e
      split at e
      · rename_i hl
        cases e1 : ixU ws.length i with
        | none => simp only [e1] at e; cases e
        | some j =>
          simp only [e1] at e
          cases e2 : ws[j]? with
          | none => simp only [e2] at e; cases e
          | some u =>
            simp only [e2] at e
            cases e
            obtain ⟨y, hy, dy⟩ := h4.get e2
            obtain ⟨i1, i2, i3, i4⟩ := ixN_seqI e1
            have hl' : ws.length ≤ 16777216 := hl
            obtain ⟨k1, k2⟩ := rep.setL h1 (.inl ⟨_, rfl, rfl⟩) (h4.erase j)
            exact mt_popAt pins s σ H _ _ v us Q I rx r ⟨a, vs', i, j, y, rfl, by rw [show w = .int i from dw], h3, by omega, by omega, by rw [← h4.len]; exact i1, hy, q φ y _ k2 k1 (Den.keep (k2.keep x) _ _ dy)⟩
      · cases e
    · cases e
  | index =>
    replace e : idxM hh o ss = some (rv, h') := e
    unfold idxM at e
    split at e
    · rename_i u
      obtain ⟨w, rfl, dw⟩ := ss1 ds
      cases e1 : seqS hh o with
      | none => rw [e1] at e; cases e
      | some p =>
        obtain ⟨b, ys⟩ := p
        rw [e1] at e
        cases b with
        | false => cases e
        | true =>
          simp only at e
          split at e
          · rename_i hsh
            obtain ⟨b1, b2⟩ := Bool.and_eq_true_iff.mp hsh
            obtain ⟨t1, t2⟩ := shp_ok b1
            obtain ⟨t3, t4⟩ := shp_ok b2
            cases e2 : findU u ys with
            | none => rw [e2] at e; cases e
            | some j =>
              rw [e2] at e
              cases e
              obtain ⟨a, vs', rfl, d2, q2⟩ := seqL_ok rep d e1
              obtain ⟨⟨z, z1, z2⟩, z3⟩ := findU_ok e2
              have dys : datL ys = true := t3
              refine mt_indexD hu pins s σ H _ _ v us Q I rx r ⟨a, w, toD u, toDs ys, j, toD z, rfl, rfl, by rw [hK]; exact .lst (.inl (.inl q2)) (DenL.dp ys vs' dys d2), by rw [hK]; exact Den.dp u w t1 dw, t4, t2, toDs_get z1, ?_, fun m z' hm hz => ?_, q φ (.int j) H Step.refl rep rfl⟩
              · rw [← eqU_ok z u (datL_get dys z1) t1]
                exact z2
              · have hlen : (toDs ys).length = ys.length := by rw [toDs_map, List.length_map]
                have hm' : m < ys.length := by
                  have := (List.getElem?_eq_some_iff.mp hz).1
                  omega
                have g1 : ys[m]? = some ys[m] := List.getElem?_eq_getElem hm'
                have g2 := toDs_get g1
                rw [hz] at g2
                cases g2
                rw [← eqU_ok _ u (datL_get dys g1) t1]
                exact z3 m _ hm g1
          · cases e
    · cases e
  | join =>
    replace e : joinM hh o ss = some (rv, h') := e
    unfold joinM at e
    split at e
    · rename_i s1
      obtain ⟨w, rfl, dw⟩ := ss1 ds
      split at e
      · rename_i z
        cases e1 : seqS hh s1 with
        | none => rw [e1] at e; cases e
        | some p =>
          obtain ⟨b, ys⟩ := p
          rw [e1] at e
          simp only at e
          cases e2 : strsU ys with
          | none => rw [e2] at e; cases e
          | some zs =>
            rw [e2] at e
            simp only at e
            split at e
            · rename_i hl
              cases e
              obtain ⟨a, vs', rfl, d2, sq⟩ := seqA_ok rep dw e1
              have := d2.strs e2
              subst this
              exact mt_join pins s σ H _ _ v us Q I rx r ⟨z, a, zs, d, rfl, by rw [hK]; exact sq, hl, q φ _ H Step.refl rep rfl⟩
            · cases e
      · cases e
    · cases e
  | split =>
    replace e : splM hh o ss = some (rv, h') := e
    unfold splM at e
    split at e
    · rename_i b
      obtain ⟨w, rfl, dw⟩ := ss1 ds
      split at e
      · rename_i z
        split at e
        · rename_i hl
          cases e
          refine mt_split pins s σ H _ _ v us Q I rx r ⟨z, b, d, by rw [show w = .str b from dw], hl.1, by rw [← lim_eq]; exact hl.2, fun p hp => ?_⟩
          obtain ⟨k1, k2, k3⟩ := new_lst (us := (Txt.split z b).map .str) rep hp (DenL.map (f := U.str) (f' := V.str) (fun a => rfl) _)
          exact q φ _ _ k1 k2 k3
        · cases e
      · cases e
    · cases e
end
end VM

/-! Expressions, one by one: what the evaluator's parts read as. -/
namespace VM
open PySem PySem.Spec PyProof.Rows L2
theorem Step.skip {φ φ' : Phi} {H H' : Hp} {l : OA} (st : Step φ H φ' H') (hl : ∀ a ∈ l, H a = none) : Step φ H (φ' ++ [some l]) H' :=
  ⟨st.same, st.grow, fun a q => (own_app.mp q).elim (st.owns a) fun q => .inr (hl a q), by rw [List.length_append]; exact Nat.le_trans st.len (Nat.le_add_right _ _), fun n m hn hm => by
    rw [List.getElem?_append_left (Nat.lt_of_lt_of_le hn st.len)] at hm
    exact st.back n m hn hm, fun n m hn hm a ha => by
    by_cases q : n < φ'.length
    · rw [List.getElem?_append_left q] at hm
      exact st.fresh n m hn hm a ha
    · have hlt := (List.getElem?_eq_some_iff.mp hm).1
      rw [List.length_append] at hlt
      have : n = φ'.length := by simp at hlt; omega
      subst this
      simp at hm
      subst hm
      exact hl a ha⟩
section
variable {X : Cx} {g : GS} {W : WX} {e ea eb ec : Expr} {f k l : EvE} {pos : Pos}
abbrev rdE (g : GS) (W : WX) (f : EvE) : TE := RD g W KV f
abbrev rdS (g : GS) (W : WX) (f : Rho → Hs → Rs S) : TE := RD g W KS f
abbrev rdB (g : GS) (W : WX) (f : Rho → Hs → Rs Bool) : TT := RD g W KB f
abbrev rdL (g : GS) (W : WX) (f : EvL) : TA := RD g W KL f

/-- a run that hands its state on -/
theorem RD.bind {α β γ δ : Type} {P : Kd α β} {R : Kd γ δ} (m : P.Mono) {f : Rho → Hs → Rs γ} {k : Rho → γ → Hs → Rs α} {σ : L2.St} {H : Hp} {Q : β → Hp → Prop} {x : Addr → Prop} {φ : Phi} {ρ : Rho} {h : Hs}
    (rs : RelS g x φ H ρ σ) (rep : RepH g x φ h H) (c : Cond g x W P σ Q φ H ((f ρ h).bind (k ρ))) {Q' : δ → Hp → Prop}
    (next : ∀ (b : δ) (H1 : Hp) (φ1 : Phi) (h1 : Hs) (a : γ), Step φ H φ1 H1 → RelS g x φ1 H1 ρ σ → RepH g x φ1 h1 H1 → R g x H a h1 φ1 b H1 → Cond g x W P σ Q φ1 H1 (k ρ a h1) → Q' b H1) : RD g W R f σ H Q' :=
  ⟨x, φ, ρ, h, rs, rep, Cond.mono (fun b H1 ⟨φ1, h1, a, s1, rs1, rep1, p1, c1⟩ => next b H1 φ1 h1 a s1 rs1 rep1 p1 c1) (Cond.bind m rs c)⟩

/-- as an item -/
theorem pe_s (h : PE X e (rdE g W f)) : PE X e (rdS g W (sE f)) := PE.imp h fun σ H Q ⟨x, φ, ρ, h, rs, rep, c⟩ => by
  refine ⟨x, φ, ρ, h, rs, rep, ?_⟩
  have c : Cond g x W KS σ Q φ H ((f ρ h).bind fun r h => oneS h r) := c
  cases e1 : f ρ h with
  | bad => rw [e1] at c; exact c
  | ex z h1 => rw [e1] at c; exact c
  | ok r h1 =>
    rw [e1] at c
    intro φ' v H' st rep' p
    obtain ⟨s, e2, q⟩ := Cond.ofO (show Cond g x W KS σ Q φ H (ofO h1 r.s) from c)
    exact q φ' v H' st rep' (KV.s p e2)

theorem pe_lit {u : U} {v : V} (h : PE X e (tC v)) (d : ∀ o H, Den g o H u v) : PE X e (rdE g W fun _ h => .ok (.v u) h) := PE.imp h fun σ H Q ⟨x, φ, ρ, h, rs, rep, c⟩ => c φ v H Step.refl rep (d _ _)
theorem pe_vv {i : Nat} (h : PE X e (tVar i)) : PE X e (rdE g W (vVar i)) := PE.imp h fun σ H Q ⟨x, φ, ρ, h, rs, rep, c⟩ => by
  unfold vVar at c
  cases e1 : ρ[i]? with
  | none => rw [e1] at c; exact c.elim
  | some o =>
    cases o with
    | none => rw [e1] at c; exact c.elim
    | some s =>
      obtain ⟨v, e2, d⟩ := rs.at_ i s e1
      refine ⟨v, e2, ?_⟩
      cases s with
      | v u => rw [e1] at c; exact c φ v H Step.refl rep d
      | r n => rw [e1] at c; exact c φ v H Step.refl rep d
theorem pe_nr (h : PE X e (rdE g W f)) : PE X e (rdE g W (vNr f)) := PE.imp h fun σ H Q ⟨x, φ, ρ, h, rs, rep, c⟩ => by
  simp only [vNr] at c
  refine ⟨x, φ, ρ, h, rs, rep, ?_⟩
  cases e1 : f ρ h with
  | bad => rw [e1] at c; exact c
  | ex z h1 => rw [e1] at c; exact c
  | ok r h1 =>
    rw [e1] at c
    intro φ' v H' st rep' p
    cases r with
    | v u => exact c.elim
    | r n => exact c φ' v H' st rep' p
    | nw ob =>
      obtain ⟨l, rp, hv, hl⟩ := p
      have hlen : φ'.length = h1.length := rep'.len
      refine c (φ' ++ [some l]) v H' (st.skip hl) rp ⟨?_, fun m hm => ?_⟩
      · rw [List.length_append, hlen]
        simp
      · rw [← hlen] at hm
        simp at hm
        rw [← hm]
        exact hv
/-- two items, an operation -/
theorem two_rd {r : Hs → S → S → Option RV} {σ : L2.St} {H : Hp} {Q : VK} (hh : rdE g W (fun ρ h => (sE f ρ h).bind fun x h => (sE k ρ h).bind fun y h => ofO h (r h x y)) σ H Q) : tOp (r2 g r) (rdS g W (sE f)) (rdS g W (sE k)) σ H Q := by
  obtain ⟨x, φ, ρ, h, rs, rep, c⟩ := hh
  refine RD.bind (k := fun ρ a h => (sE k ρ h).bind fun y h => ofO h (r h a y)) KV.mono rs rep c fun b1 H1 φ1 h1 s1 st1 rs1 rep1 p1 c1 => ?_
  refine RD.bind (k := fun ρ y h => ofO h (r h s1 y)) KV.mono rs1 rep1 c1 fun b2 H2 φ2 h2 s2 st2 rs2 rep2 p2 c2 => ?_
  obtain ⟨rv, e1, q⟩ := Cond.ofO c2
  exact ⟨x, φ2, h2, s1, s2, rep2, DenS.step st2 p1, p2, rv, e1, q⟩
theorem pe_bin2 (hK : X.K = g.K) (o : BO) (ha : PE X ea (rdE g W f)) (hb : PE X eb (rdE g W k)) : PE X (.BinOp ea (opOf o) eb pos) (rdE g W (vBin o f k)) :=
  PE.imp (pe_op (bin_ok hK o) (pe_s ha) (pe_s hb)) fun _ _ _ q => two_rd q
theorem pe_cmp2 (hK : X.K = g.K) (hu : X.A.units + 65 < cLine) (o : CO) (ha : PE X ea (rdE g W f)) (hb : PE X eb (rdE g W k)) (hm : behindInMarks (cop o) eb = false) : PE X (.Compare ea [cop o] [eb] pos) (rdE g W (vCmp o f k)) :=
  PE.imp (pe_cmpR (cmp_ok hK hu o) (pe_s ha) (pe_s hb) hm) fun _ _ _ q => two_rd (r := cmpR o) q
theorem pe_idx2 (hK : X.K = g.K) (ha : PE X ea (rdE g W f)) (hb : PE X eb (rdE g W k)) (hs : PlainIx eb) : PE X (.Subscript ea eb pos) (rdE g W (vIdx f k)) :=
  PE.imp (pe_ix (ix_ok hK) (pe_s ha) (pe_s hb) hs) fun _ _ _ q => two_rd q
theorem pe_neg2 (ha : PE X ea (rdE g W f)) : PE X (.UnaryOp .USub ea pos) (rdE g W (vNeg f)) := PE.imp (pe_un un_neg (pe_s ha)) fun σ H Q ⟨x, φ, ρ, h, rs, rep, c⟩ => by
  simp only [vNeg] at c
  refine RD.bind (k := fun ρ a h => match a with
    | .v (.int i) => .ok (.v (.int (-i))) h
    | _ => .bad) KV.mono rs rep c fun b1 H1 φ1 h1 s1 st1 rs1 rep1 p1 c1 => ?_
  cases s1 with
  | r n => exact c1.elim
  | v u =>
    cases u with
    | int i => exact ⟨i, p1, c1 φ1 _ H1 Step.refl rep1 rfl⟩
    | _ => exact c1.elim

/-! ### truth -/
theorem tru_of {x : Addr → Prop} {φ : Phi} {h : Hs} {H : Hp} {s : S} {v : V} {b : Bool} (rep : RepH g x φ h H) (d : DenS g x φ H s v) (e : truS h s = some b) : TruV g.K v H b := by
  have seqs : ∀ {us : List U} {c : Bool}, seqS h s = some (c, us) → b = !us.isEmpty → TruV g.K v H b := by
    intro us c e1 eb
    obtain ⟨a, vs, rfl, d2, sq⟩ := seqA_ok rep d e1
    have hl : us.isEmpty = vs.isEmpty := by
      have := d2.len
      cases us <;> cases vs <;> first | rfl | (simp at this)
    rw [eb, hl]
    rcases sq with sq | sq
    · exact .inl ⟨vs, sq, rfl⟩
    · exact .inr (.inl ⟨vs, sq, rfl⟩)
  cases s with
  | r n =>
    cases e1 : seqS h (.r n) with
    | none => rw [show truS h (.r n) = (seqS h (.r n)).map fun p => !p.2.isEmpty from rfl, e1] at e; cases e
    | some p =>
      rw [show truS h (.r n) = (seqS h (.r n)).map fun p => !p.2.isEmpty from rfl, e1] at e
      exact seqs (c := p.1) e1 (Option.some.inj e).symm
  | v u =>
    cases u with
    | non => cases e; rw [show v = .non from d]; exact rfl
    | bl c => cases e; rw [show v = .bl b from d]; exact rfl
    | int i => cases e; rw [show v = .int i from d]; exact rfl
    | str z =>
      have e : (if z.length ≤ 16777216 then some ((z.length : Int) != 0) else none) = some b := e
      split at e
      · rename_i hl
        cases e
        rw [show v = .str z from d]
        exact ⟨by rw [sizeLine_eq]; exact hl, rfl⟩
      · cases e
    | tup us => exact seqs (c := false) rfl (Option.some.inj e).symm
    | lst us => exact seqs (c := true) rfl (Option.some.inj e).symm
    | _ => cases e
theorem pt_plain (hK : X.K = g.K) (ha : PE X ea (rdE g W f)) (he : ∀ whole, isTrue ea X.env whole = (do let v ← whole; standAt ea.pos; holding [v] (truthy v))) : PT X ea (rdB g W (tE f)) :=
  PT.imp (pt_truth (pe_s ha) he) fun σ H Q ⟨x, φ, ρ, h, rs, rep, c⟩ => by
    refine RD.bind (k := fun ρ a h => ofO h (truS h a)) KB.mono rs rep c fun b1 H1 φ1 h1 s1 st1 rs1 rep1 p1 c1 => ?_
    obtain ⟨b, e1, q⟩ := Cond.ofO c1
    exact ⟨b, by rw [hK]; exact tru_of rep1 p1 e1, q φ1 b H1 Step.refl rep1 rfl⟩
theorem pt_not2 (ha : PT X ea (rdB g W (tE f))) : PT X (.UnaryOp .Not ea pos) (rdB g W (tE (vNt f))) := PT.imp (pt_not ha) fun σ H Q ⟨x, φ, ρ, h, rs, rep, c⟩ => by
  refine ⟨x, φ, ρ, h, rs, rep, ?_⟩
  have e0 : tE (vNt f) ρ h = (tE f ρ h).bind fun b h => .ok (!b) h := by
    unfold tE sE vNt
    show Rs.bind (Rs.bind (Rs.bind (tE f ρ h) _) _) _ = Rs.bind (tE f ρ h) _
    cases tE f ρ h <;> rfl
  rw [e0] at c
  refine Cond.mono (fun b H1 ⟨φ1, h1, a, s1, rs1, rep1, p1, c1⟩ => ?_) (Cond.bind (R := KB) KB.mono rs c)
  rw [show b = a from p1]
  exact c1 φ1 (!a) H1 Step.refl rep1 rfl
theorem tE_ok {ρ : Rho} {h : Hs} {b : Bool} {h1 : Hs} (e : tE f ρ h = .ok b h1) : ∃ r s, f ρ h = .ok r h1 ∧ r.s = some s ∧ truS h1 s = some b := by
  unfold tE sE at e
  cases e1 : f ρ h with
  | bad => rw [e1] at e; cases e
  | ex z h2 => rw [e1] at e; cases e
  | ok r h2 =>
    rw [e1] at e
    have e : (oneS h2 r).bind (fun x h => ofO h (truS h x)) = .ok b h1 := e
    unfold oneS at e
    cases e2 : r.s with
    | none => rw [e2] at e; cases e
    | some s =>
      rw [e2] at e
      have e : ofO h2 (truS h2 s) = .ok b h1 := e
      cases e3 : truS h2 s with
      | none => rw [e3] at e; cases e
      | some b' =>
        rw [e3] at e
        cases e
        exact ⟨r, s, rfl, e2, e3⟩
/-- a value and its truth -/
theorem tru_rd {σ : L2.St} {H : Hp} {x : Addr → Prop} {φ : Phi} {ρ : Rho} {h : Hs} {Q : VK} (rs : RelS g x φ H ρ σ) (rep : RepH g x φ h H) {α β : Type} {P : Kd α β} {Q0 : β → Hp → Prop} {kk : Bool → Hs → Rs α}
    (hK : X.K = g.K) (c : Cond g x W P σ Q0 φ H ((tE f ρ h).bind kk)) (next : ∀ φ1 v H1 h1 b r, Step φ H φ1 H1 → RelS g x φ1 H1 ρ σ → RepH g x φ1 h1 H1 → KV g x H r h1 φ1 v H1 → TruV X.K v H1 b → f ρ h = .ok r h1 → tE f ρ h = .ok b h1 → Q v H1) : rdE g W f σ H Q := by
  refine ⟨x, φ, ρ, h, rs, rep, ?_⟩
  cases e1 : tE f ρ h with
  | bad => rw [e1] at c; exact c.elim
  | ex z h2 =>
    rw [e1] at c
    have e2 : f ρ h = .ex z h2 := by
      unfold tE sE at e1
      cases e3 : f ρ h with
      | bad => rw [e3] at e1; cases e1
      | ex z' h3 => rw [e3] at e1; cases e1; rfl
      | ok r h3 =>
        rw [e3] at e1
        have e1 : (oneS h3 r).bind (fun x h => ofO h (truS h x)) = .ex z h2 := e1
        unfold oneS at e1
        cases e4 : r.s with
        | none => rw [e4] at e1; cases e1
        | some s =>
          rw [e4] at e1
          have e1 : ofO h3 (truS h3 s) = .ex z h2 := e1
          cases e5 : truS h3 s with
          | none => rw [e5] at e1; cases e1
          | some b' => rw [e5] at e1; cases e1
    rw [e2]
    exact c
  | ok b h1 =>
    obtain ⟨r, s, e2, e3, e4⟩ := tE_ok e1
    rw [e2]
    intro φ1 v H1 st rep1 p
    exact next φ1 v H1 h1 b r st (rs.step st) rep1 p (by rw [hK]; exact tru_of rep1 (KV.s p e3) e4) e2 e1
theorem pe_not2 (hK : X.K = g.K) (ha : PE X ea (rdE g W f)) : PE X (.UnaryOp .Not ea pos) (rdE g W (vNt f)) := PE.imp (pe_notT ha) fun σ H Q ⟨x, φ, ρ, h, rs, rep, c⟩ => by
  simp only [vNt] at c
  refine tru_rd (X := X) rs rep hK c fun φ1 v H1 h1 b r st rs1 rep1 p t e1 e2 => ?_
  rw [e2] at c
  exact ⟨b, t, (show Cond g x W KV σ Q φ H (.ok (.v (.bl !b)) h1) from c) φ1 _ H1 st rep1 rfl⟩
theorem vAnd_eq (f k : EvE) (ρ : Rho) (h : Hs) : vAnd f k ρ h = match tE f ρ h with
    | .ok true h1 => k ρ h1
    | .ok false _ => f ρ h
    | .ex e h1 => .ex e h1
    | .bad => .bad := by
  unfold vAnd tE sE
  cases e1 : f ρ h with
  | bad => rfl
  | ex z h2 => rfl
  | ok r h2 =>
    show (match r.s with
      | some x => match truS h2 x with
        | some true => k ρ h2
        | some false => Rs.ok r h2
        | none => .bad
      | none => .bad) = _
    simp only [Rs.bind, oneS]
    cases r.s with
    | none => rfl
    | some s =>
      simp only [ofO]
      cases truS h2 s with
      | none => rfl
      | some b => cases b <;> rfl
theorem vOr_eq (f k : EvE) (ρ : Rho) (h : Hs) : vOr f k ρ h = match tE f ρ h with
    | .ok false h1 => k ρ h1
    | .ok true _ => f ρ h
    | .ex e h1 => .ex e h1
    | .bad => .bad := by
  unfold vOr tE sE
  cases e1 : f ρ h with
  | bad => rfl
  | ex z h2 => rfl
  | ok r h2 =>
    show (match r.s with
      | some x => match truS h2 x with
        | some true => Rs.ok r h2
        | some false => k ρ h2
        | none => .bad
      | none => .bad) = _
    simp only [Rs.bind, oneS]
    cases r.s with
    | none => rfl
    | some s =>
      simp only [ofO]
      cases truS h2 s with
      | none => rfl
      | some b => cases b <;> rfl
/-- .. as tests -/
theorem tAnd_eq (f k : EvE) (ρ : Rho) (h : Hs) : tE (vAnd f k) ρ h = (tE f ρ h).bind fun b h => if b = true then tE k ρ h else .ok false h := by
  show ((vAnd f k ρ h).bind fun r h => oneS h r).bind _ = _
  rw [vAnd_eq]
  cases e1 : tE f ρ h with
  | bad => rfl
  | ex z h2 => rfl
  | ok b h2 =>
    cases b with
    | true => rfl
    | false =>
      obtain ⟨r, s, e2, e3, e4⟩ := tE_ok e1
      simp only [e2, Rs.bind, oneS, e3, ofO, e4]
      rfl
theorem tOr_eq (f k : EvE) (ρ : Rho) (h : Hs) : tE (vOr f k) ρ h = (tE f ρ h).bind fun b h => if b = true then .ok true h else tE k ρ h := by
  show ((vOr f k ρ h).bind fun r h => oneS h r).bind _ = _
  rw [vOr_eq]
  cases e1 : tE f ρ h with
  | bad => rfl
  | ex z h2 => rfl
  | ok b h2 =>
    cases b with
    | false => rfl
    | true =>
      obtain ⟨r, s, e2, e3, e4⟩ := tE_ok e1
      simp only [e2, Rs.bind, oneS, e3, ofO, e4]
      rfl
theorem tIf_eq (f k l : EvE) (ρ : Rho) (h : Hs) : tE (vIf f k l) ρ h = (tE f ρ h).bind fun b h => if b = true then tE k ρ h else tE l ρ h := by
  show (((tE f ρ h).bind fun b h => if b = true then k ρ h else l ρ h).bind fun r h => oneS h r).bind _ = _
  cases e1 : tE f ρ h with
  | bad => rfl
  | ex z h2 => rfl
  | ok b h2 => cases b <;> rfl
variable {rest : List Expr}
theorem pe_and2 (hK : X.K = g.K) (ha : PE X ea (rdE g W f)) (hb : PE X (.BoolOp .And (eb :: rest) pos) (rdE g W k)) : PE X (.BoolOp .And (ea :: eb :: rest) pos) (rdE g W (vAnd f k)) := PE.imp (pe_andT ha hb) fun σ H Q ⟨x, φ, ρ, h, rs, rep, c⟩ => by
  rw [vAnd_eq] at c
  have c' : Cond g x W KV σ Q φ H ((tE f ρ h).bind fun b h1 => if b = true then k ρ h1 else f ρ h) := by
    cases e1 : tE f ρ h with
    | bad => rw [e1] at c; exact c
    | ex z h2 => rw [e1] at c; exact c
    | ok b h2 =>
      rw [e1] at c
      cases b <;> exact c
  refine tru_rd (X := X) rs rep hK c' fun φ1 v H1 h1 b r st rs1 rep1 p t e1 e2 => ?_
  refine ⟨b, t, ?_⟩
  rw [e2] at c'
  cases b with
  | true => exact ⟨x, φ1, ρ, h1, rs1, rep1, Cond.later KV.mono st c'⟩
  | false =>
    have c2 : Cond g x W KV σ Q φ H (f ρ h) := c'
    rw [e1] at c2
    exact c2 φ1 v H1 st rep1 p
theorem pe_or2 (hK : X.K = g.K) (ha : PE X ea (rdE g W f)) (hb : PE X (.BoolOp .Or (eb :: rest) pos) (rdE g W k)) : PE X (.BoolOp .Or (ea :: eb :: rest) pos) (rdE g W (vOr f k)) := PE.imp (pe_orT ha hb) fun σ H Q ⟨x, φ, ρ, h, rs, rep, c⟩ => by
  rw [vOr_eq] at c
  have c' : Cond g x W KV σ Q φ H ((tE f ρ h).bind fun b h1 => if b = true then f ρ h else k ρ h1) := by
    cases e1 : tE f ρ h with
    | bad => rw [e1] at c; exact c
    | ex z h2 => rw [e1] at c; exact c
    | ok b h2 =>
      rw [e1] at c
      cases b <;> exact c
  refine tru_rd (X := X) rs rep hK c' fun φ1 v H1 h1 b r st rs1 rep1 p t e1 e2 => ?_
  refine ⟨b, t, ?_⟩
  rw [e2] at c'
  cases b with
  | false => exact ⟨x, φ1, ρ, h1, rs1, rep1, Cond.later KV.mono st c'⟩
  | true =>
    have c2 : Cond g x W KV σ Q φ H (f ρ h) := c'
    rw [e1] at c2
    exact c2 φ1 v H1 st rep1 p
theorem pw_and2 (ha : PT X ea (rdB g W (tE f))) (hb : PW X (.BoolOp .And (eb :: rest) pos) (rdB g W (tE k))) : PW X (.BoolOp .And (ea :: eb :: rest) pos) (rdB g W (tE (vAnd f k))) := by
  refine ⟨fun wh pins s σ H Q I ⟨x, φ, ρ, h, rs, rep, c⟩ => (pw_and ha hb).run wh pins s σ H Q I ?_⟩
  rw [tAnd_eq] at c
  refine RD.bind (k := fun ρ b h => if b = true then tE k ρ h else Rs.ok false h) KB.mono rs rep c fun b H1 φ1 h1 a s1 rs1 rep1 p1 c1 => ?_
  rw [show b = a from p1]
  cases a with
  | true => exact ⟨x, φ1, ρ, h1, rs1, rep1, c1⟩
  | false => exact c1 φ1 false H1 Step.refl rep1 rfl
theorem pw_or2 (ha : PT X ea (rdB g W (tE f))) (hb : PW X (.BoolOp .Or (eb :: rest) pos) (rdB g W (tE k))) : PW X (.BoolOp .Or (ea :: eb :: rest) pos) (rdB g W (tE (vOr f k))) := by
  refine ⟨fun wh pins s σ H Q I ⟨x, φ, ρ, h, rs, rep, c⟩ => (pw_or ha hb).run wh pins s σ H Q I ?_⟩
  rw [tOr_eq] at c
  refine RD.bind (k := fun ρ b h => if b = true then Rs.ok true h else tE k ρ h) KB.mono rs rep c fun b H1 φ1 h1 a s1 rs1 rep1 p1 c1 => ?_
  rw [show b = a from p1]
  cases a with
  | false => exact ⟨x, φ1, ρ, h1, rs1, rep1, c1⟩
  | true => exact c1 φ1 true H1 Step.refl rep1 rfl
theorem pe_ife2 {c0 : Expr} (hc : PT X c0 (rdB g W (tE f))) (ha : PE X ea (rdE g W k)) (hb : PE X eb (rdE g W l)) : PE X (.IfExp c0 ea eb pos) (rdE g W (vIf f k l)) := PE.imp (pe_ifExp hc ha hb) fun σ H Q ⟨x, φ, ρ, h, rs, rep, c⟩ => by
  simp only [vIf] at c
  refine RD.bind (k := fun ρ b h => if b = true then k ρ h else l ρ h) KV.mono rs rep c fun b H1 φ1 h1 a s1 rs1 rep1 p1 c1 => ?_
  rw [show b = a from p1]
  cases a with
  | true => exact ⟨x, φ1, ρ, h1, rs1, rep1, c1⟩
  | false => exact ⟨x, φ1, ρ, h1, rs1, rep1, c1⟩
theorem pt_ife2 {c0 : Expr} (hc : PT X c0 (rdB g W (tE f))) (ha : PT X ea (rdB g W (tE k))) (hb : PT X eb (rdB g W (tE l))) : PT X (.IfExp c0 ea eb pos) (rdB g W (tE (vIf f k l))) := by
  refine ⟨fun pins s σ H Q I ⟨x, φ, ρ, h, rs, rep, c⟩ => ?_⟩
  rw [tIf_eq] at c
  have hh : rdB g W (tE f) σ H fun b H1 => if b = true then rdB g W (tE k) σ H1 Q else rdB g W (tE l) σ H1 Q := by
    refine RD.bind (k := fun ρ b h => if b = true then tE k ρ h else tE l ρ h) KB.mono rs rep c fun b H1 φ1 h1 a s1 rs1 rep1 p1 c1 => ?_
    rw [show b = a from p1]
    cases a with
    | true => exact ⟨x, φ1, ρ, h1, rs1, rep1, c1⟩
    | false => exact ⟨x, φ1, ρ, h1, rs1, rep1, c1⟩
  refine isTrue_IfExp (thn (hc.run pins s σ H _ I hh) fun b s1 ⟨H1, I1, q1⟩ => ?_)
  cases b with
  | true => exact ha.run pins s1 σ H1 Q I1 q1
  | false => exact hb.run pins s1 σ H1 Q I1 q1
end
end VM

/-! Calls: a frame within a frame. -/
namespace VM
open PySem PySem.Spec PyProof.Rows L2
theorem pick_ok {h : Hs} : ∀ {ns : List Nat} {os : Hs}, pick h ns = some os → os.length = ns.length ∧ ∀ (j n : Nat), ns[j]? = some n → ∃ o, h[n]? = some o ∧ os[j]? = some o ∧ o ≠ MO.dead
  | [], os, e => by
    cases e
    exact ⟨rfl, fun j n h => by simp at h⟩
  | m :: ns, os, e => by
    unfold pick at e
    cases e1 : h[m]? with
    | none => rw [e1] at e; cases e
    | some o =>
      cases e2 : pick h ns with
      | none => rw [e1, e2] at e; cases o <;> cases e
      | some os' =>
        rw [e1, e2] at e
        obtain ⟨h1, h2⟩ := pick_ok e2
        have nd : o ≠ .dead ∧ os = o :: os' := by cases o <;> first | (cases e; done) | (cases e; exact ⟨by simp, rfl⟩)
        obtain ⟨nd, rfl⟩ := nd
        refine ⟨by simp [h1], fun j n hj => ?_⟩
        cases j with
        | zero => simp at hj; subst hj; exact ⟨o, e1, rfl, nd⟩
        | succ j => exact h2 j n (by simpa using hj)
theorem putBack_len {α : Type} : ∀ (ns : List Nat) (os h : List α), (putBack h ns os).length = h.length
  | [], _, _ => by simp [putBack]
  | _ :: _, [], _ => by simp [putBack]
  | n :: ns, o :: os, h => by
    show (putBack (h.set n o) ns os).length = h.length
    rw [putBack_len ns os, List.length_set]
theorem putBack_off {α : Type} {m : Nat} : ∀ (ns : List Nat) (os h : List α), m ∉ ns → (putBack h ns os)[m]? = h[m]?
  | [], _, _, _ => by simp [putBack]
  | _ :: _, [], _, _ => by simp [putBack]
  | n :: ns, o :: os, h, hm => by
    show (putBack (h.set n o) ns os)[m]? = h[m]?
    rw [putBack_off ns os _ (fun q => hm (List.mem_cons_of_mem _ q)), List.getElem?_set_ne (fun q => hm (by rw [q]; exact List.mem_cons_self))]
theorem putBack_at {α : Type} : ∀ (ns : List Nat) (os h : List α) (j n : Nat), ns.Nodup → ns[j]? = some n → n < h.length → j < os.length → (putBack h ns os)[n]? = os[j]?
  | [], _, _, _, _, _, e, _, _ => by simp at e
  | _ :: _, [], _, _, _, _, _, _, hj => by simp at hj
  | m :: ns, o :: os, h, 0, n, nd, e, hn, hj => by
    simp at e
    subst e
    show (putBack (h.set m o) ns os)[m]? = _
    rw [putBack_off ns os _ (List.nodup_cons.mp nd).1, List.getElem?_set_self hn]
    rfl
  | m :: ns, o :: os, h, j + 1, n, nd, e, hn, hj => by
    show (putBack (h.set m o) ns os)[n]? = _
    rw [putBack_at ns os (h.set m o) j n (List.nodup_cons.mp nd).2 (by simpa using e) (by rw [List.length_set]; exact hn) (by simpa using hj)]
    simp
theorem ndup_ok : ∀ {ns : List Nat}, ndup ns = true → ns.Nodup
  | [], _ => List.nodup_nil
  | n :: ns, h => by
    obtain ⟨h1, h2⟩ := Bool.and_eq_true_iff.mp (show (!ns.contains n && ndup ns) = true from h)
    refine List.nodup_cons.mpr ⟨fun q => ?_, ndup_ok h2⟩
    have : ns.contains n = true := by simpa using q
    rw [this] at h1
    cases h1
/-- entries of which some are gone -/
theorem thin_sub : ∀ {φ φ' : Phi}, φ'.length = φ.length → (∀ (n : Nat) (l : OA), φ'[n]? = some (some l) → φ[n]? = some (some l)) → (φ'.filterMap id).flatten.Sublist (φ.filterMap id).flatten
  | [], [], _, _ => List.Sublist.refl _
  | [], _ :: _, h, _ => by simp at h
  | _ :: _, [], h, _ => by simp at h
  | o :: φ, o' :: φ', h, k => by
    have ih := thin_sub (φ := φ) (φ' := φ') (by simpa using h) fun n l e => by simpa using k (n + 1) l (by simpa using e)
    cases o' with
    | none =>
      cases o with
      | none => simpa using ih
      | some l =>
        have : ((some l :: φ).filterMap id).flatten = l ++ (φ.filterMap id).flatten := by simp
        rw [this]
        exact List.Sublist.trans (by simpa using ih) (List.sublist_append_right _ _)
    | some l' =>
      have e : o = some l' := by simpa using k 0 l' rfl
      subst e
      have : ∀ ψ : Phi, ((some l' :: ψ).filterMap id).flatten = l' ++ (ψ.filterMap id).flatten := by simp
      rw [this, this]
      exact List.Sublist.append (List.Sublist.refl _) ih
section
variable {g : GS} {x : Addr → Prop} {φ : Phi} {h : Hs} {H : Hp}
theorem RepH.alive (r : RepH g x φ h H) {n : Nat} {o : MO} (e : h[n]? = some o) (nd : o ≠ .dead) : ∃ l, φ[n]? = some (some l) ∧ RepO g (ow φ x) H o l := by
  cases q : φ[n]? with
  | none =>
    rw [List.getElem?_eq_none_iff, r.len] at q
    rw [List.getElem?_eq_none q] at e
    cases e
  | some w =>
    cases w with
    | none =>
      rw [r.dead n q] at e
      exact absurd (Option.some.inj e).symm nd
    | some l =>
      obtain ⟨ob, e1, z⟩ := r.at_ n l q
      rw [e] at e1
      cases e1
      exact ⟨l, rfl, z⟩
/-- the callee's own objects: those handed to it -/
def subPhi (φ : Phi) (ns : List Nat) : Phi := ns.map fun n => (φ[n]?).getD none
/-- .. and what it may not touch: the rest -/
def subX (φ : Phi) (x : Addr → Prop) (ns : List Nat) : Addr → Prop := fun a => ow φ x a ∧ ¬ own (subPhi φ ns) a
theorem sub_at {ns : List Nat} {j n : Nat} (e : ns[j]? = some n) : (subPhi φ ns)[j]? = some ((φ[n]?).getD none) := by
  unfold subPhi
  rw [List.getElem?_map, e]
  rfl
theorem sub_own {ns : List Nat} {a : Addr} (o : own (subPhi φ ns) a) : own φ a := by
  obtain ⟨l, hl, ha⟩ := o
  obtain ⟨n, hn, e⟩ := List.mem_map.mp hl
  cases q : φ[n]? with
  | none => rw [q] at e; cases e
  | some w =>
    rw [q] at e
    have e : w = some l := e
    subst e
    exact own_at q ha
theorem sub_ow {ns : List Nat} {a : Addr} (o : ow (subPhi φ ns) (subX φ x ns) a) : ow φ x a := o.elim (fun q => .inl (sub_own q)) fun q => q.1
theorem sub_nd : ∀ {ns : List Nat}, ns.Nodup → (φ.filterMap id).flatten.Nodup → ((subPhi φ ns).filterMap id).flatten.Nodup
  | [], _, _ => by simp [subPhi]
  | n :: ns, nd, h => by
    have ih := sub_nd (List.nodup_cons.mp nd).2 h
    show (((φ[n]?).getD none :: subPhi φ ns).filterMap id).flatten.Nodup
    cases q : φ[n]? with
    | none => simpa using ih
    | some w =>
      cases w with
      | none => simpa using ih
      | some l =>
        have : ((some l :: subPhi φ ns).filterMap id).flatten = l ++ ((subPhi φ ns).filterMap id).flatten := by simp
        show ((some l :: subPhi φ ns).filterMap id).flatten.Nodup
        rw [this, List.nodup_append]
        refine ⟨?_, ih, fun a ha b hb e => ?_⟩
        · have s1 : l.Sublist (φ.filterMap id).flatten := by
            have : l ∈ φ.filterMap id := List.mem_filterMap.mpr ⟨some l, List.mem_of_getElem? q, rfl⟩
            exact List.sublist_flatten_of_mem this
          exact s1.nodup h
        · subst e
          obtain ⟨l', hl', ha'⟩ := own_mem.mpr hb
          obtain ⟨m, hm, e⟩ := List.mem_map.mp hl'
          cases q2 : φ[m]? with
          | none => rw [q2] at e; cases e
          | some w =>
            rw [q2] at e
            have e : w = some l' := e
            subst e
            have := disj h q q2 ha ha'
            subst this
            exact (List.nodup_cons.mp nd).1 hm
theorem sub_rep {ns : List Nat} {os : Hs} (r : RepH g x φ h H) (nd : ns.Nodup) (e : pick h ns = some os) : RepH g (subX φ x ns) (subPhi φ ns) os H := by
  obtain ⟨h1, h2⟩ := pick_ok e
  have al : ∀ (j : Nat) (w : Option OA), (subPhi φ ns)[j]? = some w → ∃ n o l, ns[j]? = some n ∧ os[j]? = some o ∧ w = some l ∧ φ[n]? = some (some l) ∧ RepO g (ow φ x) H o l := by
    intro j w hj
    have hlt : j < ns.length := by
      have := (List.getElem?_eq_some_iff.mp hj).1
      unfold subPhi at this
      simpa using this
    have hn : ns[j]? = some ns[j] := List.getElem?_eq_getElem hlt
    obtain ⟨o, e1, e2, e3⟩ := h2 j _ hn
    obtain ⟨l, e4, e5⟩ := r.alive e1 e3
    rw [sub_at hn, e4] at hj
    exact ⟨_, o, l, hn, e2, (Option.some.inj hj).symm, e4, e5⟩
  refine ⟨by unfold subPhi; rw [List.length_map, h1], fun j l hj => ?_, fun j hj => ?_, sub_nd nd r.nd, fun a ha q => q.2 ha, fun a q => ?_⟩
  · obtain ⟨n, o, l', _, e2, e3, e4, e5⟩ := al j _ hj
    cases e3
    exact ⟨o, e2, e5.keep (Keep.weak fun a => sub_ow) fun _ _ => rfl⟩
  · obtain ⟨n, o, l', _, e2, e3, _⟩ := al j _ hj
    cases e3
  · rcases q.1 with q | q
    · exact r.there q
    · exact r.xs a q
theorem sub_den : ∀ {as : List S} {vs : List V} {k : Nat} {φc : Phi} {x' : Addr → Prop}, (∀ a, ow φc x' a → ow φ x a) → (∀ j n, (refsOf as)[j]? = some n → φc[k + j]? = φ[n]?) → DenSs g x φ H as vs → DenSs g x' φc H (renum k as) vs
  | [], _, _, _, _, _, _, d => d
  | .v u :: as, _, k, φc, x', w, p, ⟨v, vs, e, d, ds⟩ => ⟨v, vs, e, Den.weak w d, sub_den w p ds⟩
  | .r n :: as, _, k, φc, x', w, p, ⟨v, vs, e, d, ds⟩ => by
    refine ⟨v, vs, e, ?_, sub_den (k := k + 1) w (fun j m hj => ?_) ds⟩
    · have p0 : φc[k]? = φ[n]? := p 0 n rfl
      refine ⟨?_, fun l hl => d.2 l (by rw [← p0]; exact hl)⟩
      have : φ[n]?.isSome = true := by rw [List.getElem?_eq_getElem d.1]; rfl
      rw [← p0] at this
      cases q : φc[k]? with
      | none => rw [q] at this; cases this
      | some _ => exact (List.getElem?_eq_some_iff.mp q).1
    · have := p (j + 1) m (by show (n :: refsOf as)[j + 1]? = some m; simpa using hj)
      rw [← this]
      congr 1
      omega
/-- back from the callee: what it holds behind, laid into the caller's -/
theorem sub_back {ns : List Nat} {os os' : Hs} {φc' : Phi} {H' : Hp} {ext : Phi} {obs : Hs} (r : RepH g x φ h H) (nd : ns.Nodup) (e : pick h ns = some os) (st : Step (subPhi φ ns) H φc' H') (hl : os'.length = ns.length) (hc : φc'.length = os'.length) (he : ext.length = obs.length)
    (hx : ∀ a, own ext a → H a = none) (rc : RepH g (subX φ x ns) (φc' ++ ext) (os' ++ obs) H') :
    RepH g x (putBack φ ns φc' ++ ext) (putBack h ns os' ++ obs) H' ∧ Step φ H (putBack φ ns φc') H' ∧ (∀ a, ow (putBack φ ns φc' ++ ext) x a ↔ ow (φc' ++ ext) (subX φ x ns) a) ∧ ∀ (j n : Nat), ns[j]? = some n → (putBack φ ns φc')[n]? = φc'[j]? := by
  obtain ⟨h1, h2⟩ := pick_ok e
  have hlt : ∀ (j n : Nat), ns[j]? = some n → n < φ.length := fun j n hj => by
    obtain ⟨o, e1, _⟩ := h2 j n hj
    rw [r.len]
    exact (List.getElem?_eq_some_iff.mp e1).1
  have at1 : ∀ (j n : Nat), ns[j]? = some n → (putBack φ ns φc')[n]? = φc'[j]? := fun j n hj => putBack_at ns φc' φ j n nd hj (hlt j n hj) (by rw [hc, hl]; exact (List.getElem?_eq_some_iff.mp hj).1)
  have bk : ∀ (n : Nat) (l : OA), (putBack φ ns φc')[n]? = some (some l) → φ[n]? = some (some l) := fun n l q => by
    by_cases hn : n ∈ ns
    · obtain ⟨j, hj⟩ := List.getElem?_of_mem hn
      rw [at1 j n hj] at q
      have hjc : j < (subPhi φ ns).length := by
        unfold subPhi
        rw [List.length_map]
        exact (List.getElem?_eq_some_iff.mp hj).1
      have q2 := st.back j l hjc q
      rw [sub_at hj] at q2
      cases q3 : φ[n]? with
      | none => rw [q3] at q2; cases q2
      | some w => rw [q3] at q2; exact congrArg some (Option.some.inj q2)
    · rw [putBack_off ns φc' φ hn] at q
      exact q
  have ownB : ∀ a, own (putBack φ ns φc') a → own φ a := fun a ⟨l, hl, ha⟩ => by
    obtain ⟨n, hn⟩ := List.getElem?_of_mem hl
    exact own_at (bk n l hn) ha
  have ownA : ∀ {ψ : Phi} {a : Addr}, own (ψ ++ ext) a ↔ own ψ a ∨ own ext a := fun {ψ a} => by
    constructor
    · rintro ⟨l, hl, ha⟩
      rcases List.mem_append.mp hl with hl | hl
      · exact .inl ⟨l, hl, ha⟩
      · exact .inr ⟨l, hl, ha⟩
    · rintro (⟨l, hl, ha⟩ | ⟨l, hl, ha⟩)
      · exact ⟨l, List.mem_append_left _ hl, ha⟩
      · exact ⟨l, List.mem_append_right _ hl, ha⟩
  have notC : ∀ {n : Nat} {l : OA} {a : Addr}, φ[n]? = some (some l) → a ∈ l → n ∉ ns → ¬ own (subPhi φ ns) a := fun {n l a} q ha hn ⟨l', hl', ha'⟩ => by
    obtain ⟨m, hm, e⟩ := List.mem_map.mp hl'
    cases q2 : φ[m]? with
    | none => rw [q2] at e; cases e
    | some w =>
      rw [q2] at e
      have e : w = some l' := e
      subst e
      have := disj r.nd q q2 ha ha'
      subst this
      exact hn hm
  have iff1 : ∀ a, ow (putBack φ ns φc' ++ ext) x a ↔ ow (φc' ++ ext) (subX φ x ns) a := by
    intro a
    constructor
    · rintro (q | q)
      · rcases ownA.mp q with ⟨l, hl', ha⟩ | q
        · obtain ⟨n, hn⟩ := List.getElem?_of_mem hl'
          by_cases hm : n ∈ ns
          · obtain ⟨j, hj⟩ := List.getElem?_of_mem hm
            rw [at1 j n hj] at hn
            exact .inl (ownA.mpr (.inl (own_at hn ha)))
          · have hb := bk n l hn
            exact .inr ⟨.inl (own_at hb ha), notC hb ha hm⟩
        · exact .inl (ownA.mpr (.inr q))
      · exact .inr ⟨.inr q, fun z => r.apart a (sub_own z) q⟩
    · rintro (q | ⟨q, z⟩)
      · rcases ownA.mp q with ⟨l, hl', ha⟩ | q
        · obtain ⟨j, hj⟩ := List.getElem?_of_mem hl'
          have hjn : j < ns.length := by rw [← hl, ← hc]; exact (List.getElem?_eq_some_iff.mp hj).1
          have hn : ns[j]? = some ns[j] := List.getElem?_eq_getElem hjn
          rw [← at1 j _ hn] at hj
          exact .inl (ownA.mpr (.inl (own_at hj ha)))
        · exact .inl (ownA.mpr (.inr q))
      · rcases q with ⟨l, hl', ha⟩ | q
        · obtain ⟨n, hn⟩ := List.getElem?_of_mem hl'
          have hm : n ∉ ns := fun hm => z (by
            obtain ⟨j, hj⟩ := List.getElem?_of_mem hm
            have := sub_at (φ := φ) hj
            rw [hn] at this
            exact own_at this ha)
          have : (putBack φ ns φc')[n]? = some (some l) := by rw [putBack_off ns φc' φ hm]; exact hn
          exact .inl (ownA.mpr (.inl (own_at this ha)))
        · exact .inr q
  have stp : Step φ H (putBack φ ns φc') H' := ⟨fun a n q => st.same a (fun z => n (sub_own z)) q, st.grow, fun a q => .inl (ownB a q), Nat.le_of_eq (putBack_len ns φc' φ).symm, fun n l _ q => bk n l q, fresh_le (Nat.le_of_eq (putBack_len ns φc' φ))⟩
  have kp : Keep (ow φ x) H (ow (putBack φ ns φc' ++ ext) x) H' := ⟨fun a n q => stp.same a (fun z => n (.inl z)) q, stp.grow, fun a q => by
    rcases q with q | q
    · rcases ownA.mp q with q | q
      · exact .inl (.inl (ownB a q))
      · exact .inr (hx a q)
    · exact .inl (.inr q)⟩
  have pl : (putBack φ ns φc').length = (putBack h ns os').length := by rw [putBack_len, putBack_len, r.len]
  refine ⟨⟨by rw [List.length_append, List.length_append, pl, he], fun n l q => ?_, fun n q => ?_, ?_, fun a q => ?_, fun a q => stp.grow a (r.xs a q)⟩, stp, iff1, at1⟩
  · by_cases hn : n < (putBack φ ns φc').length
    · rw [List.getElem?_append_left hn] at q
      rw [List.getElem?_append_left (by rw [← pl]; exact hn)]
      by_cases hm : n ∈ ns
      · obtain ⟨j, hj⟩ := List.getElem?_of_mem hm
        rw [at1 j n hj] at q
        have hjc : j < φc'.length := (List.getElem?_eq_some_iff.mp q).1
        obtain ⟨ob, e1, z⟩ := rc.at_ j l (by rw [List.getElem?_append_left hjc]; exact q)
        rw [List.getElem?_append_left (by rw [← hc]; exact hjc)] at e1
        refine ⟨ob, ?_, z.keep (Keep.weak fun a => (iff1 a).mp) fun _ _ => rfl⟩
        rw [putBack_at ns os' h j n nd hj (by rw [← r.len]; exact hlt j n hj) (by rw [← hc]; exact hjc)]
        exact e1
      · have hb := bk n l q
        obtain ⟨ob, e1, z⟩ := r.at_ n l hb
        exact ⟨ob, by rw [putBack_off ns os' h hm]; exact e1, z.keep kp fun a ha => st.same a (notC hb ha hm) (z.there a ha)⟩
    · rw [List.getElem?_append_right (by omega)] at q
      rw [List.getElem?_append_right (by rw [← pl]; omega), ← pl]
      obtain ⟨ob, e1, z⟩ := rc.at_ (φc'.length + (n - (putBack φ ns φc').length)) l (by rw [List.getElem?_append_right (by omega)]; simpa using q)
      rw [List.getElem?_append_right (by omega)] at e1
      refine ⟨ob, ?_, z.keep (Keep.weak fun a => (iff1 a).mp) fun _ _ => rfl⟩
      rw [← e1]
      congr 1
      omega
  · by_cases hn : n < (putBack φ ns φc').length
    · rw [List.getElem?_append_left hn] at q
      rw [List.getElem?_append_left (by rw [← pl]; exact hn)]
      by_cases hm : n ∈ ns
      · obtain ⟨j, hj⟩ := List.getElem?_of_mem hm
        rw [at1 j n hj] at q
        have hjc : j < φc'.length := (List.getElem?_eq_some_iff.mp q).1
        have e1 := rc.dead j (by rw [List.getElem?_append_left hjc]; exact q)
        rw [List.getElem?_append_left (by rw [← hc]; exact hjc)] at e1
        rw [putBack_at ns os' h j n nd hj (by rw [← r.len]; exact hlt j n hj) (by rw [← hc]; exact hjc)]
        exact e1
      · rw [putBack_off ns φc' φ hm] at q
        rw [putBack_off ns os' h hm]
        exact r.dead n q
    · rw [List.getElem?_append_right (by omega)] at q
      rw [List.getElem?_append_right (by rw [← pl]; omega), ← pl]
      have e1 := rc.dead (φc'.length + (n - (putBack φ ns φc').length)) (by rw [List.getElem?_append_right (by omega)]; simpa using q)
      rw [List.getElem?_append_right (by omega)] at e1
      rw [← e1]
      congr 1
      omega
  · have e1 : ((putBack φ ns φc' ++ ext).filterMap id).flatten = ((putBack φ ns φc').filterMap id).flatten ++ (ext.filterMap id).flatten := by rw [List.filterMap_append, List.flatten_append]
    have e2 : ((φc' ++ ext).filterMap id).flatten = (φc'.filterMap id).flatten ++ (ext.filterMap id).flatten := by rw [List.filterMap_append, List.flatten_append]
    have n2 := rc.nd
    rw [e2, List.nodup_append] at n2
    rw [e1, List.nodup_append]
    refine ⟨(thin_sub (putBack_len ns φc' φ) bk).nodup r.nd, n2.2.1, fun a ha b hb e => ?_⟩
    subst e
    exact r.there (ownB a (own_mem.mpr ha)) (hx a (own_mem.mpr hb))
  · rcases ownA.mp q with q | q
    · exact r.apart a (ownB a q)
    · exact fun z => r.xs a z (hx a q)
end
end VM

/-! A def's promise; its calls. -/
namespace VM
open PySem PySem.Spec PyProof.Rows L2
/-- a def's promise: what the machine says of it -/
def spV (g : GS) (c : CC) (f np : Nat) : Sp := fun vs H Q E => vs.length = np ∧ ∃ x φ ss os, DenSs g x φ H ss vs ∧ RepH g x φ os H ∧ Cond g x (fun cls d _ H' => E cls d H') KV [] Q φ H (c.call f ss os)
section
variable {g : GS} {x : Addr → Prop} {φ : Phi} {h : Hs} {H : Hp} {W : WX} {σ : L2.St} {Q : VK}
theorem doCall_ok {c : CC} {f np : Nat} {as : List S} {vs : List V} (rep : RepH g x φ h H) (d : DenSs g x φ H as vs) (l : vs.length = np) (cd : Cond g x W KV σ Q φ H (doCall c f as h)) : spV g c f np vs H Q (fun cls d H' => W cls d σ H') := by
  unfold doCall at cd
  split at cd
  · rename_i e0
    have nd := ndup_ok e0
    cases e1 : pick h (refsOf as) with
    | none => rw [e1] at cd; exact cd.elim
    | some os =>
      rw [e1] at cd
      dsimp only at cd
      have d' : DenSs g (subX φ x (refsOf as)) (subPhi φ (refsOf as)) H (renum 0 as) vs := sub_den (fun a => sub_ow) (fun j n hj => by
        obtain ⟨h1, h2⟩ := pick_ok e1
        obtain ⟨o, e2, _, e3⟩ := h2 j n hj
        obtain ⟨l, e4, _⟩ := rep.alive e2 e3
        rw [Nat.zero_add, sub_at hj, e4]
        rfl) d
      refine ⟨l, subX φ x (refsOf as), subPhi φ (refsOf as), renum 0 as, os, d', sub_rep rep nd e1, ?_⟩
      have sl : (subPhi φ (refsOf as)).length = (refsOf as).length := by unfold subPhi; rw [List.length_map]
      cases e2 : c.call f (renum 0 as) os with
      | bad => rw [e2] at cd; exact cd.elim
      | ex e os' =>
        rw [e2] at cd
        have cd : Cond g x W KV σ Q φ H (if os'.length = (refsOf as).length then .ex e (putBack h (refsOf as) os') else .bad) := cd
        split at cd
        · rename_i hl
          intro φ' H' cls dd st rep' ev
          obtain ⟨r1, s1, _⟩ := sub_back (ext := []) (obs := []) rep nd e1 st hl rep'.len rfl (fun a ⟨l, hl, _⟩ => by cases hl) (by rw [List.append_nil, List.append_nil]; exact rep')
          rw [List.append_nil, List.append_nil] at r1
          exact cd _ H' cls dd s1 r1 ev
        · exact cd.elim
      | ok rv os' =>
        rw [e2] at cd
        have cd : Cond g x W KV σ Q φ H (if os'.length = (refsOf as).length then backR (refsOf as) (putBack h (refsOf as) os') rv else .bad) := cd
        split at cd
        · rename_i hl
          intro φ' v H' st rep' p
          obtain ⟨r1, s1, i1, a1⟩ := sub_back (ext := []) (obs := []) rep nd e1 st hl rep'.len rfl (fun a ⟨l, hl, _⟩ => by cases hl) (by rw [List.append_nil, List.append_nil]; exact rep')
          rw [List.append_nil, List.append_nil] at r1
          cases rv with
          | v u => exact cd _ v H' s1 r1 (show Den g _ H' u v from Den.weak (fun a q => by
              have := (i1 a).mp (by rw [List.append_nil]; exact q)
              rw [List.append_nil] at this
              exact this) (show Den g _ H' u v from p))
          | r k =>
            cases e3 : (refsOf as)[k]? with
            | none =>
              have cd : Cond g x W KV σ Q φ H (match (refsOf as)[k]? with
                | some n => Rs.ok (.r n) (putBack h (refsOf as) os')
                | none => .bad) := cd
              rw [e3] at cd
              exact cd.elim
            | some n =>
              have cd : Cond g x W KV σ Q φ H (match (refsOf as)[k]? with
                | some n => Rs.ok (.r n) (putBack h (refsOf as) os')
                | none => .bad) := cd
              rw [e3] at cd
              obtain ⟨p1, p2⟩ : k < φ'.length ∧ ∀ l, φ'[k]? = some (some l) → v = .ref (hd l) := p
              refine cd _ v H' s1 r1 ⟨?_, fun l hl => p2 l ((a1 k n e3).symm.trans hl)⟩
              obtain ⟨h1, h2⟩ := pick_ok e1
              obtain ⟨o, e4, _⟩ := h2 k n e3
              rw [putBack_len, rep.len]
              exact (List.getElem?_eq_some_iff.mp e4).1
          | nw ob =>
            obtain ⟨l, rp, hv, hlf⟩ := p
            obtain ⟨r2, _, i2, _⟩ := sub_back (ext := [some l]) (obs := [ob]) rep nd e1 st hl rep'.len rfl (fun a ⟨l', hl', ha⟩ => by
              simp at hl'
              subst hl'
              exact hlf a ha) rp
            cases ob with
            | ins cc fs kd => exact cd _ v H' (s1.skip hlf) r2 ⟨by simp [putBack_len, rep.len], fun m hm => by
                have e9 : (putBack h (refsOf as) os').length = (putBack φ (refsOf as) φ').length := by rw [putBack_len, putBack_len, rep.len]
                rw [e9] at hm
                simp at hm
                rw [← hm]
                exact hv⟩
            | lst us => exact cd _ v H' s1 r1 ⟨l, r2, hv, hlf⟩
            | lck us => exact cd _ v H' s1 r1 ⟨l, r2, hv, hlf⟩
            | kt us => exact cd _ v H' s1 r1 ⟨l, r2, hv, hlf⟩
            | dct us => exact cd _ v H' s1 r1 ⟨l, r2, hv, hlf⟩
            | dead => exact cd _ v H' s1 r1 ⟨l, r2, hv, hlf⟩
        · exact cd.elim
  · exact cd.elim
end
end VM

/-! Argument lists, displays, slices, built-in calls, methods, chains. -/
namespace VM
open PySem PySem.Spec PyProof.Rows L2
def notStar : Expr → Bool
  | .Starred _ _ => false
  | _ => true
theorem star_cons {e : Expr} {es : List Expr} {env : Env} (h : notStar e = true) : starEach (e :: es) env = (false, eval e env) :: starEach es env := by
  cases e <;> first | rfl | (cases h; done)
theorem star_pl {es : List Expr} {env : Env} (h : es.all notStar = true) : ∀ q ∈ starEach es env, q.1 = false := by
  induction es with
  | nil => intro q hq; cases hq
  | cons e es ih =>
    obtain ⟨h1, h2⟩ := Bool.and_eq_true_iff.mp (show (notStar e && es.all notStar) = true from h)
    rw [star_cons h1]
    intro q hq
    rcases List.mem_cons.mp hq with rfl | hq
    · rfl
    · exact ih h2 q hq
theorem back_pl {pos : Pos} {l : List (Bool × Sem Value)} (h : ∀ q ∈ l, q.1 = false) : (backTo pos l).any (·.1) = false := by
  rw [List.any_eq_false]
  intro q hq
  unfold backTo at hq
  obtain ⟨q', hq', rfl⟩ := List.mem_map.mp hq
  rw [show (_ : Bool × Sem Value).1 = q'.1 from rfl, h q' hq']
  decide
theorem back_all {pos : Pos} {l : List (Bool × Sem Value)} (h : ∀ q ∈ l, q.1 = false) : (backTo pos l).all (fun x => !x.1) = true := by
  rw [List.all_eq_true]
  intro q hq
  unfold backTo at hq
  obtain ⟨q', hq', rfl⟩ := List.mem_map.mp hq
  rw [show (_ : Bool × Sem Value).1 = q'.1 from rfl, h q' hq']
  rfl
def noC0 : Expr → Bool
  | .Call (.Name _ _) [] [] _ => false
  | _ => true
theorem base_pl {o : Expr} {x : Str} {env : Env} {w : Sem Value} (h : noC0 o = true) : attributeBase o x env w = w := by
  unfold attributeBase
  split
  · cases h
  · rfl
theorem allU_ok {g : GS} {x : Addr → Prop} {φ : Phi} {H : Hp} : ∀ {ss : List S} {us : List U} {vs : List V}, allU ss = some us → DenSs g x φ H ss vs → DenL g (ow φ x) H us vs
  | [], us, vs, e, d => by cases e; exact d
  | s :: ss, us, vs, e, d => by
    obtain ⟨w, ws, rfl, d1, d2⟩ := d
    unfold allU at e
    cases s with
    | r n => cases e
    | v u =>
      cases e2 : allU ss with
      | none => rw [e2] at e; cases e
      | some us' =>
        rw [e2] at e
        cases e
        exact ⟨w, ws, rfl, d1, allU_ok e2 d2⟩
theorem DenSs.len {g : GS} {x : Addr → Prop} {φ : Phi} {H : Hp} : ∀ {ss : List S} {vs : List V}, DenSs g x φ H ss vs → vs.length = ss.length
  | [], vs, d => by rw [show vs = [] from d]; rfl
  | s :: ss, vs, ⟨w, ws, e, _, d⟩ => by rw [e, List.length_cons, List.length_cons, DenSs.len d]
section
variable {X : Cx} {g : GS} {W : WX} {e ea eb ec : Expr} {es : List Expr} {f k l : EvE} {fs : EvL} {pos p : Pos}
abbrev rdU (g : GS) (W : WX) (f : Rho → Hs → Rs (List U)) : TA := RD g W KU f
theorem pa_nil2 : PA X [] (rdL g W vNil) := PA.imp pa_nil fun σ H Q ⟨x, φ, ρ, h, rs, rep, c⟩ => c φ [] H Step.refl rep rfl
theorem pa_cons2 (hn : notStar e = true) (ha : PE X e (rdE g W f)) (hb : PA X es (rdL g W fs)) : PA X (e :: es) (rdL g W (vCons f fs)) :=
  PA.imp (pa_cons (pe_s ha) hb (star_cons hn)) fun σ H Q ⟨x, φ, ρ, h, rs, rep, c⟩ => by
    refine RD.bind (k := fun ρ s h => (fs ρ h).bind fun ss h => .ok (s :: ss) h) KL.mono rs rep c fun b1 H1 φ1 h1 s1 st1 rs1 rep1 p1 c1 => ?_
    refine RD.bind (k := fun ρ ss h => .ok (s1 :: ss) h) KL.mono rs1 rep1 c1 fun b2 H2 φ2 h2 s2 st2 rs2 rep2 p2 c2 => ?_
    exact c2 φ2 (b1 :: b2) H2 Step.refl rep2 ⟨b1, b2, rfl, DenS.step st2 p1, p2⟩
theorem pa_u (ha : PA X es (rdL g W fs)) : PA X es (rdU g W (usE fs)) := PA.imp ha fun σ H Q ⟨x, φ, ρ, h, rs, rep, c⟩ => by
  refine ⟨x, φ, ρ, h, rs, rep, ?_⟩
  have c : Cond g x W KU σ Q φ H ((fs ρ h).bind fun ss h => ofO h (allU ss)) := c
  cases e1 : fs ρ h with
  | bad => rw [e1] at c; exact c
  | ex z h1 => rw [e1] at c; exact c
  | ok r h1 =>
    rw [e1] at c
    intro φ' v H' st rep' p
    obtain ⟨s, e2, q⟩ := Cond.ofO (show Cond g x W KU σ Q φ H (ofO h1 (allU r)) from c)
    exact q φ' v H' st rep' (allU_ok e2 p)
theorem lim_le {n : Nat} (h : n ≤ lim) : n ≤ sizeLine := by rw [sizeLine_eq]; exact h
theorem pe_tup2 {x1} (ha : PA X es (rdL g W fs)) : PE X (.Tuple es x1 pos) (rdE g W (vTup fs)) := PE.imp (pe_tup (pa_u ha)) fun σ H Q ⟨x, φ, ρ, h, rs, rep, c⟩ => by
  refine RD.bind (k := fun ρ us h => if us.length ≤ lim then .ok (.v (.tup us)) h else .bad) KV.mono rs rep c fun b1 H1 φ1 h1 us st1 rs1 rep1 p1 c1 => ?_
  have c1 : Cond g x W KV σ Q φ1 H1 (if us.length ≤ lim then .ok (.v (.tup us)) h1 else .bad) := c1
  split at c1
  · rename_i hl
    refine ⟨by rw [← p1.len]; exact lim_le hl, fun p hp => ?_⟩
    obtain ⟨s1, r1, d1⟩ := new_tup rep1 hp p1
    exact c1 φ1 _ _ s1 r1 d1
  · exact c1.elim
theorem pe_lst2 (ha : PA X es (rdL g W fs)) : PE X (.List es pos) (rdE g W (vLst fs)) := PE.imp (pe_lst (pa_u ha)) fun σ H Q ⟨x, φ, ρ, h, rs, rep, c⟩ => by
  refine RD.bind (k := fun ρ us h => if us.length ≤ lim then .ok (.nw (.lst us)) h else .bad) KV.mono rs rep c fun b1 H1 φ1 h1 us st1 rs1 rep1 p1 c1 => ?_
  have c1 : Cond g x W KV σ Q φ1 H1 (if us.length ≤ lim then .ok (.nw (.lst us)) h1 else .bad) := c1
  split at c1
  · rename_i hl
    refine ⟨by rw [← p1.len]; exact lim_le hl, fun p hp => ?_⟩
    obtain ⟨s1, r1, d1⟩ := new_lst rep1 hp p1
    exact c1 φ1 _ _ s1 r1 d1
  · exact c1.elim
/-! slices -/
abbrev rdO (g : GS) (W : WX) (f : EvO) : TO := RD g W KO f
variable {lo hi : Option Expr} {fl fh : EvO}
theorem po_none2 : PO X none (rdO g W fun _ h => .ok none h) := ⟨fun pins s σ H Q I ⟨x, φ, ρ, h, rs, rep, c⟩ => po_none.run pins s σ H Q I (c φ none H Step.refl rep rfl)⟩
theorem po_some2 (ha : PE X e (rdE g W f)) : PO X (some e) (rdO g W (vO f)) := ⟨fun pins s σ H Q I ⟨x, φ, ρ, h, rs, rep, c⟩ => (po_some (pe_s ha)).run pins s σ H Q I (by
  refine RD.bind (k := fun ρ a h => ofO h (intO a)) KO.mono rs rep c fun b1 H1 φ1 h1 s1 st1 rs1 rep1 p1 c1 => ?_
  obtain ⟨r, e1, q⟩ := Cond.ofO c1
  cases s1 with
  | r n => cases e1
  | v u =>
    cases u with
    | int i => cases e1; exact ⟨i, p1, q φ1 (some i) H1 Step.refl rep1 rfl⟩
    | _ => cases e1)⟩
theorem pe_slc2 (hK : X.K = g.K) {p2 : Pos} (ha : PE X e (rdE g W f)) (hl : PO X lo (rdO g W fl)) (hh : PO X hi (rdO g W fh)) : PE X (.Subscript e (.Slice lo hi none p2) pos) (rdE g W (vSlc f fl fh)) :=
  PE.imp (pe_slice (sl_ok hK) (pe_s ha) hl hh) fun σ H Q ⟨x, φ, ρ, h, rs, rep, c⟩ => by
    refine RD.bind (k := fun ρ a h => (fl ρ h).bind fun l h => (fh ρ h).bind fun u h => ofO h (slcS h a l u)) KV.mono rs rep c fun b1 H1 φ1 h1 s1 st1 rs1 rep1 p1 c1 => ?_
    refine RD.bind (k := fun ρ l h => (fh ρ h).bind fun u h => ofO h (slcS h s1 l u)) KV.mono rs1 rep1 c1 fun b2 H2 φ2 h2 s2 st2 rs2 rep2 p2 c2 => ?_
    refine RD.bind (k := fun ρ u h => ofO h (slcS h s1 s2 u)) KV.mono rs2 rep2 c2 fun b3 H3 φ3 h3 s3 st3 rs3 rep3 p3 c3 => ?_
    obtain ⟨r, e1, q⟩ := Cond.ofO c3
    rw [show b2 = s2 from p2, show b3 = s3 from p3]
    exact ⟨x, φ3, h3, s1, rep3, DenS.step st3 (DenS.step st2 p1), r, e1, q⟩
theorem pe_rev2 (hK : X.K = g.K) {kk : Nat} {p1 p2 p3 : Pos} (ha : PE X e (rdE g W f)) : PE X (.Subscript e (.Slice none none (some (.UnaryOp .USub (.Constant (.int 1) kk p1) p2)) p3) pos) (rdE g W (vRev f)) :=
  PE.imp (pe_revL (pe_s ha)) fun σ H Q ⟨x, φ, ρ, h, rs, rep, c⟩ => by
    refine RD.bind (k := fun ρ a h => ofO h (revS h a)) KV.mono rs rep c fun b1 H1 φ1 h1 s1 st1 rs1 rep1 p1 c1 => ?_
    obtain ⟨r, e1, q⟩ := Cond.ofO c1
    unfold revS at e1
    cases e2 : seqS h1 s1 with
    | none => rw [e2] at e1; cases e1
    | some pr =>
      obtain ⟨b, us⟩ := pr
      rw [e2] at e1
      cases b with
      | false => cases e1
      | true =>
        cases e1
        obtain ⟨a, vs, rfl, d, sq⟩ := seqL_ok rep1 p1 e2
        refine ⟨a, vs, rfl, .inl (.inl sq), fun p hp => ?_⟩
        obtain ⟨s2, r2, d2⟩ := new_lst rep1 hp d.rev
        exact q φ1 _ _ s2 r2 d2
/-! built-in functions, types -/
def bnm : BI → Str
  | .len => "len" | .tuple => "tuple" | .list => "list" | .all => "all" | .any => "any" | .sum => "sum"
  | .max => "max" | .min => "min" | .abs => "abs" | .int => "int" | .str => "str" | .sorted => "sorted" | .range => "range" | .intL => "int"
theorem bnm_boot (b : BI) : bootBuiltins (bnm b) = some (bid b) := by cases b <;> decide +kernel
theorem bnm_nn (b : BI) : bnm b ≠ "__name__" := by cases b <;> decide +kernel
theorem bnm_nd (b : BI) : (bnm b == ("__debug__" : Str)) = false := by cases b <;> decide +kernel
theorem pe_bi2 (hK : X.K = g.K) (hc : X.calm = true) (b : BI) (hD : b = .intL → PySem.W.nsIn X.K cStatics "sys.int_max_str_digits" = some none) (hg : Gl X (bnm b)) (hm : X.mg (bnm b) = none) (hn : (e :: es).all notStar = true) (ha : PA X (e :: es) (rdL g W fs)) : PE X (.Call (.Name (bnm b) p) (e :: es) [] pos) (rdE g W (vBi b fs)) := by
  obtain ⟨h1, h2⟩ := Bool.and_eq_true_iff.mp (show (notStar e && es.all notStar) = true from hn)
  have main : PE X (.Call (.Name (bnm b) p) (e :: es) [] pos) (tCB (rCB g (bltS b)) (rdL g W fs)) := by
    have hb := bnm_boot b
    have hcl := blt_ok (g := g) hK hc b hD
    revert hcl hb
    cases hv : bid b with
    | builtin id => exact fun hb hcl => pe_callB hcl hg hm hb ha (bnm_nn b) (bnm_nd b) (star_cons h1) (back_pl (star_pl h2))
    | type T => exact fun hb hcl => pe_callTy hcl hg hm hb ha (bnm_nn b) (bnm_nd b) (star_cons h1) (back_pl (star_pl h2))
    | _ => cases b <;> cases hv
  refine PE.imp main fun σ H Q ⟨x, φ, ρ, h, rs, rep, c⟩ => ?_
  refine RD.bind (k := fun ρ ss h => ofO h (bltS b h ss)) KV.mono rs rep c fun b1 H1 φ1 h1 s1 st1 rs1 rep1 p1 c1 => ?_
  obtain ⟨r, e1, q⟩ := Cond.ofO c1
  exact ⟨x, φ1, h1, s1, rep1, p1, r, e1, q⟩
/-! methods -/
def mnm : ME → Str
  | .append => "append" | .extend => "extend" | .pop => "pop" | .index => "index" | .join => "join" | .split => "split"
def mty : ME → String
  | .join => "str" | .split => "str" | _ => "list"
theorem met_slot (m : ME) : PlainAttrs (mty m) ∧ Slot (mty m) (mnm m) (mid m) ∧ typeOf (.builtin (mid m)) = pure (.type "method_descriptor") := by
  cases m
  · exact ⟨PySem.F.plainAttrs_list, PySem.F.slot_list_append, PySem.F.type_list_append⟩
  · exact ⟨PySem.F.plainAttrs_list, PySem.F.slot_list_extend, PySem.F.type_list_extend⟩
  · exact ⟨PySem.F.plainAttrs_list, PySem.F.slot_list_pop, PySem.F.type_list_pop⟩
  · exact ⟨PySem.F.plainAttrs_list, PySem.F.slot_list_index, PySem.F.type_list_index⟩
  · exact ⟨PySem.F.plainAttrs_str, PySem.F.slot_str_join, PySem.F.type_str_join⟩
  · exact ⟨PySem.F.plainAttrs_str, PySem.F.slot_str_split, PySem.F.type_str_split⟩
theorem metT_ok {x : Addr → Prop} {φ : Phi} {h : Hs} {H : Hp} {m : ME} {s : S} {v : V} (rep : RepH g x φ h H) (d : DenS g x φ H s v) (e : metT m h s = true) : tyV g.K (mty m) v H := by
  have L : (match seqS h s with
    | some (true, _) => true
    | _ => false) = true → tyV g.K "list" v H := fun e => by
    cases e2 : seqS h s with
    | none => rw [e2] at e; cases e
    | some pr =>
      obtain ⟨b, us⟩ := pr
      rw [e2] at e
      cases b with
      | false => cases e
      | true =>
        obtain ⟨a, vs, rfl, d, sq⟩ := seqL_ok rep d e2
        exact .inl ⟨rfl, vs, .inl (.inl sq)⟩
  cases m with
  | append => exact L e
  | extend => exact L e
  | pop => exact L e
  | index => exact L e
  | join =>
    cases s with
    | r n => cases e
    | v u =>
      cases u with
      | str z => rw [show v = .str z from d]; exact rfl
      | _ => cases e
  | split =>
    cases s with
    | r n => cases e
    | v u =>
      cases u with
      | str z => rw [show v = .str z from d]; exact rfl
      | _ => cases e
theorem met_rd {m : ME} (hK : X.K = g.K) {σ : L2.St} {H : Hp} {Q : VK} (hh : rdE g W (vMet m f fs) σ H Q) : rdS g W (sE f) σ H fun x H1 => tyV X.K (mty m) x H1 ∧ rdL g W fs σ H1 fun xs H2 => rMet g m x xs H2 Q := by
  obtain ⟨x, φ, ρ, h, rs, rep, c⟩ := hh
  refine RD.bind (k := fun ρ a h => if metT m h a = true then (fs ρ h).bind fun ss h => ofP (metS m h a ss) else .bad) KV.mono rs rep c fun b1 H1 φ1 h1 s1 st1 rs1 rep1 p1 c1 => ?_
  have c1 : Cond g x W KV σ Q φ1 H1 (if metT m h1 s1 = true then (fs ρ h1).bind fun ss h => ofP (metS m h s1 ss) else .bad) := c1
  split at c1
  · rename_i hT
    refine ⟨by rw [hK]; exact metT_ok rep1 p1 hT, ?_⟩
    refine RD.bind (k := fun ρ ss h => ofP (metS m h s1 ss)) KV.mono rs1 rep1 c1 fun b2 H2 φ2 h2 s2 st2 rs2 rep2 p2 c2 => ?_
    have c2 : Cond g x W KV σ Q φ2 H2 (ofP (metS m h2 s1 s2)) := c2
    cases e1 : metS m h2 s1 s2 with
    | none => rw [e1] at c2; exact c2.elim
    | some pr =>
      obtain ⟨r, h'⟩ := pr
      rw [e1] at c2
      exact ⟨x, φ2, h2, s1, s2, rep2, DenS.step st2 p1, p2, r, h', e1, c2⟩
  · exact c1.elim
theorem pe_met20 (hK : X.K = g.K) (hu : X.A.units + 65 < cLine) (m : ME) {apos cpos : Pos} (hb : noC0 ea = true) (hl : (apos.endLine == cpos.line) = true) (ho : PE X ea (rdE g W f)) :
    PE X (.Call (.Attribute ea (mnm m) apos) [] [] cpos) (rdE g W (vMet m f vNil)) := by
  obtain ⟨pa, sl, ty⟩ := met_slot m
  refine PE.imp (pe_bm0 pa sl ty (met_ok hK hu m) (pe_s ho) (base_pl hb) hl) fun σ H Q ⟨x, φ, ρ, h, rs, rep, c⟩ => ?_
  refine RD.bind (k := fun ρ a h => if metT m h a = true then ofP (metS m h a []) else .bad) KV.mono rs rep c fun b1 H1 φ1 h1 s1 st1 rs1 rep1 p1 c1 => ?_
  have c1 : Cond g x W KV σ Q φ1 H1 (if metT m h1 s1 = true then ofP (metS m h1 s1 []) else .bad) := c1
  split at c1
  · rename_i hT
    refine ⟨by rw [hK]; exact metT_ok rep1 p1 hT, ?_⟩
    cases e1 : metS m h1 s1 [] with
    | none => rw [e1] at c1; exact c1.elim
    | some pr =>
      obtain ⟨r, h'⟩ := pr
      rw [e1] at c1
      exact ⟨x, φ1, h1, s1, [], rep1, p1, rfl, r, h', e1, c1⟩
  · exact c1.elim
theorem pe_met2 (hK : X.K = g.K) (hu : X.A.units + 65 < cLine) (m : ME) {apos cpos : Pos} (hb : noC0 ea = true) (hl : (apos.endLine == cpos.line) = true) (hn : (e :: es).all notStar = true) (h30 : (e :: es).length < 30) (ho : PE X ea (rdE g W f)) (ha : PA X (e :: es) (rdL g W fs)) :
    PE X (.Call (.Attribute ea (mnm m) apos) (e :: es) [] cpos) (rdE g W (vMet m f fs)) := by
  obtain ⟨pa, sl, ty⟩ := met_slot m
  obtain ⟨h1, h2⟩ := Bool.and_eq_true_iff.mp (show (notStar e && es.all notStar) = true from hn)
  refine PE.imp (pe_bm pa sl ty (met_ok hK hu m) (pe_s ho) ha (base_pl hb) (by
    rw [back_all (star_pl hn), show backToKw cpos (keywordEach [] X.env) = [] from rfl]
    simpa using h30) hl (star_cons h1) (back_pl (star_pl h2))) fun σ H Q q => met_rd hK q
/-! chains -/
theorem pe_ch2 (hK : X.K = g.K) (hu : X.A.units + 65 < cLine) (o o' : CO) (ha : PE X ea (rdE g W f)) (hb : PE X eb (rdE g W k)) (hc : PE X ec (rdE g W l)) (hm : lastMarks [cop o, cop o'] [eb, ec] = false) : PE X (.Compare ea [cop o, cop o'] [eb, ec] pos) (rdE g W (vCh o o' f k l)) :=
  PE.imp (pe_chain (cmp_ok hK hu o) (cmp_ok hK hu o') (pe_s ha) (pe_s hb) (pe_s hc) hm) fun σ H Q ⟨x, φ, ρ, h, rs, rep, c⟩ => by
    refine RD.bind (k := fun ρ a h => (sE k ρ h).bind fun y h => match cmpS o h a y with
      | some true => (sE l ρ h).bind fun z h => ofO h ((cmpS o' h y z).map fun b => .v (.bl b))
      | some false => .ok (.v (.bl false)) h
      | none => .bad) KV.mono rs rep c fun b1 H1 φ1 h1 s1 st1 rs1 rep1 p1 c1 => ?_
    refine RD.bind (k := fun ρ y h => match cmpS o h s1 y with
      | some true => (sE l ρ h).bind fun z h => ofO h ((cmpS o' h y z).map fun b => .v (.bl b))
      | some false => .ok (.v (.bl false)) h
      | none => .bad) KV.mono rs1 rep1 c1 fun b2 H2 φ2 h2 s2 st2 rs2 rep2 p2 c2 => ?_
    cases e1 : cmpS o h2 s1 s2 with
    | none =>
      simp only [e1] at c2
      exact c2.elim
    | some b =>
      simp only [e1] at c2
      refine ⟨x, φ2, h2, s1, s2, rep2, DenS.step st2 p1, p2, .v (.bl b), by show (cmpS o h2 s1 s2).map _ = _; rw [e1]; rfl, fun φ3 v H3 st3 rep3 p3 => ?_⟩
      rw [show v = .bl b from p3]
      cases b with
      | false => exact ⟨false, rfl, by rw [if_neg Bool.false_ne_true]; exact c2 φ3 _ H3 st3 rep3 rfl⟩
      | true =>
        refine ⟨true, rfl, ?_⟩
        rw [if_pos rfl]
        refine RD.bind (k := fun ρ z h => ofO h ((cmpS o' h s2 z).map fun b => .v (.bl b))) KV.mono (rs2.step st3) rep3 (Cond.later KV.mono st3 c2) fun b4 H4 φ4 h4 s4 st4 rs4 rep4 p4 c4 => ?_
        obtain ⟨r, e4, q⟩ := Cond.ofO c4
        exact ⟨x, φ4, h4, s2, s4, rep4, DenS.step st4 (DenS.step st3 p2), p4, r, e4, q⟩
end
end VM

/-! Calls of the program's defs; isinstance. -/
namespace VM
open PySem PySem.Spec PyProof.Rows L2
/-! ### binding -/
/-- one list beside another -/
def Bes {α β : Type} (R : α → β → Prop) (l : List α) (m : List β) : Prop := l.length = m.length ∧ ∀ (j : Nat) (a : α), l[j]? = some a → ∃ b, m[j]? = some b ∧ R a b
theorem Bes.nil {α β : Type} {R : α → β → Prop} : Bes R [] [] := ⟨rfl, fun j a h => by simp at h⟩
theorem Bes.cons {α β : Type} {R : α → β → Prop} {a : α} {b : β} {l : List α} {m : List β} (r : R a b) (h : Bes R l m) : Bes R (a :: l) (b :: m) := ⟨by simp [h.1], fun j c e => by
  cases j with
  | zero => simp at e; subst e; exact ⟨b, rfl, r⟩
  | succ j => exact h.2 j c (by simpa using e)⟩
theorem Bes.uncons {α β : Type} {R : α → β → Prop} {a : α} {l : List α} {m : List β} (h : Bes R (a :: l) m) : ∃ b m', m = b :: m' ∧ R a b ∧ Bes R l m' := by
  cases m with
  | nil => have := h.1; simp at this
  | cons b m' =>
    obtain ⟨b', e, r⟩ := h.2 0 a rfl
    simp at e
    subst e
    exact ⟨b, m', rfl, r, by have := h.1; simpa using this, fun j c e => h.2 (j + 1) c (by simpa using e)⟩
theorem Bes.vals : ∀ {vs : List V} {us : List Value}, Bes RelV vs us → Vals vs us
  | [], us, h => by
    have := h.1
    cases us with
    | nil => exact .nil
    | cons _ _ => simp at this
  | v :: vs, us, h => by
    obtain ⟨b, m, rfl, r, h'⟩ := h.uncons
    exact .cons r (Bes.vals h')
theorem bes_vals : ∀ {vs : List V} {us : List Value}, Vals vs us → Bes RelV vs us
  | _, _, .nil => .nil
  | _, _, .cons r t => .cons r (bes_vals t)
theorem Bes.dens {g : GS} {x : Addr → Prop} {φ : Phi} {H : Hp} : ∀ {ss : List S} {vs : List V}, Bes (DenS g x φ H) ss vs → DenSs g x φ H ss vs
  | [], vs, h => by
    have := h.1
    cases vs with
    | nil => rfl
    | cons _ _ => simp at this
  | s :: ss, vs, h => by
    obtain ⟨b, m, rfl, r, h'⟩ := h.uncons
    exact ⟨b, m, rfl, r, Bes.dens h'⟩
theorem bes_dens {g : GS} {x : Addr → Prop} {φ : Phi} {H : Hp} : ∀ {ss : List S} {vs : List V}, DenSs g x φ H ss vs → Bes (DenS g x φ H) ss vs
  | [], vs, h => by rw [show vs = [] from h]; exact .nil
  | s :: ss, vs, ⟨w, ws, e, d, ds⟩ => by rw [e]; exact .cons d (bes_dens ds)
theorem bes_denL {g : GS} {x : Addr → Prop} {φ : Phi} {H : Hp} : ∀ {us : List U} {vs : List V}, DenL g (ow φ x) H us vs → Bes (DenS g x φ H) (us.map .v) vs
  | [], vs, h => by rw [show vs = [] from h]; exact .nil
  | s :: ss, vs, ⟨w, ws, e, d, ds⟩ => by rw [e]; exact .cons d (bes_denL ds)
theorem mapO_bes {ι α β : Type} {R : α → β → Prop} {f : ι → Option α} {k : ι → Option β} (h : ∀ i a, f i = some a → ∃ b, k i = some b ∧ R a b) : ∀ {l : List ι} {xs : List α}, mapO f l = some xs → ∃ ys, mapO k l = some ys ∧ Bes R xs ys
  | [], xs, e => by cases e; exact ⟨[], rfl, .nil⟩
  | i :: l, xs, e => by
    unfold mapO at e
    cases e1 : f i with
    | none => rw [e1] at e; cases e
    | some a =>
      cases e2 : mapO f l with
      | none => rw [e1, e2] at e; cases e
      | some as =>
        rw [e1, e2] at e
        cases e
        obtain ⟨b, e3, r⟩ := h i a e1
        obtain ⟨bs, e4, r2⟩ := mapO_bes h e2
        exact ⟨b :: bs, by unfold mapO; rw [e3, e4], .cons r r2⟩
theorem mapO_len {ι α : Type} {f : ι → Option α} : ∀ {l : List ι} {xs : List α}, mapO f l = some xs → xs.length = l.length
  | [], xs, e => by cases e; rfl
  | i :: l, xs, e => by
    unfold mapO at e
    cases e1 : f i with
    | none => rw [e1] at e; cases e
    | some a =>
      cases e2 : mapO f l with
      | none => rw [e1, e2] at e; cases e
      | some as =>
        rw [e1, e2] at e
        cases e
        simp [mapO_len e2]
theorem arrG_bes {α β : Type} {R : α → β → Prop} {np : Nat} {us : List α} {ks : List Nat} {ws ds : List α} {us' ws' ds' : List β} (a : Bes R us us') (b : Bes R ws ws') (c : Bes R ds ds') {xs : List α} (e : arrG np us ks ws ds = some xs) : ∃ ys, arrG np us' ks ws' ds' = some ys ∧ Bes R xs ys := by
  unfold arrG at e ⊢
  rw [← a.1]
  split at e
  · rename_i hl
    rw [if_pos hl]
    refine mapO_bes (fun j x h => ?_) e
    unfold arrJ at h ⊢
    cases e1 : us[j]? with
    | some s =>
      rw [e1] at h
      cases h
      obtain ⟨b, e2, r⟩ := a.2 j _ e1
      exact ⟨b, by rw [e2], r⟩
    | none =>
      rw [e1] at h
      rw [List.getElem?_eq_none (by rw [← a.1]; exact List.getElem?_eq_none_iff.mp e1)]
      dsimp only at h ⊢
      cases e3 : ks.idxOf? j with
      | some q =>
        rw [e3] at h
        exact b.2 q x h
      | none =>
        rw [e3] at h
        dsimp only at h ⊢
        rw [← c.1]
        split at h
        · rename_i h1
          rw [if_pos h1]
          exact c.2 _ x h
        · cases h
  · cases e
theorem arrG_len {α : Type} {np : Nat} {us : List α} {ks : List Nat} {ws ds : List α} {xs : List α} (e : arrG np us ks ws ds = some xs) : xs.length = np := by
  unfold arrG at e
  split at e
  · rw [mapO_len e, List.length_range]
  · cases e
/-- no names, nothing that stands by itself -/
theorem arrG_pl {α : Type} {np : Nat} {us : List α} {xs : List α} (e : arrG np us [] [] [] = some xs) : us = xs ∧ us.length = np := by
  have hl : us.length ≤ np := by
    unfold arrG at e
    split at e
    · assumption
    · cases e
  have main : ∀ (l : List Nat) (xs : List α), mapO (arrJ np us [] [] []) l = some xs → ∀ (j i : Nat), l[j]? = some i → us[i]? = xs[j]? ∧ i < us.length := by
    intro l
    induction l with
    | nil => intro xs e j i h; simp at h
    | cons i0 l ih =>
      intro xs e j i h
      unfold mapO at e
      cases e1 : arrJ np us [] [] [] i0 with
      | none => rw [e1] at e; cases e
      | some a =>
        cases e2 : mapO (arrJ np us [] [] []) l with
        | none => rw [e1, e2] at e; cases e
        | some as =>
          rw [e1, e2] at e
          cases e
          cases j with
          | zero =>
            simp at h
            subst h
            unfold arrJ at e1
            cases e3 : us[i0]? with
            | some b =>
              rw [e3] at e1
              cases e1
              exact ⟨rfl, (List.getElem?_eq_some_iff.mp e3).1⟩
            | none =>
              rw [e3] at e1
              dsimp only at e1
              have : ([] : List Nat).idxOf? i0 = none := rfl
              rw [this] at e1
              dsimp only at e1
              split at e1
              · simp at e1
              · cases e1
          | succ j => exact ih as e2 j i (by simpa using h)
  have e0 : mapO (arrJ np us [] [] []) (List.range np) = some xs := by
    unfold arrG at e
    rw [if_pos hl] at e
    exact e
  have hx := arrG_len e
  have hn : us.length = np := by
    cases np with
    | zero => omega
    | succ n =>
      have := (main _ _ e0 n n (by simp)).2
      omega
  refine ⟨List.ext_getElem? fun j => ?_, hn⟩
  by_cases hj : j < np
  · exact (main _ _ e0 j j (by simp [hj])).1
  · rw [List.getElem?_eq_none (by omega), List.getElem?_eq_none (by omega)]
/-- how a call with n values and those names binds -/
structure CallB (K : PySem.W.Frag) (fd : FuncData) (ps : List Str) (n : Nat) (ks : List Str) (ki : List Nat) (ds : List Value) : Prop where
  to : ∀ (s : Shared) (us ws full : List Value), K.In s.heap → us.length = n → ws.length = ks.length → arrG ps.length us ki ws ds = some full → BindsTo s fd ⟨us, ks.zip ws⟩ (ps.zip full)
theorem CallB.plain {K : PySem.W.Frag} {fd : FuncData} {ps : List Str} {n : Nat} (h : Binds K fd ps []) : CallB K fd ps n [] [] [] := ⟨fun s us ws full kin _ l2 e => by
  cases ws with
  | cons _ _ => simp at l2
  | nil =>
    obtain ⟨rfl, hl⟩ := arrG_pl e
    have := h s us kin (by rw [List.append_nil]; exact hl)
    rw [List.append_nil] at this
    exact this⟩
section
variable {X : Cx} {g : GS} {W : WX} {e ea eb ec : Expr} {es : List Expr} {f k l : EvE} {fs gs : EvL} {pos p : Pos} {kws : List Keyword} {lv : Nat}
theorem run_fnG {F : Addr} {fd : FuncData} {ps ks : List Str} {sp : Sp} {E : XK} {pins : List (Addr × Obj)} {σ : L2.St} {H : Hp} {s : Shared} {Q : VK} {us ws full : List Value} {vs : List V} (hF : FnOk X.prog X.w X.K X.mg X.base (L2.CX X.prog X.w) lv F fd ps sp) (hr : Room lv X.A) (hb : BindsTo s fd ⟨us, ks.zip ws⟩ (ps.zip full))
    (hx : PassesAt (L2.CX X.prog X.w) X σ E) (I : L2.Inv X pins σ H s) (r : Vals vs full) (h : sp vs H Q E) : wpAny (model X.prog X.w) X.A (call (.ref F) us (ks.zip ws)) (EP X pins σ Q) X.xe s := by
  refine wpAny_call (codeAny_mono (hF.run X.A X.stack s H ⟨us, ks.zip ws⟩ full vs Q E hr I.env0 hb r h) fun r s' hq => ?_)
  cases r with
  | error e => exact hx pins H s e s' I hq
  | ok fl =>
    cases fl with
    | ret u => exact I.after hq
    | next => exact False.elim hq
    | brk => exact False.elim hq
    | cont => exact False.elim hq
abbrev PKr (X : Cx) (g : GS) (W : WX) (kws : List Keyword) (f : EvL) : Prop := PK X kws (rdL g W f)
theorem pk_nil2 : PKr X g W [] vNil := ⟨fun pos pins s σ H Q I ⟨x, φ, ρ, h, rs, rep, c⟩ => pk_nil.run pos pins s σ H Q I (c φ [] H Step.refl rep rfl)⟩
theorem pk_cons2 {nm : Option Str} {kp : Pos} (ha : PE X e (rdE g W f)) (hb : PKr X g W kws fs) : PKr X g W (⟨nm, e, kp⟩ :: kws) (vCons f fs) :=
  ⟨fun pos pins s σ H Q I ⟨x, φ, ρ, h, rs, rep, c⟩ => (pk_cons (nm := nm) (kpos := kp) (pe_s ha) hb).run pos pins s σ H Q I (by
    refine RD.bind (k := fun ρ s h => (fs ρ h).bind fun ss h => .ok (s :: ss) h) KL.mono rs rep c fun b1 H1 φ1 h1 s1 st1 rs1 rep1 p1 c1 => ?_
    refine RD.bind (k := fun ρ ss h => .ok (s1 :: ss) h) KL.mono rs1 rep1 c1 fun b2 H2 φ2 h2 s2 st2 rs2 rep2 p2 c2 => ?_
    exact c2 φ2 (b1 :: b2) H2 Step.refl rep2 ⟨b1, b2, rfl, DenS.step st2 p1, p2⟩)⟩
/-- what is known of a callee at level lv -/
structure Fnx (X : Cx) (g : GS) (c : CC) (lv : Nat) (f : Nat) (n : Nat) (ks : List Str) (ki : List Nat) : Prop where
  ex : ∃ (fd : FuncData) (ps : List Str) (ds : List Value) (dvs : List V), FnOk X.prog X.w X.K X.mg X.base (L2.CX X.prog X.w) lv (g.fa f) fd ps (spV g c f ps.length) ∧ ps.length = c.np f ∧ PySem.W.keepIn X.K (.ref (g.fa f)) = true ∧ CallB X.K fd ps n ks ki ds ∧
    Vals dvs ds ∧ ∀ o H, DenL g o H (c.df f) dvs
/-- .. and their number -/
def KLn (n : Nat) : Kd (List S) (List V) := fun g x H r h φ v H' => KL g x H r h φ v H' ∧ r.length = n
theorem KLn.mono {n : Nat} : (KLn n).Mono := fun _ _ _ _ _ _ _ _ _ _ p => p
def Len (fs : EvL) (n : Nat) : Prop := ∀ ρ h ss h', fs ρ h = .ok ss h' → ss.length = n
theorem len_rd {n : Nat} (hl : Len fs n) {σ : L2.St} {H : Hp} {Q : List V → Hp → Prop} (hh : RD g W (KLn n) fs σ H Q) : rdL g W fs σ H Q := by
  obtain ⟨x, φ, ρ, h, rs, rep, c⟩ := hh
  refine ⟨x, φ, ρ, h, rs, rep, ?_⟩
  cases e1 : fs ρ h with
  | bad => rw [e1] at c; exact c
  | ex z h1 => rw [e1] at c; exact c
  | ok r h1 =>
    rw [e1] at c
    intro φ' b H' st rep' p
    exact c φ' b H' st rep' ⟨p, hl _ _ _ _ e1⟩
theorem spV_of {c : CC} {fn : Nat} {ki : List Nat} {ss kss : List S} {x : Addr → Prop} {φ : Phi} {h : Hs} {σ : L2.St} {H : Hp} {Q : VK} {vs zs : List V} {us ws ds : List Value} {dvs : List V} (rep : RepH g x φ h H) (d1 : DenSs g x φ H ss vs) (d2 : DenSs g x φ H kss zs) (hd : ∀ o H, DenL g o H (c.df fn) dvs) (r1 : Vals vs us) (r2 : Vals zs ws) (r3 : Vals dvs ds)
    (cd : Cond g x W KV σ Q φ H (match argsOf c fn ss ki kss with
      | some as => doCall c fn as h
      | none => .bad)) : ∃ full ys, arrG (c.np fn) us ki ws ds = some full ∧ Vals ys full ∧ spV g c fn (c.np fn) ys H Q (WE W σ) := by
  cases e1 : argsOf c fn ss ki kss with
  | none => rw [e1] at cd; exact cd.elim
  | some as =>
    rw [e1] at cd
    obtain ⟨ys, e2, b1⟩ := arrG_bes (bes_dens d1) (bes_dens d2) (bes_denL (hd _ _)) e1
    obtain ⟨full, e3, b2⟩ := arrG_bes (bes_vals r1) (bes_vals r2) (bes_vals r3) e2
    exact ⟨full, ys, e3, b2.vals, doCall_ok rep b1.dens (arrG_len e2) cd⟩
theorem kw_all {env : Env} {pos : Pos} : ∀ {kws : List Keyword} {ks : List Str}, kws.map (·.arg) = ks.map some → (backToKw pos (keywordEach kws env)).all (·.1.isSome) = true ∧ (backToKw pos (keywordEach kws env)).filterMap (·.1) = ks ∧ (backToKw pos (keywordEach kws env)).any (·.1.isNone) = false
  | [], ks, h => by
    cases ks with
    | nil => exact ⟨rfl, rfl, rfl⟩
    | cons _ _ => simp at h
  | ⟨nm, v, p⟩ :: kws, ks, h => by
    cases ks with
    | nil => simp at h
    | cons x ks =>
      simp at h
      obtain ⟨h1, h2⟩ := h
      obtain ⟨i1, i2, i3⟩ := kw_all (env := env) (pos := pos) (kws := kws) (ks := ks) (by simpa using h2)
      subst h1
      have e : backToKw pos (keywordEach (⟨some x, v, p⟩ :: kws) env) = (some x, _) :: backToKw pos (keywordEach kws env) := rfl
      rw [e]
      refine ⟨?_, ?_, ?_⟩
      · rw [List.all_cons, i1]; rfl
      · rw [List.filterMap_cons]
        show x :: _ = _
        rw [i2]
      · rw [List.any_cons, i3]; rfl
theorem rd_nil {σ : L2.St} {H : Hp} {Q : List V → Hp → Prop} (h : rdL g W vNil σ H Q) : Q [] H := let ⟨x, φ, ρ, hh, rs, rep, c⟩ := h; c φ [] H Step.refl rep rfl
theorem pe_call2 {c : CC} {fn : Nat} {x : Str} {ks : List (Str × Nat)} (tk : Takes X W) (F : Fnx X g c lv fn es.length (ks.map (·.1)) (ks.map (·.2))) (hr : Room lv X.A) (hg : Gl X x) (hm : X.mg x = some (.ref (g.fa fn))) (hdb : (x == ("__debug__" : Str)) = false)
    (hn : es.all notStar = true) (hk : kws.map (·.arg) = (ks.map (·.1)).map some) (l1 : Len fs es.length) (l2 : Len gs ks.length) (z1 : es = [] → fs = vNil) (z2 : kws = [] → gs = vNil) (ha : PA X es (rdL g W fs)) (hkw : PKr X g W kws gs) : PE X (.Call (.Name x p) es kws pos) (rdE g W (vCall c fn fs (ks.map (·.2)) gs)) := by
  obtain ⟨fd, ps, ds, dvs, hF, hnp, hkp, hb, hd, hdd⟩ := F.ex
  obtain ⟨k1, k2, k3⟩ := kw_all (env := X.env) (pos := pos) hk
  refine ⟨fun pins s σ H Q I hw => ?_⟩
  refine wpAny_Call_Name_kw (ld_glob I hg hm ?_ hdb)
  have hA : rdL g W fs σ H fun vs H1 => rdL g W gs σ H1 fun zs H2 => vs.length = es.length ∧ zs.length = ks.length ∧ ∀ us ws, Vals vs us → Vals zs ws → ∃ full ys, arrG ps.length us (ks.map (·.2)) ws ds = some full ∧ Vals ys full ∧ spV g c fn ps.length ys H2 Q (WE W σ) := by
    obtain ⟨x, φ, ρ, h, rs, rep, cd⟩ := hw
    refine len_rd l1 ?_
    refine RD.bind (k := fun ρ ss h => (gs ρ h).bind fun kss h => match argsOf c fn ss (ks.map (·.2)) kss with
      | some as => doCall c fn as h
      | none => .bad) KV.mono rs rep cd fun b1 H1 φ1 h1 s1 st1 rs1 rep1 p1 c1 => ?_
    refine len_rd l2 ?_
    refine RD.bind (k := fun ρ kss h => match argsOf c fn s1 (ks.map (·.2)) kss with
      | some as => doCall c fn as h
      | none => .bad) KV.mono rs1 rep1 c1 fun b2 H2 φ2 h2 s2 st2 rs2 rep2 p2 c2 => ?_
    refine ⟨(DenSs.len p1.1).trans p1.2, (DenSs.len p2.1).trans p2.2, fun us ws r1 r2 => ?_⟩
    rw [hnp]
    exact spV_of rep2 (DenSs.step st2 p1.1) p2.1 hdd r1 r2 hd c2
  have go : ∀ {us ws : List Value} {vs zs : List V} {s2 : Shared} {H2 : Hp}, L2.Inv X pins σ H2 s2 → Vals vs us → Vals zs ws → vs.length = es.length ∧ zs.length = ks.length ∧ (∀ us ws, Vals vs us → Vals zs ws → ∃ full ys, arrG ps.length us (ks.map (·.2)) ws ds = some full ∧ Vals ys full ∧ spV g c fn ps.length ys H2 Q (WE W σ)) →
      wpAny (model X.prog X.w) X.A (call (.ref (g.fa fn)) us ((ks.map (·.1)).zip ws)) (EP X pins σ Q) X.xe s2 := fun {us ws vs zs s2 H2} I2 r1 r2 ⟨e1, e2, q⟩ => by
    obtain ⟨full, ys, e3, r3, sp⟩ := q us ws r1 r2
    exact run_fnG hF hr (hb.to s2 us ws full I2.kIn (r1.length.symm.trans e1) (by rw [List.length_map]; exact r2.length.symm.trans e2) e3) (passAt tk σ) I2 r3 sp
  have nilK : ∀ {zs : List V} {ws : List Value}, kws = [] → ks = [] := fun h => by
    rw [h] at hk
    cases ks with
    | nil => rfl
    | cons _ _ => simp at hk
  cases es with
  | nil =>
    cases kws with
    | nil =>
      have : ks = [] := nilK (zs := []) (ws := []) rfl
      subst this
      refine PySem.W.callWith_K0 I.kIn hkp ?_
      rw [z1 rfl, z2 rfl] at hA
      exact go (us := []) (ws := []) I .nil .nil (rd_nil (rd_nil hA))
    | cons kw kws =>
      refine PySem.W.callWith_KW0 (h₀ := X.base) I.ok.mod.kin hkp k1 ?_ (by rw [k3]; rfl)
      rw [z1 rfl] at hA
      refine thn (hkw.run pos pins s σ H _ I (rd_nil hA)) fun ws s2 ⟨zs, H2, I2, rz, q2⟩ => ⟨I2.kIn, ?_⟩
      rw [k2]
      exact go (us := []) I2 .nil rz q2
  | cons e es =>
    obtain ⟨h1, h2⟩ := Bool.and_eq_true_iff.mp (show (notStar e && es.all notStar) = true from hn)
    cases kws with
    | nil =>
      have : ks = [] := nilK (zs := []) (ws := []) rfl
      subst this
      refine PySem.W.callWith_K (h₀ := X.base) I.ok.mod.kin hkp (thn (ha.run pos pins s σ H _ I hA) fun us s1 ⟨vs, H1, I1, r, q⟩ => ⟨I1.kIn, ?_⟩) (star_cons h1) (back_pl (star_pl h2))
      rw [z2 rfl] at q
      exact go (ws := []) I1 r .nil (rd_nil q)
    | cons kw kws =>
      refine PySem.W.callWith_KW (h₀ := X.base) I.ok.mod.kin hkp k1 (thn (ha.run pos pins s σ H _ I hA) fun us s1 ⟨vs, H1, I1, r, q⟩ => thn (hkw.run pos pins s1 σ H1 _ I1 q) fun ws s2 ⟨zs, H2, I2, rz, q2⟩ => ⟨I2.kIn, ?_⟩) (by
        rw [back_pl (star_pl hn), k3]; rfl) (star_cons h1)
      rw [k2]
      exact go I2 r rz q2
/-! a def that a name holds -/
/-- .. of any callee, every value written -/
def FnA (X : Cx) (g : GS) (c : CC) (lv fn : Nat) : Prop := ∃ (fd : FuncData) (ps : List Str), FnOk X.prog X.w X.K X.mg X.base (L2.CX X.prog X.w) lv (g.fa fn) fd ps (spV g c fn ps.length) ∧ ps.length = c.np fn ∧ PySem.W.keepIn X.K (.ref (g.fa fn)) = true ∧ Binds X.K fd ps []
theorem pe_cv2 {c : CC} {i : Nat} {x : Str} (tk : Takes X W) (F : ∀ fn, c.np fn ≠ 0 → FnA X g c lv fn) (hr : Room lv X.A) (hN : X.N[i]? = some x) (hv : Vis X.env.scope x) (hdb : (x == ("__debug__" : Str)) = false) (hcd : (x == ("__classdict__" : Str)) = false)
    (hn : (e :: es).all notStar = true) (l1 : Len fs (e :: es).length) (ha : PA X (e :: es) (rdL g W fs)) : PE X (.Call (.Name x p) (e :: es) [] pos) (rdE g W (vCv c i fs)) := by
  obtain ⟨h1, h2⟩ := Bool.and_eq_true_iff.mp (show (notStar e && es.all notStar) = true from hn)
  refine ⟨fun pins s σ H Q I ⟨y, φ, ρ, h, rs, rep, cd⟩ => ?_⟩
  unfold vCv at cd
  cases e1 : ρ[i]? with
  | none => rw [e1] at cd; exact cd.elim
  | some o =>
    cases o with
    | none => rw [e1] at cd; exact cd.elim
    | some sl =>
      cases sl with
      | r n => rw [e1] at cd; exact cd.elim
      | v u =>
        cases u with
        | fn fn =>
          rw [e1] at cd
          dsimp only at cd
          obtain ⟨v, hs, d⟩ := rs.at_ i _ e1
          cases (show v = .ref (g.fa fn) from d)
          refine wpAny_Call_Name_kw (thn ((pe_var (pos := p) hN hv hdb hcd).run pins s σ H (fun v H1 => v = .ref (g.fa fn) ∧ H1 = H) I ⟨.ref (g.fa fn), hs, rfl, rfl⟩) fun u s1 ⟨v, H1, I1, r1, q1⟩ => ?_)
          obtain ⟨rfl, rfl⟩ := q1
          cases r1
          split at cd
          · exact cd.elim
          · rename_i hz
            obtain ⟨fd, ps, hF, hnp, hk, hb⟩ := F fn hz
            have hA : rdL g W fs σ H1 fun vs H1 => spV g c fn (c.np fn) vs H1 Q (WE W σ) := by
              refine len_rd l1 ?_
              refine RD.bind (k := fun ρ ss h => if ss.length = c.np fn then doCall c fn ss h else .bad) KV.mono rs rep cd fun b1 H1 φ1 h1 s1 st1 rs1 rep1 p1 c1 => ?_
              have c1 : Cond g y W KV σ Q φ1 H1 (if s1.length = c.np fn then doCall c fn s1 h1 else .bad) := c1
              split at c1
              · rename_i hl
                exact doCall_ok rep1 p1.1 ((DenSs.len p1.1).trans hl) c1
              · exact c1.elim
            refine PySem.W.callWith_K (h₀ := X.base) I.ok.mod.kin hk (thn (ha.run pos pins s1 σ H1 _ I1 hA) fun us s2 ⟨vs, H2, I2, r, q⟩ => ⟨I2.kIn, ?_⟩) (star_cons h1) (back_pl (star_pl h2))
            rw [← hnp] at q
            have hvl : vs.length = ps.length := hF.len _ _ _ _ q
            have := hb s2 us I2.kIn (by rw [List.append_nil, ← hvl]; exact r.length.symm)
            rw [List.append_nil] at this
            exact run_fnG (ks := []) (ws := []) hF hr this (passAt tk σ) I2 r q
        | _ => rw [e1] at cd; exact cd.elim
/-! isinstance -/
def tyN : Nat → String
  | 0 => "NoneType" | 1 => "bool" | 2 => "int" | 3 => "str" | 4 => "tuple" | _ => "list"
def tyC : Ty → Option String
  | .int => some "int" | .bool => some "bool" | .str => some "str" | .list => some "list" | .tuple => some "tuple" | .cls _ => none
theorem ty_kit {t : Nat} {y : Ty} {n : String} (h : tyC y = some n) (ht : t ≤ 5) : kitB (tyN t) n = some (isTy t y) := by
  have : t = 0 ∨ t = 1 ∨ t = 2 ∨ t = 3 ∨ t = 4 ∨ t = 5 := by omega
  rcases this with rfl | rfl | rfl | rfl | rfl | rfl <;> cases y <;> first | (cases h; decide +kernel) | (cases h)
theorem tyS_ok {x : Addr → Prop} {φ : Phi} {h : Hs} {H : Hp} {s : S} {v : V} {t : Nat} (rep : RepH g x φ h H) (d : DenS g x φ H s v) (e : tyS h s = some t) : TyX g.K H v (.type (tyN t)) ∧ t ≤ 5 := by
  have T : ∀ {us : List U}, seqS h s = some (false, us) → TyX g.K H v (.type (tyN 4)) := fun e => by
    obtain ⟨a, vs, rfl, d, sq⟩ := seqT_ok rep d e
    rcases sq with ⟨sq, _⟩ | ⟨ob, its, n, e1, e2, _⟩
    · rcases sq with sq | ⟨ob, sq⟩
      · exact .base (.tup sq)
      · exact .fTuple sq
    · exact .kTuple e1 e2
  have L : ∀ {us : List U}, seqS h s = some (true, us) → TyX g.K H v (.type (tyN 5)) := fun e => by
    obtain ⟨a, vs, rfl, d, sq⟩ := seqL_ok rep d e
    exact .base (.lst sq)
  cases s with
  | r n =>
    cases e1 : seqS h (.r n) with
    | none => rw [show tyS h (.r n) = (seqS h (.r n)).map fun _ => 5 from rfl, e1] at e; cases e
    | some pr =>
      obtain ⟨b, us⟩ := pr
      rw [show tyS h (.r n) = (seqS h (.r n)).map fun _ => 5 from rfl, e1] at e
      cases e
      cases b with
      | true => exact ⟨L e1, Nat.le_refl _⟩
      | false =>
        have e1 : (match h[n]? with
          | some (MO.lst xs) => some (true, xs)
          | some (.lck xs) => some (true, xs)
          | _ => none) = some (false, us) := e1
        split at e1 <;> cases e1
  | v u =>
    cases u with
    | non => cases e; rw [show v = .non from d]; exact ⟨.base .non, by omega⟩
    | bl b => cases e; rw [show v = .bl b from d]; exact ⟨.base (.bl b), by omega⟩
    | int i => cases e; rw [show v = .int i from d]; exact ⟨.base (.int i), by omega⟩
    | str z => cases e; rw [show v = .str z from d]; exact ⟨.base (.str z), by omega⟩
    | tup us => cases e; exact ⟨T rfl, by omega⟩
    | lst us => cases e; exact ⟨L rfl, by omega⟩
    | _ => cases e
theorem kit_any {K : PySem.W.Frag} {t : Nat} (ht : t ≤ 5) : ∀ {ts : List Ty} {ns : List String}, ts.map tyC = ns.map some → PySem.W.kitAny K (.type (tyN t)) (ns.map .type) = some (ts.any (isTy t))
  | [], ns, h => by
    cases ns with
    | nil => rfl
    | cons _ _ => simp at h
  | y :: ts, ns, h => by
    cases ns with
    | nil => simp at h
    | cons n ns =>
      simp at h
      obtain ⟨h1, h2⟩ := h
      refine kitAny_cons (kit_ty (ty_kit h1 ht)) (fun hb => ?_) (fun hb => ?_)
      · rw [List.any_cons, hb, Bool.false_or]
        exact kit_any ht (by simpa using h2)
      · rw [List.any_cons, hb, Bool.true_or]
def tyNms : List Ty → Option (List String)
  | [] => some []
  | t :: ts => match tyC t, tyNms ts with
    | some n, some ns => some (n :: ns)
    | _, _ => none
theorem tyNms_ok : ∀ {ts : List Ty} {ns : List String}, tyNms ts = some ns → ts.map tyC = ns.map some
  | [], ns, h => by cases h; rfl
  | t :: ts, ns, h => by
    unfold tyNms at h
    cases e1 : tyC t with
    | none => rw [e1] at h; cases h
    | some n =>
      cases e2 : tyNms ts with
      | none => rw [e1, e2] at h; cases h
      | some ns' =>
        rw [e1, e2] at h
        cases h
        simp [e1, tyNms_ok e2]
def tyNm : Ty → Str
  | .int => "int" | .bool => "bool" | .str => "str" | .list => "list" | .tuple => "tuple" | .cls _ => ""
theorem tyNm_ok {t : Ty} {n : String} (h : tyC t = some n) : bootBuiltins (tyNm t) = some (.type n) ∧ tyNm t ≠ "__name__" ∧ (tyNm t == ("__debug__" : Str)) = false := by
  cases t <;> first | (cases h; done) | (cases h; decide +kernel)
theorem pe_ty {t : Ty} {n : String} (h : tyC t = some n) (hg : Gl X (tyNm t)) (hm : X.mg (tyNm t) = none) : PE X (.Name (tyNm t) pos) (tC (.ty n)) :=
  let ⟨h1, h2, h3⟩ := tyNm_ok h
  pe_bltn hg hm h1 rfl h2 h3
theorem boot_isi : bootBuiltins ("isinstance" : Str) = some (.builtin "isinstance") := by decide +kernel
theorem pe_isi1 (hK : X.K = g.K) {t : Ty} {n : String} {tp : Pos} (h : tyC t = some n) (hg : Gl X (tyNm t)) (hm : X.mg (tyNm t) = none) (hg0 : Gl X "isinstance") (hm0 : X.mg "isinstance" = none) (hn : notStar ea = true) (ha : PE X ea (rdE g W f)) :
    PE X (.Call (.Name "isinstance" p) [ea, .Name (tyNm t) tp] [] pos) (rdE g W (vIsi f [t])) :=
  PE.imp (pe_callB call_isi hg0 hm0 boot_isi (pa_cons (pe_s ha) (pa_cons (pe_ty h hg hm) pa_nil (star_cons rfl)) (star_cons hn)) (by decide) (by decide) (star_cons hn) (back_pl (star_pl rfl))) fun σ H Q ⟨x, φ, ρ, h0, rs, rep, c⟩ => by
    refine RD.bind (k := fun ρ a h => ofO h ((tyS h a).map fun t' => .v (.bl ([t].any (isTy t'))))) KV.mono rs rep c fun b1 H1 φ1 h1 s1 st1 rs1 rep1 p1 c1 => ?_
    obtain ⟨r, e1, q⟩ := Cond.ofO c1
    cases e2 : tyS h1 s1 with
    | none => rw [e2] at e1; cases e1
    | some t' =>
      rw [e2] at e1
      cases e1
      obtain ⟨ty, hle⟩ := tyS_ok rep1 p1 e2
      exact ⟨b1, .ty n, _, _, _, rfl, .ty n, by rw [hK]; exact ty, kit_ty (ty_kit h hle), q φ1 _ H1 Step.refl rep1 (by simp [KV, Den])⟩
def names : List Ty → List Pos → List Expr
  | t :: ts, p :: ps => .Name (tyNm t) p :: names ts ps
  | _, _ => []
theorem names_pl : ∀ {ts : List Ty} {ps : List Pos}, (names ts ps).all notStar = true
  | [], ps => by cases ps <;> rfl
  | _ :: _, [] => rfl
  | t :: ts, p :: ps => names_pl (ts := ts) (ps := ps)
def tTys : List String → TA
  | [] => tNil
  | n :: ns => tCons (tC (.ty n)) (tTys ns)
theorem pa_tys : ∀ {ts : List Ty} {ns : List String} {ps : List Pos}, tyNms ts = some ns → ps.length = ts.length → (∀ t ∈ ts, Gl X (tyNm t) ∧ X.mg (tyNm t) = none) → PA X (names ts ps) (tTys ns)
  | [], ns, ps, h, l, _ => by
    cases h
    cases ps with
    | nil => exact pa_nil
    | cons _ _ => simp at l
  | t :: ts, ns, ps, h, l, hg => by
    cases ps with
    | nil => simp at l
    | cons p ps =>
      unfold tyNms at h
      cases e1 : tyC t with
      | none => rw [e1] at h; cases h
      | some n =>
        cases e2 : tyNms ts with
        | none => rw [e1, e2] at h; cases h
        | some ns' =>
          rw [e1, e2] at h
          cases h
          exact pa_cons (pe_ty e1 (hg t (by simp)).1 (hg t (by simp)).2) (pa_tys e2 (by simpa using l) fun t' ht => hg t' (List.mem_cons_of_mem _ ht)) (star_cons rfl)
theorem tTys_run {σ : L2.St} {H : Hp} : ∀ {ns : List String} {Q : List V → Hp → Prop}, Q (ns.map .ty) H → tTys ns σ H Q
  | [], Q, q => q
  | n :: ns, Q, q => tTys_run (ns := ns) q
theorem clsV_tys : ∀ ns : List String, Paired ClsV (ns.map V.ty) (ns.map Value.type)
  | [] => .nil
  | n :: ns => .cons (.ty n) (clsV_tys ns)
theorem pe_isiN (hK : X.K = g.K) {ts : List Ty} {ns : List String} {ps : List Pos} {kk : Nat} {tp : Pos} (h : tyNms ts = some ns) (hl : ps.length = ts.length) (hg : ∀ t ∈ ts, Gl X (tyNm t) ∧ X.mg (tyNm t) = none) (h16 : ns.length ≤ lim) (hg0 : Gl X "isinstance") (hm0 : X.mg "isinstance" = none) (hn : notStar ea = true) (ha : PE X ea (rdE g W f)) :
    PE X (.Call (.Name "isinstance" p) [ea, .Tuple (names ts ps) kk tp] [] pos) (rdE g W (vIsi f ts)) :=
  PE.imp (pe_callB call_isiT hg0 hm0 boot_isi (pa_cons (pe_s ha) (pa_cons (pe_tup (pa_tys h hl hg)) pa_nil (star_cons rfl)) (star_cons hn)) (by decide) (by decide) (star_cons hn) (back_pl (star_pl rfl))) fun σ H Q ⟨x, φ, ρ, h0, rs, rep, c⟩ => by
    refine RD.bind (k := fun ρ a h => ofO h ((tyS h a).map fun t' => .v (.bl (ts.any (isTy t'))))) KV.mono rs rep c fun b1 H1 φ1 h1 s1 st1 rs1 rep1 p1 c1 => ?_
    obtain ⟨r, e1, q⟩ := Cond.ofO c1
    cases e2 : tyS h1 s1 with
    | none => rw [e2] at e1; cases e1
    | some t' =>
      rw [e2] at e1
      cases e1
      obtain ⟨ty, hle⟩ := tyS_ok rep1 p1 e2
      refine tTys_run ⟨by rw [List.length_map]; exact lim_le h16, fun p hp => ?_⟩
      have k := new_same (o := .tup (ns.map V.ty)) hp
      have s2 := step_of (φ := φ1) k
      have d2 := DenS.step s2 p1
      have rep2 := rep1.same k
      exact ⟨b1, p, ns.map V.ty, _, ns.map Value.type, _, rfl, upd_same, clsV_tys ns, by rw [hK]; exact (tyS_ok rep2 d2 e2).1, kit_any hle (tyNms_ok h), q φ1 _ _ s2 rep2 (by simp [KV, Den])⟩
end
end VM

set_option maxHeartbeats 1000000
/-! enumerate, zip over lists and tuples in any mix. -/
namespace VM
open PySem PySem.Spec PyProof.Rows L2 RZ

/-- a list (true), a tuple (false) -/
def SqK (κ : Bool) (K : PySem.W.Frag) (H : Hp) (a : Addr) (xs : List V) : Prop := match κ with
  | true => SqL K H a xs
  | false => SqT K H a xs
def AtK (κ : Bool) (h : Heap) (it l : Addr) (i : Nat) : Prop := match κ with
  | true => h.IsListIter it l i
  | false => h.IsTupleIter it l i
def InK (κ : Bool) (h : Heap) (l : Addr) (its : Array Value) : Prop := match κ with
  | true => h.IsList l its
  | false => h.IsTuple l its
def nmSK (κ : Bool) : String := if κ then "list_iterator" else "tuple_iterator"
def obK (κ : Bool) (l : Addr) : Obj := { cls := .type (nmSK κ), data := .fields #[.ref l, .int 0 0] }
section
variable {κ : Bool}
theorem AtK.at {h h' : Heap} {it l : Addr} {i : Nat} (q : AtK κ h it l i) (k : ∀ o, h.get? it = some o → h'.get? it = some o) : AtK κ h' it l i := by
  cases κ with
  | true => exact Heap.IsListIter.at q k
  | false => exact Heap.IsTupleIter.at q k
theorem AtK.cell {h : Heap} {it l : Addr} {i : Nat} (q : AtK κ h it l i) : ∃ o, h.get? it = some o ∧ ∀ v, o.data ≠ .cell v := by
  cases κ with
  | true => obtain ⟨o, e, _, d⟩ := q; exact ⟨o, e, fun v z => by rw [d] at z; cases z⟩
  | false => obtain ⟨o, e, _, d⟩ := q; exact ⟨o, e, fun v z => by rw [d] at z; cases z⟩
theorem AtK.first {h : Heap} {it l : Addr} (e : h.get? it = some (obK κ l)) : AtK κ h it l 0 := by
  cases κ with
  | true => exact ⟨_, e, rfl, rfl⟩
  | false => exact ⟨_, e, rfl, rfl⟩
theorem InK.at {h h' : Heap} {l : Addr} {its : Array Value} (q : InK κ h l its) (k : ∀ o, h.get? l = some o → h'.get? l = some o) : InK κ h' l its := by
  cases κ with
  | true => exact Heap.IsList.at q k
  | false => exact Heap.IsTuple.at q k
theorem InK.lt {h : Heap} {l : Addr} {its : Array Value} (q : InK κ h l its) : l < h.objs.size := by
  cases κ with
  | true => obtain ⟨o, e, _⟩ := q; exact Heap.lt_size e
  | false => obtain ⟨o, e, _⟩ := q; exact Heap.lt_size e
/-- what such an iterator draws from i0 on -/
theorem drawsK {prog : Program} {w : World} {A : Around} (hh : A.handled = none) (it l : Addr) (hne : l ≠ it) (its : Array Value) (i0 : Nat) :
    Draws prog w A it [it, l] (max its.size i0) (fun i v => its[i]? = some v) (fun i h => AtK κ h it l i ∧ InK κ h l its ∧ i0 ≤ i) where
  live := fun _ _ st => let ⟨o, ho, _⟩ := st.1.cell; ⟨o, ho⟩
  frame := fun _ _ _ st hk => ⟨st.1.at fun o e => hk it (by simp) o e, st.2.1.at fun o e => hk l (by simp) o e, st.2.2⟩
  item := fun i s Q E hi ⟨s1, s2, s3⟩ hQ => by
    have hi' : i < its.size := by omega
    have e : its[i]? = some its[i] := by simp [hi']
    cases κ with
    | true => exact wpAny_nextOf_list_item s1 s2 e fun h' hit' hs' => hQ _ h' s.toks e ⟨hit', Heap.IsList.extBut s2 hs'.extBut hne, by omega⟩ hs'
    | false => exact RZ.nextOf_tuple_item s1 s2 e fun h' hit' hs' => hQ _ h' s.toks e ⟨hit', Heap.IsTuple.extBut s2 hs'.extBut hne, by omega⟩ hs'
  done := fun s Q E ⟨s1, s2, s3⟩ hE => by
    have e : its[max its.size i0]? = none := Array.getElem?_eq_none (by omega)
    cases κ with
    | true => exact wpAny_nextOf_list_end hh s1 s2 e hE
    | false => exact RZ.nextOf_tuple_end hh s1 s2 e hE
theorem beginsK (l : Addr) (its : Array Value) : Begins (.ref l) (obK κ l) fun h => InK κ h l its := by
  cases κ with
  | true => exact begins_list l its
  | false => exact begins_tuple l its
section
variable {X : Cx} {pins : List (Addr × Obj)} {σ : L2.St} {H : Hp} {s : Shared} {a : Addr} {xs ys : List V}
theorem sqK_in (I : Inv X pins σ H s) (h : SqK κ X.K H a xs) : ∃ its : List Value, Vals xs its ∧ InK κ s.heap a its.toArray := by
  cases κ with
  | true => obtain ⟨its, r, p, _⟩ := I.list h; exact ⟨its, r, p.isList⟩
  | false => obtain ⟨its, r, p, _⟩ := I.tuple h; exact ⟨its, r, p⟩
theorem sqK_inj (I : Inv X pins σ H s) (h : SqK κ X.K H a xs) (h' : SqK κ X.K H a ys) : xs = ys := by
  cases κ with
  | true => exact I.list_inj h h'
  | false => exact I.tuple_inj h h'
end
/-! ### enumerate -/
theorem meets_enumB {v : Value} {o : Obj} {H : Heap → Prop} (B : Begins v o H) :
    Meets (Builtin.«enumerate.__new__» ⟨[.type "enumerate", v], []⟩) (fun _ R s => H s.heap ∧
      R (.ok (.ret (.ref (s.heap.push o).objs.size))) { s with heap := (s.heap.push o).push { cls := .type "enumerate", data := .fields #[.none, .bool false, .ref s.heap.objs.size, rawInt 0, .none, .none] } }) :=
  .of_wp fun prog w A R s h => by
    obtain ⟨hp, g, d, tk, os⟩ := s
    obtain ⟨h1, h⟩ := h
    have hsub := sub_enumerate
    have q1 : ∀ {A' : Around} {E Q : Value → Shared → Prop}, Q (.ref hp.objs.size) ⟨hp.push o, g, d, tk, os⟩ → wpAny (model prog w) A' (pyIter v) Q E ⟨hp, g, d, tk, os⟩ := fun q => B.iter prog w _ _ ⟨hp, g, d, tk, os⟩ _ h1 q
    wp_walk using q1
    refine wpAny_stack_any fun st => wpAny_pure ?_
    split
    · rename_i c _ _ _ _ _
      cases (c == Value.type "enumerate") <;> (wp_walk using q1; exact ⟨_, rfl, h⟩)
    · wp_walk using q1
      exact ⟨_, rfl, h⟩
theorem call_enumB {prog : Program} {w : World} {A : Around} {E : Value → Shared → Prop} {s : Shared} {v : Value} {o : Obj} {H : Heap → Prop} {Q : Value → Shared → Prop} (B : Begins v o H) (h1 : H s.heap)
    (h : ∀ h', IsEnum h' (s.heap.objs.size + 1) s.heap.objs.size 0 .none → h'.get? s.heap.objs.size = some o → (∀ b u, s.heap.get? b = some u → h'.get? b = some u) → Q (.ref (s.heap.objs.size + 1)) { s with heap := h' }) :
    wpAny (model prog w) A (call (.type "enumerate") [v]) Q E s := by
  refine callType_new F.called_enumerate (by decide) (F.typeCall_enumerate_1 _) (F.newCall_enumerate_1 _) (fun obj => F.args_object_init_2 obj _) F.entry_enumerate_new (meets_enumB B) ⟨h1, ?_⟩
  have hz : (s.heap.push o).objs.size = s.heap.objs.size + 1 := Heap.size_push ..
  have he := Heap.get?_push_size (s.heap.push o) (o := { cls := .type "enumerate", data := .fields #[.none, .bool false, .ref s.heap.objs.size, rawInt 0, .none, .none] }) rfl
  show _ ∧ _
  rw [hz] at he ⊢
  exact ⟨⟨_, he, rfl⟩, h _ he (Heap.get?_push_of_some _ (Heap.get?_push_size _ B.free)) fun b u x => Heap.get?_push_of_some _ (Heap.get?_push_of_some _ x)⟩
def IteK (K : PySem.W.Frag) (κ : Bool) (a : Addr) : It :=
  ⟨fun i H => ∃ (xs : List V) (x : V), SqK κ K H a xs ∧ xs[i]? = some x,
   fun i H v H' => ∃ T x, v = .ref T ∧ H T = none ∧ H' = upd H T (.tup [.int (i : Nat), x]) ∧ ∀ xs, SqK κ K H a xs → xs[i]? = some x,
   fun i H => ∃ xs : List V, SqK κ K H a xs ∧ xs.length ≤ i⟩
theorem turn_enumK {P : Program} {w : World} {K : PySem.W.Frag} {elts : List Expr} {kk : Nat} {tpos : Pos} (a e it : Addr) (hne : e ≠ it) (hae : e ≠ a) (hai : a ≠ it) :
    Turn P w K (.Tuple elts kk tpos) (IteK K κ a) [e, it] e (fun i h => (∃ old, IsEnum h e it ((i : Nat) : Int) old) ∧ AtK κ h it a i) where
  mem := by simp
  obj := fun i h st b hb => by
    obtain ⟨⟨old, he⟩, hi⟩ := st
    have e' : b = e ∨ b = it := by simpa using hb
    rcases e' with rfl | rfl
    · exact ⟨_, he, fun v q => nomatch q⟩
    · exact hi.cell
  keep := fun i h h' st k => let ⟨⟨old, he⟩, hi⟩ := st; ⟨⟨old, k e (by simp) _ he⟩, hi.at fun o q => k it (by simp) o q⟩
  item := by
    intro X hP hw hK hc i pins s σ H E I hf st hg
    subst hP hw hK
    obtain ⟨⟨old, he⟩, hit⟩ := st
    obtain ⟨xs, x, hq, hx⟩ := hg
    obtain ⟨its, rv, p⟩ := sqK_in I hq
    obtain ⟨u, hu, ru⟩ := rv.get hx
    have hel : e < s.heap.objs.size := Heap.lt_size he
    have hil : it < s.heap.objs.size := let ⟨_, q, _⟩ := hit.cell; Heap.lt_size q
    have hlt : i < max its.toArray.size i := by
      have : i < its.length := (List.getElem?_eq_some_iff.mp hu).1
      simp
      omega
    refine wpAny_pyNext_enum_itemD (drawsK (κ := κ) (A := X.A.in1) (I.ok.hd hc) it a hai its.toArray i) he ⟨hit, p, Nat.le_refl _⟩ hlt hne (by simp [hne, hae]) fun y h' tk hy ho hst hT hsz hk => ?_
    have hy' : y = u := by
      have : its[i]? = some y := by simpa using hy
      rw [hu] at this; cases this; rfl
    subst hy'
    refine ⟨_, rfl, wpAny_letOwnedTupleGo_enum (s := { s with heap := h', toks := tk + 1 }) ho fun h'' he' sb => ?_⟩
    have hT2 := (sb.2 _ (Nat.ne_of_gt hel)).trans hT
    have new : ObjOk X.prog X.w (upd H s.heap.objs.size (.tup [.int (i : Nat), x])) h'' s.heap.objs.size (.tup [.int (i : Nat), x]) :=
      ⟨by show 2 ≤ sizeLine; decide, [.int i tk, y], .cons ⟨_, rfl⟩ (.cons ru .nil), ⟨_, hT2, rfl, _, rfl⟩⟩
    have I1 : Inv X pins σ (upd H s.heap.objs.size (.tup [.int (i : Nat), x])) { s with heap := h'', toks := tk + 1 } :=
      I.turnedNew (ch := [e, it]) (fun b ob hb q => (sb.2 b (fun z => hb (by simp [z]))).trans (hk b ob (fun z => hb (by simp [z])) (fun z => hb (by simp [z])) q)) hf (Nat.le_refl _) new
    refine ⟨.ref s.heap.objs.size, _, I1, rfl, ⟨_, x, rfl, I.hok.fresh (Nat.le_refl _), rfl, fun ys hy => by rw [sqK_inj I hy hq]; exact hx⟩, ⟨⟨y, ?_⟩, hst.1.at fun o q => (sb.2 it (Ne.symm hne)).trans q⟩, fun b hb => ?_⟩
    · have e1 : ((i + 1 : Nat) : Int) = (i : Int) + 1 := by omega
      rw [e1]; exact he'
    · have hb' : b < s.heap.objs.size := by
        have e' : b = e ∨ b = it := by simpa using hb
        rcases e' with rfl | rfl
        · exact hel
        · exact hil
      rw [upd_ne (Nat.ne_of_lt hb')]
      exact (hf b hb).1
  done := by
    intro X hP hw hK hc i pins s σ H E I hf st hg
    subst hP hw hK
    obtain ⟨⟨old, he⟩, hit⟩ := st
    obtain ⟨xs, hq, hx⟩ := hg
    obtain ⟨its, rv, p⟩ := sqK_in I hq
    have hl := rv.length
    have hm : max its.toArray.size i = i := by simp; omega
    have D := drawsK (κ := κ) (prog := X.prog) (w := X.w) (A := X.A.in1) (I.ok.hd hc) it a hai its.toArray i
    rw [hm] at D
    exact wpAny_pyNext_enum_endD D he ⟨hit, p, Nat.le_refl _⟩ fun h' eb => ⟨rfl, I.turnedL (t' := s.toks) (ch := [e, it]) (fun b o hb q => eb b o (fun z => hb (by simp [z])) q) hf⟩
  self := fun A i s Q E st h => let ⟨⟨_, he⟩, _⟩ := st; wpAny_pyIter_enum he h
def iEnumK (K : PySem.W.Frag) (ta : TA) : TI := fun σ H R => ta σ H fun vs H1 => ∃ κ a xs, vs = [.ref a] ∧ SqK κ K H1 a xs ∧ R (IteK K κ a) H1
theorem pi_enumK {X : Cx} {e : Expr} {ta : TA} {p pos tpos : Pos} {elts : List Expr} {kk : Nat} (hg : Gl X "enumerate") (hm : X.mg "enumerate" = none) (ha : PA X [e] ta) (hs : starEach [e] X.env = [(false, eval e X.env)] := by rfl) :
    PI X (.Tuple elts kk tpos) (.Call (.Name "enumerate" p) [e] [] pos) (iEnumK X.K ta) := by
  refine ⟨fun pins s σ H R I h => ?_⟩
  refine Call_ (ld_blt I hg hm boot_enumerate (callWith_type1 (thn (ha.run pos pins s σ H _ I h) fun us s1 ⟨vs, H1, I1, r1, κ, a, xs, ex, hq, q⟩ => ?_) hs rfl))
  subst ex
  cases r1 with
  | cons r rr =>
    cases rr
    cases r
    obtain ⟨its, rv, p'⟩ := sqK_in I1 hq
    have al := p'.lt
    refine call_enumB (beginsK a its.toArray) p' fun h' he hit hk => wpAny_pyIter_enum he ?_
    have I2 : Inv X pins σ H1 { s1 with heap := h' } := I1.kept (t' := s1.toks) hk
    refine ⟨s1.heap.objs.size + 1, [s1.heap.objs.size + 1, s1.heap.objs.size], _, _, H1, rfl, I2, turn_enumK a (s1.heap.objs.size + 1) s1.heap.objs.size (Nat.succ_ne_self _) (Nat.ne_of_gt (Nat.lt_succ_of_lt al)) (Nat.ne_of_lt al), ⟨⟨.none, he⟩, AtK.first hit⟩, fun b hb => ?_, q⟩
    have hle : s1.heap.objs.size ≤ b := by
      have e' : b = s1.heap.objs.size + 1 ∨ b = s1.heap.objs.size := by simpa using hb
      rcases e' with rfl | rfl
      · exact Nat.le_succ _
      · exact Nat.le_refl _
    exact I1.fpOk hle (I1.hok.fresh hle)
end
/-! ### zip -/
def ItzK (K : PySem.W.Frag) (κ κ' : Bool) (a b : Addr) : It :=
  ⟨fun i H => ∃ (xs ys : List V) (x y : V), SqK κ K H a xs ∧ SqK κ' K H b ys ∧ xs[i]? = some x ∧ ys[i]? = some y,
   fun i H v H' => ∃ T x y, v = .ref T ∧ H T = none ∧ H' = upd H T (.tup [x, y]) ∧ (∀ xs, SqK κ K H a xs → xs[i]? = some x) ∧ ∀ ys, SqK κ' K H b ys → ys[i]? = some y,
   fun i H => ∃ xs ys : List V, SqK κ K H a xs ∧ SqK κ' K H b ys ∧ (xs.length ≤ i ∨ ys.length ≤ i)⟩
theorem turn_zipK {P : Program} {w : World} {K : PySem.W.Frag} {κ κ' : Bool} {elts : List Expr} {kk : Nat} {tpos : Pos} {a b z TI TO i1 i2 : Addr} (D : ZipSep2 z TI TO i1 i2 [i1, a] [i2, b]) (h1a : a ≠ i1) (h2b : b ≠ i2) :
    Turn P w K (.Tuple elts kk tpos) (ItzK K κ κ' a b) [z, TI, TO, i1, i2] z (fun i h => IsZip h z TI TO .none ∧ IsTupOf2 h TI (.ref i1) (.ref i2) ∧ (∃ x y, IsTupOf2 h TO x y) ∧ AtK κ h i1 a i ∧ AtK κ' h i2 b i) where
  mem := by simp
  obj := fun i h st c hc => by
    obtain ⟨hz, hTI, ⟨x, y, hTO⟩, h1, h2⟩ := st
    have e' : c = z ∨ c = TI ∨ c = TO ∨ c = i1 ∨ c = i2 := by simpa using hc
    rcases e' with rfl | rfl | rfl | rfl | rfl
    · exact ⟨_, hz, fun v q => nomatch q⟩
    · exact ⟨_, hTI, fun v q => nomatch q⟩
    · exact ⟨_, hTO, fun v q => nomatch q⟩
    · exact h1.cell
    · exact h2.cell
  keep := fun i h h' st k => by
    obtain ⟨hz, hTI, ⟨x, y, hTO⟩, h1, h2⟩ := st
    exact ⟨k z (by simp) _ hz, k TI (by simp) _ hTI, ⟨x, y, k TO (by simp) _ hTO⟩, h1.at fun o q => k i1 (by simp) o q, h2.at fun o q => k i2 (by simp) o q⟩
  item := by
    intro X hP hw hK hc i pins s σ H E I hf st hg
    subst hP hw hK
    obtain ⟨hz, hTI, ⟨x0, y0, hTO⟩, h1, h2⟩ := st
    obtain ⟨xs, ys, x, y, hqx, hqy, hx, hy⟩ := hg
    obtain ⟨its, rv, p⟩ := sqK_in I hqx
    obtain ⟨its2, rv2, p2⟩ := sqK_in I hqy
    obtain ⟨u, hu, ru⟩ := rv.get hx
    obtain ⟨u2, hu2, ru2⟩ := rv2.get hy
    have hzl : z < s.heap.objs.size := Heap.lt_size hz
    have lt1 : i < max its.toArray.size i := by
      have : i < its.length := (List.getElem?_eq_some_iff.mp hu).1
      simp
      omega
    have lt2 : i < max its2.toArray.size i := by
      have : i < its2.length := (List.getElem?_eq_some_iff.mp hu2).1
      simp
      omega
    refine wpAny_pyNext_zipD2_item D (drawsK (κ := κ) (A := X.A.in1) (I.ok.hd hc) i1 a h1a its.toArray i) (drawsK (κ := κ') (A := X.A.in1) (I.ok.hd hc) i2 b h2b its2.toArray i) hz hTI hTO ⟨h1, p, Nat.le_refl _⟩ ⟨h2, p2, Nat.le_refl _⟩ lt1 lt2 fun y1 y2 h' tk e1 e2 z' TO' d1 d2 hT hsz hk => ?_
    have ey : y1 = u := by
      have : its[i]? = some y1 := by simpa using e1
      rw [hu] at this; cases this; rfl
    have ey2 : y2 = u2 := by
      have : its2[i]? = some y2 := by simpa using e2
      rw [hu2] at this; cases this; rfl
    subst ey ey2
    refine ⟨_, rfl, wpAny_letOwnedTupleGo_zip (s := { s with heap := h', toks := tk }) z' fun h'' z'' sb => ?_⟩
    have hT2 := (sb.2 _ (Nat.ne_of_gt hzl)).trans hT
    have new : ObjOk X.prog X.w (upd H s.heap.objs.size (.tup [x, y])) h'' s.heap.objs.size (.tup [x, y]) :=
      ⟨by show 2 ≤ sizeLine; decide, [y1, y2], .cons ru (.cons ru2 .nil), ⟨_, hT2, rfl, _, rfl⟩⟩
    have I1 : Inv X pins σ (upd H s.heap.objs.size (.tup [x, y])) { s with heap := h'', toks := tk } :=
      I.turnedNew (ch := [z, TI, TO, i1, i2]) (fun c o hb q => (sb.2 c (fun q' => hb (by simp [q']))).trans (hk c o (fun q' => hb (by simp [q'])) (fun q' => hb (by simp [q'])) (fun q' => hb (by simp [q'])) (fun q' => hb (by simp [q'])) q)) hf (Nat.le_refl _) new
    refine ⟨.ref s.heap.objs.size, _, I1, rfl, ⟨_, x, y, rfl, I.hok.fresh (Nat.le_refl _), rfl, fun l hl => by rw [sqK_inj I hl hqx]; exact hx, fun l hl => by rw [sqK_inj I hl hqy]; exact hy⟩, ⟨z'', ?_, ⟨y1, y2, ?_⟩, ?_, ?_⟩, fun c hcm => ?_⟩
    · exact (sb.2 _ D.TIz).trans (hk _ _ D.TIz D.TITO D.TIi1 D.TIi2 hTI)
    · exact (sb.2 _ D.TOz).trans TO'
    · exact d1.1.at fun o q => (sb.2 _ D.zi1.symm).trans q
    · exact d2.1.at fun o q => (sb.2 _ D.zi2.symm).trans q
    · have hlt : c < s.heap.objs.size := by
        have e' : c = z ∨ c = TI ∨ c = TO ∨ c = i1 ∨ c = i2 := by simpa using hcm
        rcases e' with q | q | q | q | q
        · rw [q]; exact hzl
        · rw [q]; exact Heap.lt_size hTI
        · rw [q]; exact Heap.lt_size hTO
        · rw [q]; obtain ⟨_, e1, _⟩ := h1.cell; exact Heap.lt_size e1
        · rw [q]; obtain ⟨_, e2, _⟩ := h2.cell; exact Heap.lt_size e2
      rw [upd_ne (Nat.ne_of_lt hlt)]
      exact (hf c hcm).1
  done := by
    intro X hP hw hK hc i pins s σ H E I hf st hg
    subst hP hw hK
    obtain ⟨hz, hTI, ⟨x0, y0, hTO⟩, h1, h2⟩ := st
    obtain ⟨xs, ys, hqx, hqy, hend⟩ := hg
    obtain ⟨its, rv, p⟩ := sqK_in I hqx
    obtain ⟨its2, rv2, p2⟩ := sqK_in I hqy
    have l1 := rv.length
    have l2 := rv2.length
    have he : i = max its.toArray.size i ∨ i = max its2.toArray.size i := by
      rcases hend with q | q
      · exact .inl (by simp; omega)
      · exact .inr (by simp; omega)
    exact wpAny_pyNext_zipD2_end D (drawsK (κ := κ) (A := X.A.in1) (I.ok.hd hc) i1 a h1a its.toArray i) (drawsK (κ := κ') (A := X.A.in1) (I.ok.hd hc) i2 b h2b its2.toArray i) hz hTI hTO ⟨h1, p, Nat.le_refl _⟩ ⟨h2, p2, Nat.le_refl _⟩ (Nat.le_max_right ..) (Nat.le_max_right ..) he fun h' tk hk =>
      ⟨rfl, I.turnedL (t' := tk) (ch := [z, TI, TO, i1, i2]) (fun c o hb q => hk c o (fun q' => hb (by simp [q'])) (fun q' => hb (by simp [q'])) (fun q' => hb (by simp [q'])) (fun q' => hb (by simp [q'])) q) hf⟩
  self := fun A i s Q E st h => wpAny_pyIter_zip st.1 h
def iZipK (K : PySem.W.Frag) (ta : TA) : TI := fun σ H R => ta σ H fun vs H1 => ∃ κ κ' a b xs ys, vs = [.ref a, .ref b] ∧ SqK κ K H1 a xs ∧ SqK κ' K H1 b ys ∧ R (ItzK K κ κ' a b) H1
theorem pi_zipK {X : Cx} {e e2 : Expr} {ta : TA} {p pos tpos : Pos} {elts : List Expr} {kk : Nat} (hg : Gl X "zip") (hm : X.mg "zip" = none) (ha : PA X [e, e2] ta)
    (hs : starEach [e, e2] X.env = (false, eval e X.env) :: starEach [e2] X.env := by rfl) (hpl : (backTo pos (starEach [e2] X.env)).any (·.1) = false := by rfl) :
    PI X (.Tuple elts kk tpos) (.Call (.Name "zip" p) [e, e2] [] pos) (iZipK X.K ta) := by
  refine ⟨fun pins s σ H R I h => ?_⟩
  refine Call_ (ld_blt I hg hm boot_zip (callWith_type1 (thn (ha.run pos pins s σ H _ I h) fun us s1 ⟨vs, H1, I1, r1, κ, κ', a, b, xs, ys, ex, hqx, hqy, q⟩ => ?_) hs hpl))
  subst ex
  cases r1 with
  | cons r rr =>
    cases rr with
    | cons r' rr =>
      cases rr
      cases r
      cases r'
      have fresh5 : ∀ c, c ∈ [s1.heap.objs.size + 4, s1.heap.objs.size + 2, s1.heap.objs.size + 3, s1.heap.objs.size, s1.heap.objs.size + 1] → FpOk X pins H1 c := fun c hcm => by
        have hle : s1.heap.objs.size ≤ c := by
          have e' : c = s1.heap.objs.size + 4 ∨ c = s1.heap.objs.size + 2 ∨ c = s1.heap.objs.size + 3 ∨ c = s1.heap.objs.size ∨ c = s1.heap.objs.size + 1 := by simpa using hcm
          rcases e' with rfl | rfl | rfl | rfl | rfl
          · exact Nat.le_add_right _ _
          · exact Nat.le_add_right _ _
          · exact Nat.le_add_right _ _
          · exact Nat.le_refl _
          · exact Nat.le_add_right _ _
        exact I1.fpOk hle (I1.hok.fresh hle)
      obtain ⟨its, rv, p1⟩ := sqK_in I1 hqx
      obtain ⟨its2, rv2, p2⟩ := sqK_in I1 hqy
      have la := p1.lt
      have lb := p2.lt
      refine zip_begins2 (beginsK a its.toArray) (beginsK b its2.toArray) p1 p2 fun h' hz hTI hTO h1 h2 hsz hk => wpAny_pyIter_zip hz ?_
      have I2 : Inv X pins σ H1 { s1 with heap := h' } := I1.kept (t' := s1.toks) hk
      exact ⟨s1.heap.objs.size + 4, [s1.heap.objs.size + 4, s1.heap.objs.size + 2, s1.heap.objs.size + 3, s1.heap.objs.size, s1.heap.objs.size + 1], _, _, H1, rfl, I2,
        turn_zipK (zip_sep2 (fp1 := [a]) (fp2 := [b]) (by simpa using la) (by simpa using lb)) (Nat.ne_of_lt la) (Nat.ne_of_lt (Nat.lt_succ_of_lt lb)), ⟨hz, hTI, ⟨_, _, hTO⟩, AtK.first h1, AtK.first h2⟩, fresh5, q⟩
end VM

/-! What is walked; targets. -/
namespace VM
open PySem PySem.Spec PyProof.Rows L2 RZ
def tupS : S → Bool
  | .v (.tup _) => true
  | _ => false
section
variable {g : GS} {x : Addr → Prop} {φ φ' : Phi} {h : Hs} {H H' : Hp}
theorem seqAll_ok {s : S} {v : V} {us : List U} {b : Bool} (r : RepH g x φ h H) (d : DenS g x φ H s v) (e : seqAll h s = some (b, us)) : ∃ a vs, v = .ref a ∧ DenL g (ow φ x) H us vs ∧ b = !tupS s ∧ (b = true → SqL g.K H a vs) ∧ (b = false → SqT g.K H a vs) := by
  have main : seqS h s = some (b, us) → b = (!tupS s) → ∃ a vs, v = .ref a ∧ DenL g (ow φ x) H us vs ∧ b = !tupS s ∧ (b = true → SqL g.K H a vs) ∧ (b = false → SqT g.K H a vs) := fun e hb => by
    cases b with
    | true =>
      obtain ⟨a, vs, rfl, d, sq⟩ := seqL_ok r d e
      exact ⟨a, vs, rfl, d, hb, fun _ => .inl (.inl sq), (fun z => Bool.noConfusion z)⟩
    | false =>
      obtain ⟨a, vs, rfl, d, sq⟩ := seqT_ok r d e
      exact ⟨a, vs, rfl, d, hb, (fun z => Bool.noConfusion z), fun _ => sq.sq⟩
  cases s with
  | r n =>
    refine main e ?_
    have e : (match h[n]? with
      | some (MO.lst xs) => some (true, xs)
      | some (.lck xs) => some (true, xs)
      | _ => none) = some (b, us) := e
    split at e <;> cases e <;> rfl
  | v u =>
    cases u with
    | frz xs =>
      cases e
      obtain ⟨a, vs, rfl, d, sq⟩ := frz_ok d
      exact ⟨a, vs, rfl, d, rfl, fun _ => sq, (fun z => Bool.noConfusion z)⟩
    | tup xs => cases e; exact main rfl rfl
    | lst xs => cases e; exact main rfl rfl
    | _ => cases e
theorem sqK_of {κ b : Bool} {K : PySem.W.Frag} {H : Hp} {a : Addr} {vs : List V} (hb : b = κ) (hL : b = true → SqL K H a vs) (hT : b = false → SqT K H a vs) : SqK κ K H a vs := by
  subst hb
  cases b with
  | true => exact hL rfl
  | false => exact hT rfl
/-- a source, the iterator that walks it -/
def SrcJ (g : GS) (x : Addr → Prop) (φ : Phi) (H : Hp) : Src → It → Prop
  | .seq s, J => ∃ a, DenS g x φ H s (.ref a) ∧ ((tupS s = false ∧ J = Itl g.K a) ∨ (tupS s = true ∧ J = Itt g.K a))
  | .str z, J => J = Its z
  | .enm s, J => ∃ a, DenS g x φ H s (.ref a) ∧ J = IteK g.K (!tupS s) a
  | .zip s t, J => ∃ a b, DenS g x φ H s (.ref a) ∧ DenS g x φ H t (.ref b) ∧ J = ItzK g.K (!tupS s) (!tupS t) a b
  | .rng lo st n, J => (J = Itr lo n ∧ st = 1) ∨ J = Itc lo st n
theorem DenS.lift {x' : Addr → Prop} (k : Keep (ow φ x) H (ow φ' x') H') (l : φ.length ≤ φ'.length) (bk : ∀ (n : Nat) (l : OA), n < φ.length → φ'[n]? = some (some l) → φ[n]? = some (some l)) : ∀ {s : S} {v : V}, DenS g x φ H s v → DenS g x' φ' H' s v
  | .v u, v, h => Den.keep k u v h
  | .r n, v, ⟨h1, h2⟩ => ⟨Nat.lt_of_lt_of_le h1 l, fun l hl => h2 l (bk n l h1 hl)⟩
theorem SrcJ.lift {x' : Addr → Prop} (k : Keep (ow φ x) H (ow φ' x') H') (l : φ.length ≤ φ'.length) (bk : ∀ (n : Nat) (l : OA), n < φ.length → φ'[n]? = some (some l) → φ[n]? = some (some l)) : ∀ {s : Src} {J : It}, SrcJ g x φ H s J → SrcJ g x' φ' H' s J
  | .seq s, J, ⟨a, d, q⟩ => ⟨a, d.lift k l bk, q⟩
  | .str z, J, q => q
  | .enm s, J, ⟨a, d, q⟩ => ⟨a, d.lift k l bk, q⟩
  | .zip s t, J, ⟨a, b, d, d2, q⟩ => ⟨a, b, d.lift k l bk, d2.lift k l bk, q⟩
  | .rng lo st n, J, q => q
theorem SrcJ.step (st : Step φ H φ' H') {s : Src} {J : It} (q : SrcJ g x φ H s J) : SrcJ g x φ' H' s J := q.lift (st.keep x) st.len st.back
theorem at_of {us : List U} {vs : List V} {o : Addr → Prop} {i : Nat} {u : U} (d : DenL g o H us vs) (e : us[i]? = some u) : ∃ v, vs[i]? = some v ∧ Den g o H u v := d.get e
theorem src_at {src : Src} {J : It} {i : Nat} {u : U} (rep : RepH g x φ h H) (sj : SrcJ g x φ H src J) (e : srcAt h src i = some u) : J.go i H ∧ ∀ v H', J.yld i H v H' → (∀ a, H a ≠ none → H' a = H a) ∧ Den g (ow φ x) H' u v := by
  cases src with
  | seq s =>
    obtain ⟨a, d, q⟩ := sj
    simp only [srcAt] at e
    cases e1 : seqAll h s with
    | none => rw [e1] at e; cases e
    | some p =>
      obtain ⟨b, us⟩ := p
      rw [e1] at e
      obtain ⟨a', vs, ea, dl, hb, hL, hT⟩ := seqAll_ok rep d e1
      cases ea
      obtain ⟨w, e2, dw⟩ := at_of dl e
      rcases q with ⟨ht, rfl⟩ | ⟨ht, rfl⟩
      · rw [ht] at hb
        have sq := hL hb
        refine ⟨⟨vs, w, sq, e2⟩, fun v H' ⟨e3, e4⟩ => ?_⟩
        subst e3
        have := e4 vs sq
        rw [e2] at this
        cases this
        exact ⟨fun _ _ => rfl, dw⟩
      · rw [ht] at hb
        have sq := hT hb
        refine ⟨⟨vs, w, sq, e2⟩, fun v H' ⟨e3, e4⟩ => ?_⟩
        subst e3
        have := e4 vs sq
        rw [e2] at this
        cases this
        exact ⟨fun _ _ => rfl, dw⟩
  | str z =>
    cases (show J = Its z from sj)
    simp only [srcAt] at e
    cases e1 : z.cps.toList[i]? with
    | none => rw [e1] at e; cases e
    | some c =>
      rw [e1] at e
      cases e
      have hi : i < z.cps.size := by
        have := (List.getElem?_eq_some_iff.mp e1).1
        simpa using this
      refine ⟨hi, fun v H' ⟨e3, c', e4, e5⟩ => ?_⟩
      subst e3
      have : z.cps.toList[i]? = z.cps[i]? := by simp
      rw [e1, e4] at this
      cases this
      exact ⟨fun _ _ => rfl, e5⟩
  | enm s =>
    obtain ⟨a, d, rfl⟩ := sj
    simp only [srcAt] at e
    cases e1 : seqAll h s with
    | none => rw [e1] at e; cases e
    | some p =>
      obtain ⟨b, us⟩ := p
      rw [e1] at e
      obtain ⟨a', vs, ea, dl, hb, hL, hT⟩ := seqAll_ok rep d e1
      cases ea
      dsimp only at e
      cases e6 : us[i]? with
      | none => rw [e6] at e; cases e
      | some u' =>
        rw [e6] at e
        cases e
        obtain ⟨w, e2, dw⟩ := at_of dl e6
        have sq := sqK_of hb hL hT
        refine ⟨⟨vs, w, sq, e2⟩, fun v H' ⟨T, y, e3, hT2, e4, e5⟩ => ?_⟩
        subst e4 e3
        have := e5 vs sq
        rw [e2] at this
        cases this
        obtain ⟨_, _, dn⟩ := new_tup rep hT2 (us := [.int i, u']) (vs := [.int i, w]) ⟨_, _, rfl, rfl, _, _, rfl, dw, rfl⟩
        exact ⟨new_same hT2, dn⟩
  | zip s t =>
    obtain ⟨a, b, d, d2, q⟩ := sj
    simp only [srcAt] at e
    cases e1 : seqAll h s with
    | none => rw [e1] at e; cases e
    | some p =>
      cases e1' : seqAll h t with
      | none => rw [e1, e1'] at e; cases e
      | some p' =>
        obtain ⟨b1, us⟩ := p
        obtain ⟨b2, ws⟩ := p'
        rw [e1, e1'] at e
        dsimp only at e
        obtain ⟨a', vs, ea, dl, hb, hL, hT⟩ := seqAll_ok rep d e1
        cases ea
        obtain ⟨a', vs', ea, dl', hb', hL', hT'⟩ := seqAll_ok rep d2 e1'
        cases ea
        cases e6 : us[i]? with
        | none => rw [e6] at e; cases e
        | some u1 =>
          cases e7 : ws[i]? with
          | none => rw [e6, e7] at e; cases e
          | some u2 =>
            rw [e6, e7] at e
            cases e
            obtain ⟨w1, f1, dw1⟩ := at_of dl e6
            obtain ⟨w2, f2, dw2⟩ := at_of dl' e7
            subst q
            have sq := sqK_of hb hL hT
            have sq' := sqK_of hb' hL' hT'
            refine ⟨⟨vs, vs', w1, w2, sq, sq', f1, f2⟩, fun v H' ⟨T, y, z, e3, hT2, e4, e5, e8⟩ => ?_⟩
            subst e4 e3
            have z1 := e5 vs sq
            have z2 := e8 vs' sq'
            rw [f1] at z1
            rw [f2] at z2
            cases z1
            cases z2
            obtain ⟨_, _, dn⟩ := new_tup rep hT2 (us := [u1, u2]) (vs := [w1, w2]) ⟨_, _, rfl, dw1, _, _, rfl, dw2, rfl⟩
            exact ⟨new_same hT2, dn⟩
  | rng lo st n =>
    simp only [srcAt] at e
    split at e
    · rename_i hi
      cases e
      rcases sj with ⟨rfl, rfl⟩ | rfl
      · refine ⟨hi, fun v H' ⟨e3, e4⟩ => ?_⟩
        subst e3
        exact ⟨fun _ _ => rfl, by rw [e4]; show V.int _ = V.int _; rw [Int.mul_one]⟩
      · refine ⟨hi, fun v H' ⟨e3, e4⟩ => ?_⟩
        subst e3
        exact ⟨fun _ _ => rfl, e4⟩
    · cases e
theorem src_end {src : Src} {J : It} {i : Nat} (rep : RepH g x φ h H) (sj : SrcJ g x φ H src J) (e : srcEnd h src i = true) : J.stop i H := by
  cases src with
  | seq s =>
    obtain ⟨a, d, q⟩ := sj
    simp only [srcEnd] at e
    cases e1 : seqAll h s with
    | none => rw [e1] at e; cases e
    | some p =>
      obtain ⟨b, us⟩ := p
      rw [e1] at e
      have e := Nat.le_of_ble_eq_true e
      obtain ⟨a', vs, ea, dl, hb, hL, hT⟩ := seqAll_ok rep d e1
      cases ea
      rw [dl.len] at e
      rcases q with ⟨ht, rfl⟩ | ⟨ht, rfl⟩
      · rw [ht] at hb
        exact ⟨vs, hL hb, e⟩
      · rw [ht] at hb
        exact ⟨vs, hT hb, e⟩
  | str z =>
    cases (show J = Its z from sj)
    have e := Nat.le_of_ble_eq_true e
    show z.cps.size ≤ i
    simpa using e
  | enm s =>
    obtain ⟨a, d, rfl⟩ := sj
    simp only [srcEnd] at e
    cases e1 : seqAll h s with
    | none => rw [e1] at e; cases e
    | some p =>
      obtain ⟨b, us⟩ := p
      rw [e1] at e
      have e := Nat.le_of_ble_eq_true e
      obtain ⟨a', vs, ea, dl, hb, hL, hT⟩ := seqAll_ok rep d e1
      cases ea
      rw [dl.len] at e
      exact ⟨vs, sqK_of hb hL hT, e⟩
  | zip s t =>
    obtain ⟨a, b, d, d2, q⟩ := sj
    simp only [srcEnd] at e
    cases e1 : seqAll h s with
    | none => rw [e1] at e; cases e
    | some p =>
      cases e1' : seqAll h t with
      | none => rw [e1, e1'] at e; cases e
      | some p' =>
        obtain ⟨b1, us⟩ := p
        obtain ⟨b2, ws⟩ := p'
        rw [e1, e1'] at e
        dsimp only at e
        obtain ⟨a', vs, ea, dl, hb, hL, hT⟩ := seqAll_ok rep d e1
        cases ea
        obtain ⟨a', vs', ea, dl', hb', hL', hT'⟩ := seqAll_ok rep d2 e1'
        cases ea
        have e := (Bool.or_eq_true_iff.mp e).imp Nat.le_of_ble_eq_true Nat.le_of_ble_eq_true
        rw [dl.len, dl'.len] at e
        subst q
        exact ⟨vs, vs', sqK_of hb hL hT, sqK_of hb' hL' hT', e⟩
  | rng lo st n =>
    have e' : n ≤ i := Nat.le_of_ble_eq_true e
    rcases sj with ⟨rfl, rfl⟩ | rfl
    · exact e'
    · exact e'
end
def KI : Kd (Src × Nat) It := fun g x _ p _ φ J H => SrcJ g x φ H p.1 J
theorem KI.mono : KI.Mono := fun _ _ _ _ _ _ _ _ _ _ p => p
abbrev rdI (g : GS) (W : WX) (f : EvI) : TI := RD g W KI f
section
variable {X : Cx} {g : GS} {W : WX} {tg e ea eb ec : Expr} {es : List Expr} {f k l : EvE} {fs gs : EvL} {pos p : Pos}
theorem pi_val2 (hK : X.K = g.K) (he : PE X e (rdE g W f)) : PI X tg e (rdI g W (iVal f)) := ⟨fun pins s σ H R I ⟨x, φ, ρ, h, rs, rep, c⟩ => by
  have c : Cond g x W KI σ R φ H ((sE f ρ h).bind fun s h => match s with
    | .v (.str z) => .ok (.str z, z.cps.toList.length) h
    | s => match seqAll h s with
      | some (_, us) => .ok (.seq s, us.length) h
      | none => .bad) := c
  cases e1 : sE f ρ h with
  | bad => rw [e1] at c; exact c.elim
  | ex z h1 =>
    rw [e1] at c
    exact (pi_list (pe_s he)).run pins s σ H R I ⟨x, φ, ρ, h, rs, rep, by rw [e1]; exact c⟩
  | ok sl h1 =>
    rw [e1] at c
    have sq : ∀ (b : Bool) (us : List U), seqAll h1 sl = some (b, us) → Cond g x W KI σ R φ H (.ok (.seq sl, us.length) h1) → wpAny (model X.prog X.w) X.A (eval e X.env) (fun v s1 => wpAny (model X.prog X.w) X.A (pyIter v) (PIE X pins σ tg R) X.xe s1) X.xe s := fun b us e2 c => by
      cases b with
      | true =>
        refine (pi_list (pe_s he)).run pins s σ H R I ⟨x, φ, ρ, h, rs, rep, ?_⟩
        rw [e1]
        intro φ' v H' st rep' d
        obtain ⟨a, vs, rfl, dl, hb, hL, _⟩ := seqAll_ok rep' d e2
        rw [hK]
        exact ⟨a, rfl, ⟨vs, hL rfl⟩, c φ' _ H' st rep' ⟨a, d, .inl ⟨by simpa using hb.symm, rfl⟩⟩⟩
      | false =>
        refine (pi_tup (pe_s he)).run pins s σ H R I ⟨x, φ, ρ, h, rs, rep, ?_⟩
        rw [e1]
        intro φ' v H' st rep' d
        obtain ⟨a, vs, rfl, dl, hb, _, hT⟩ := seqAll_ok rep' d e2
        rw [hK]
        exact ⟨a, rfl, ⟨vs, hT rfl⟩, c φ' _ H' st rep' ⟨a, d, .inr ⟨by simpa using hb.symm, rfl⟩⟩⟩
    have gen : Cond g x W KI σ R φ H (match seqAll h1 sl with
      | some (_, us) => .ok (.seq sl, us.length) h1
      | none => .bad) → wpAny (model X.prog X.w) X.A (eval e X.env) (fun v s1 => wpAny (model X.prog X.w) X.A (pyIter v) (PIE X pins σ tg R) X.xe s1) X.xe s := fun c => by
      cases e2 : seqAll h1 sl with
      | none => rw [e2] at c; exact c.elim
      | some p =>
        rw [e2] at c
        exact sq p.1 p.2 e2 c
    cases sl with
    | r n => exact gen c
    | v u =>
      cases u with
      | str z =>
        refine (pi_str (pe_s he)).run pins s σ H R I ⟨x, φ, ρ, h, rs, rep, ?_⟩
        rw [e1]
        intro φ' v H' st rep' d
        exact ⟨z, d, c φ' _ H' st rep' rfl⟩
      | _ => exact gen c⟩
theorem pi_enm2 (hK : X.K = g.K) {elts : List Expr} {kk : Nat} {tpos : Pos} (hg : Gl X "enumerate") (hm : X.mg "enumerate" = none) (hn : notStar e = true) (he : PE X e (rdE g W f)) : PI X (.Tuple elts kk tpos) (.Call (.Name "enumerate" p) [e] [] pos) (rdI g W (iEnm f)) :=
  ⟨fun pins s σ H R I hh => (pi_enumK hg hm (pa_cons (pe_s he) pa_nil (star_cons hn)) (star_cons hn)).run pins s σ H R I (by
    obtain ⟨x, φ, ρ, h, rs, rep, c⟩ := hh
    refine RD.bind (k := fun ρ s h => match seqAll h s with
      | some (_, us) => .ok (.enm s, us.length) h
      | none => .bad) KI.mono rs rep c fun b1 H1 φ1 h1 s1 st1 rs1 rep1 p1 c1 => ?_
    have c1 : Cond g x W KI σ R φ1 H1 (match seqAll h1 s1 with
      | some (_, us) => .ok (.enm s1, us.length) h1
      | none => .bad) := c1
    cases e2 : seqAll h1 s1 with
    | none => rw [e2] at c1; exact c1.elim
    | some pr =>
      obtain ⟨b, us⟩ := pr
      rw [e2] at c1
      obtain ⟨a, vs, rfl, dl, hb, hL, hT⟩ := seqAll_ok rep1 p1 e2
      rw [hK]
      exact ⟨_, a, vs, rfl, sqK_of hb hL hT, c1 φ1 _ H1 Step.refl rep1 ⟨a, p1, rfl⟩⟩)⟩
theorem pi_zip2 (hK : X.K = g.K) {elts : List Expr} {kk : Nat} {tpos : Pos} (hg : Gl X "zip") (hm : X.mg "zip" = none) (hn : notStar ea = true) (hn2 : notStar eb = true) (ha : PE X ea (rdE g W f)) (hb : PE X eb (rdE g W k)) : PI X (.Tuple elts kk tpos) (.Call (.Name "zip" p) [ea, eb] [] pos) (rdI g W (iZp f k)) :=
  ⟨fun pins s σ H R I hh => (pi_zipK hg hm (pa_cons (pe_s ha) (pa_cons (pe_s hb) pa_nil (star_cons hn2)) (star_cons hn)) (star_cons hn) (back_pl (star_pl (by simp [hn2])))).run pins s σ H R I (by
    obtain ⟨x, φ, ρ, h, rs, rep, c⟩ := hh
    refine RD.bind (k := fun ρ s h => (sE k ρ h).bind fun t h => match seqAll h s, seqAll h t with
      | some (_, us), some (_, ws) => .ok (.zip s t, min us.length ws.length) h
      | _, _ => .bad) KI.mono rs rep c fun b1 H1 φ1 h1 s1 st1 rs1 rep1 p1 c1 => ?_
    refine RD.bind (k := fun ρ t h => match seqAll h s1, seqAll h t with
      | some (_, us), some (_, ws) => .ok (.zip s1 t, min us.length ws.length) h
      | _, _ => .bad) KI.mono rs1 rep1 c1 fun b2 H2 φ2 h2 s2 st2 rs2 rep2 p2 c2 => ?_
    have c2 : Cond g x W KI σ R φ2 H2 (match seqAll h2 s1, seqAll h2 s2 with
      | some (_, us), some (_, ws) => .ok (.zip s1 s2, min us.length ws.length) h2
      | _, _ => .bad) := c2
    cases e2 : seqAll h2 s1 with
    | none => rw [e2] at c2; exact c2.elim
    | some pr =>
      cases e3 : seqAll h2 s2 with
      | none => rw [e2, e3] at c2; exact c2.elim
      | some pr2 =>
        obtain ⟨b, us⟩ := pr
        obtain ⟨d, ws⟩ := pr2
        rw [e2, e3] at c2
        have p1' := DenS.step st2 p1
        obtain ⟨a, vs, ea, dl, hb, hL, hT⟩ := seqAll_ok rep2 p1' e2
        subst ea
        obtain ⟨a', vs', ea, dl', hb', hL', hT'⟩ := seqAll_ok rep2 p2 e3
        subst ea
        rw [hK]
        exact ⟨_, _, a, a', vs, vs', rfl, sqK_of hb hL hT, sqK_of hb' hL' hT', c2 φ2 _ H2 Step.refl rep2 ⟨a, a', p1', p2, rfl⟩⟩)⟩
theorem rngN_ok {a b d : Int} {n : Nat} (h : rngN a b d = some n) : (-1000000 ≤ a ∧ a ≤ 16000000 ∧ -1000000 ≤ b ∧ b ≤ 16000000) ∧ ((d = 1 ∧ n = (b - a).toNat) ∨ (d = -1 ∧ n = (a - b).toNat)) := by
  unfold rngN at h
  split at h
  · rename_i hr
    refine ⟨hr, ?_⟩
    split at h
    · cases h; exact .inl ⟨by assumption, rfl⟩
    · split at h
      · cases h; exact .inr ⟨by assumption, rfl⟩
      · cases h
  · cases h
theorem rgC_up {i j : Int} (ha : -(2 ^ 62) ≤ i) (ha' : i < 2 ^ 62) (hb : -(2 ^ 62) ≤ j) (hb' : j < 2 ^ 62) : RgC i j 1 (j - i).toNat := by
  refine ⟨by decide, by decide, ?_, PyProof.Rows.rangeSize_nat i j⟩
  unfold Builtin.Range.small
  rw [PyProof.Rows.rangeSize_nat]
  simp only [Builtin.Range.rangeFitsLong, Bool.and_eq_true, Bool.or_eq_true, decide_eq_true_eq, beq_iff_eq, show ((1 : Int) > 0) by decide, if_true]
  omega
def iRngK (ss : List S) (h : Hs) : Rs (Src × Nat) := match ss with
  | [.v (.int n)] => ofO h ((rngN 0 n 1).map fun k => (.rng 0 1 k, k))
  | [.v (.int a), .v (.int b)] => ofO h ((rngN a b 1).map fun k => (.rng a 1 k, k))
  | [.v (.int a), .v (.int b), .v (.int d)] => ofO h ((rngN a b d).map fun k => (.rng a d k, k))
  | _ => .bad
theorem pi_rng2 (hg : Gl X "range") (hm : X.mg "range" = none) (hn : es.all notStar = true) (h0 : es ≠ []) (h3 : es.length ≤ 3) (l : Len fs es.length) (ha : PA X es (rdL g W fs)) : PI X tg (.Call (.Name "range" p) es [] pos) (rdI g W (iRng fs)) := by
  have rd : ∀ {σ : L2.St} {H : Hp} {R : It → Hp → Prop}, rdI g W (iRng fs) σ H R → RD g W (KLn es.length) fs σ H fun vs H1 => ∃ x φ h ss, RepH g x φ h H1 ∧ DenSs g x φ H1 ss vs ∧ ss.length = es.length ∧ Cond g x W KI σ R φ H1 (iRngK ss h) := fun {σ H R} ⟨x, φ, ρ, h, rs, rep, c⟩ => by
    refine RD.bind (k := fun ρ ss h => iRngK ss h) KI.mono rs rep c fun b1 H1 φ1 h1 s1 st1 rs1 rep1 p1 c1 => ?_
    exact ⟨x, φ1, h1, s1, rep1, p1.1, p1.2, c1⟩
  have one : ∀ {x : Addr → Prop} {φ : Phi} {H : Hp} {u : S} {ss : List S} {vs : List V}, DenSs g x φ H (u :: ss) vs → ∃ w ws, vs = w :: ws ∧ DenS g x φ H u w ∧ DenSs g x φ H ss ws := fun h => h
  cases es with
  | nil => exact absurd rfl h0
  | cons a es =>
    cases es with
    | nil =>
      refine ⟨fun pins s σ H R I hh => (pi_range1 hg hm ha (star_cons (by simpa using hn))).run pins s σ H R I (len_rd l ?_)⟩
      obtain ⟨x, φ, ρ, h, rs, rep, c⟩ := rd hh
      refine ⟨x, φ, ρ, h, rs, rep, Cond.mono (fun vs H1 ⟨x1, φ1, h1, ss, rep1, d, l1, c1⟩ => ?_) c⟩
      cases ss with
      | nil => cases l1
      | cons u ss =>
        cases ss with
        | cons _ _ => cases l1
        | nil =>
          obtain ⟨w, ws, rfl, dw, dws⟩ := d
          cases (show ws = [] from dws)
          cases u with
          | r n => exact c1.elim
          | v u =>
            cases u with
            | int n =>
              obtain ⟨r, e1, q⟩ := Cond.ofO (show Cond g x1 W KI σ R φ1 H1 (ofO h1 ((rngN 0 n 1).map fun k => (Src.rng 0 1 k, k))) from c1)
              cases e2 : rngN 0 n 1 with
              | none => rw [e2] at e1; cases e1
              | some k =>
                rw [e2] at e1
                cases e1
                obtain ⟨⟨_, _, b1, b2⟩, hd | hd⟩ := rngN_ok e2
                · refine ⟨n, by rw [show w = .int n from dw], by omega, by omega, q φ1 _ H1 Step.refl rep1 (.inl ⟨?_, rfl⟩)⟩
                  rw [hd.2, Int.sub_zero]
                · exact absurd hd.1 (by decide)
            | _ => exact c1.elim
    | cons b es =>
      cases es with
      | nil =>
        obtain ⟨n1, n2⟩ := Bool.and_eq_true_iff.mp (show (notStar a && [b].all notStar) = true from hn)
        refine ⟨fun pins s σ H R I hh => (pi_range2 hg hm ha (by rw [star_cons n1, star_cons (by simpa using n2)]; rfl) (by rw [star_cons (by simpa using n2)]; rfl)).run pins s σ H R I (len_rd l ?_)⟩
        obtain ⟨x, φ, ρ, h, rs, rep, c⟩ := rd hh
        refine ⟨x, φ, ρ, h, rs, rep, Cond.mono (fun vs H1 ⟨x1, φ1, h1, ss, rep1, d, l1, c1⟩ => ?_) c⟩
        cases ss with
        | nil => cases l1
        | cons u ss =>
          cases ss with
          | nil => cases l1
          | cons u2 ss =>
            cases ss with
            | cons _ _ => cases l1
            | nil =>
              obtain ⟨w, ws, rfl, dw, w2, ws2, rfl, dw2, dws⟩ := d
              cases (show ws2 = [] from dws)
              cases u with
              | r n => exact c1.elim
              | v u =>
                cases u2 with
                | r n => cases u <;> exact c1.elim
                | v u2 =>
                  cases u with
                  | int m =>
                    cases u2 with
                    | int n =>
                      obtain ⟨r, e1, q⟩ := Cond.ofO (show Cond g x1 W KI σ R φ1 H1 (ofO h1 ((rngN m n 1).map fun k => (Src.rng m 1 k, k))) from c1)
                      cases e2 : rngN m n 1 with
                      | none => rw [e2] at e1; cases e1
                      | some k =>
                        rw [e2] at e1
                        cases e1
                        obtain ⟨⟨_, _, b1, b2⟩, hd | hd⟩ := rngN_ok e2
                        · refine ⟨m, n, by rw [show w = .int m from dw, show w2 = .int n from dw2], ⟨by omega, by omega, by omega, by omega⟩, q φ1 _ H1 Step.refl rep1 (.inl ⟨?_, rfl⟩)⟩
                          rw [hd.2]
                        · exact absurd hd.1 (by decide)
                    | _ => exact c1.elim
                  | _ => cases u2 <;> exact c1.elim
      | cons c es =>
        cases es with
        | cons _ _ => simp at h3
        | nil =>
          obtain ⟨n1, n2⟩ := Bool.and_eq_true_iff.mp (show (notStar a && [b, c].all notStar) = true from hn)
          refine ⟨fun pins s σ H R I hh => (pi_range3 hg hm ha (star_cons n1) (back_pl (star_pl n2))).run pins s σ H R I (len_rd l ?_)⟩
          obtain ⟨x, φ, ρ, h, rs, rep, c⟩ := rd hh
          refine ⟨x, φ, ρ, h, rs, rep, Cond.mono (fun vs H1 ⟨x1, φ1, h1, ss, rep1, d, l1, c1⟩ => ?_) c⟩
          cases ss with
          | nil => cases l1
          | cons u ss =>
            cases ss with
            | nil => cases l1
            | cons u2 ss =>
              cases ss with
              | nil => cases l1
              | cons u3 ss =>
                cases ss with
                | cons _ _ => cases l1
                | nil =>
                  obtain ⟨w, ws, rfl, dw, w2, ws2, rfl, dw2, w3, ws3, rfl, dw3, dws⟩ := d
                  cases (show ws3 = [] from dws)
                  unfold iRngK at c1
                  split at c1
                  · rename_i heq; cases heq
                  · rename_i heq; cases heq
                  · rename_i a1 a2 a3 heq
                    cases heq
                    obtain ⟨r, e1, q⟩ := Cond.ofO c1
                    cases e2 : rngN a1 a2 a3 with
                    | none => rw [e2] at e1; cases e1
                    | some k =>
                      rw [e2] at e1
                      cases e1
                      obtain ⟨⟨b1, b2, b3, b4⟩, hd | hd⟩ := rngN_ok e2
                      · obtain ⟨rfl, rfl⟩ := hd
                        refine ⟨a1, a2, 1, _, by rw [show w = .int a1 from dw, show w2 = .int a2 from dw2, show w3 = .int 1 from dw3], rgC_up (by omega) (by omega) (by omega) (by omega), q φ1 _ H1 Step.refl rep1 (.inr rfl)⟩
                      · obtain ⟨rfl, rfl⟩ := hd
                        exact ⟨a1, a2, -1, _, by rw [show w = .int a1 from dw, show w2 = .int a2 from dw2, show w3 = .int (-1) from dw3], RgC.neg (by omega) (by omega) (by omega) (by omega), q φ1 _ H1 Step.refl rep1 (.inr rfl)⟩
                  · exact c1.elim
end
end VM

/-! Targets; list comprehensions. -/
namespace VM
open PySem PySem.Spec PyProof.Rows L2 RZ
/-- the slots beside is are as they were -/
def Off (is : List Nat) (σ σ' : L2.St) : Prop := σ'.length = σ.length ∧ ∀ i, i ∉ is → σ'[i]? = σ[i]?
theorem Off.refl {σ : L2.St} : Off [] σ σ := ⟨rfl, fun _ _ => rfl⟩
theorem Off.trans {is js : List Nat} {σ σ1 σ2 : L2.St} (a : Off is σ σ1) (b : Off js σ1 σ2) : Off (is ++ js) σ σ2 := ⟨b.1.trans a.1, fun i hi => by
  rw [List.mem_append, not_or] at hi
  rw [b.2 i hi.2, a.2 i hi.1]⟩
theorem off_set {i : Nat} {v : Option V} {σ : L2.St} : Off [i] σ (σ.set i v) := ⟨List.length_set .., fun j hj => by rw [List.getElem?_set_ne (fun e => hj (by rw [e]; simp))]⟩
theorem wipe_get {σ : L2.St} : ∀ {vs : List Nat} {i : Nat}, (wipe σ vs)[i]? = if i ∈ vs ∧ i < σ.length then some none else σ[i]?
  | [], i => by simp [wipe]
  | v :: vs, i => by
    unfold wipe
    by_cases e : v = i
    · subst e
      by_cases hl : v < σ.length
      · rw [List.getElem?_set_self (by rw [wipe_length]; exact hl)]
        simp [hl]
      · rw [List.getElem?_eq_none (by rw [List.length_set, wipe_length]; omega), if_neg (fun q => hl q.2), List.getElem?_eq_none (by omega)]
    · rw [List.getElem?_set_ne e, wipe_get]
      have : (i ∈ v :: vs ∧ i < σ.length) ↔ (i ∈ vs ∧ i < σ.length) := by
        simp only [List.mem_cons]
        constructor
        · rintro ⟨h | h, q⟩
          · exact absurd h.symm e
          · exact ⟨h, q⟩
        · rintro ⟨h, q⟩
          exact ⟨.inr h, q⟩
      by_cases h : i ∈ vs ∧ i < σ.length
      · rw [if_pos h, if_pos (this.mpr h)]
      · rw [if_neg h, if_neg (fun q => h (this.mp q))]
theorem wipe_off {is vs : List Nat} {σ σ' : L2.St} (h : Off is σ σ') (s : ∀ i ∈ is, i ∈ vs) : wipe σ' vs = wipe σ vs := List.ext_getElem? fun i => by
  rw [wipe_get, wipe_get, h.1]
  by_cases hv : i ∈ vs ∧ i < σ.length
  · rw [if_pos hv, if_pos hv]
  · rw [if_neg hv, if_neg hv]
    by_cases hi : i ∈ is
    · have : ¬ i < σ.length := fun q => hv ⟨s i hi, q⟩
      rw [List.getElem?_eq_none (by rw [h.1]; omega), List.getElem?_eq_none (by omega)]
    · exact h.2 i hi
theorem wipe_wipe {vs : List Nat} {σ : L2.St} : wipe (wipe σ vs) vs = wipe σ vs := List.ext_getElem? fun i => by
  rw [wipe_get, wipe_length]
  by_cases hv : i ∈ vs ∧ i < σ.length
  · rw [if_pos hv, wipe_get, if_pos hv]
  · rw [if_neg hv]
theorem wipeR_get {ρ : Rho} : ∀ {vs : List Nat} {i : Nat}, (wipeR ρ vs)[i]? = if i ∈ vs ∧ i < ρ.length then some none else ρ[i]?
  | [], i => by simp [wipeR]
  | v :: vs, i => by
    have hlen : ∀ vs : List Nat, (wipeR ρ vs).length = ρ.length := fun vs => by
      induction vs with
      | nil => rfl
      | cons v vs ih => unfold wipeR; rw [List.length_set, ih]
    unfold wipeR
    by_cases e : v = i
    · subst e
      by_cases hl : v < ρ.length
      · rw [List.getElem?_set_self (by rw [hlen]; exact hl)]
        simp [hl]
      · rw [List.getElem?_eq_none (by rw [List.length_set, hlen]; omega), if_neg (fun q => hl q.2), List.getElem?_eq_none (by omega)]
    · rw [List.getElem?_set_ne e, wipeR_get]
      have : (i ∈ v :: vs ∧ i < ρ.length) ↔ (i ∈ vs ∧ i < ρ.length) := by
        simp only [List.mem_cons]
        constructor
        · rintro ⟨h | h, q⟩
          · exact absurd h.symm e
          · exact ⟨h, q⟩
        · rintro ⟨h, q⟩
          exact ⟨.inr h, q⟩
      by_cases h : i ∈ vs ∧ i < ρ.length
      · rw [if_pos h, if_pos (this.mpr h)]
      · rw [if_neg h, if_neg (fun q => h (this.mp q))]
section
variable {g : GS} {x : Addr → Prop} {φ : Phi} {h : Hs} {H : Hp}
theorem RelS.wipe {ρ : Rho} {σ : L2.St} {vs : List Nat} (r : RelS g x φ H ρ σ) : RelS g x φ H (wipeR ρ vs) (L2.wipe σ vs) := by
  have hlen : ∀ vs : List Nat, (wipeR ρ vs).length = ρ.length := fun vs => by
    induction vs with
    | nil => rfl
    | cons v vs ih => unfold wipeR; rw [List.length_set, ih]
  refine ⟨by rw [hlen, wipe_length, r.len], fun i s e => ?_⟩
  rw [wipeR_get] at e
  by_cases hv : i ∈ vs ∧ i < ρ.length
  · rw [if_pos hv] at e
    cases e
  · rw [if_neg hv] at e
    obtain ⟨v, e1, d⟩ := r.at_ i s e
    refine ⟨v, ?_, d⟩
    rw [wipe_get, if_neg (by rw [← r.len]; exact hv)]
    exact e1
theorem RelS.set {ρ : Rho} {σ : L2.St} {i : Nat} {s : S} {v : V} (r : RelS g x φ H ρ σ) (d : DenS g x φ H s v) : RelS g x φ H (ρ.set i (some s)) (σ.set i (some v)) := by
  refine ⟨by rw [List.length_set, List.length_set, r.len], fun j s' e => ?_⟩
  by_cases e1 : i = j
  · subst e1
    have hl : i < ρ.length := by
      have := (List.getElem?_eq_some_iff.mp e).1
      rw [List.length_set] at this
      exact this
    rw [List.getElem?_set_self hl] at e
    cases e
    exact ⟨v, by rw [List.getElem?_set_self (by rw [← r.len]; exact hl)], d⟩
  · rw [List.getElem?_set_ne e1] at e
    obtain ⟨v', e2, d'⟩ := r.at_ j s' e
    exact ⟨v', by rw [List.getElem?_set_ne e1]; exact e2, d'⟩
theorem RelS.unset {ρ : Rho} {σ : L2.St} {i : Nat} {v : Option V} (r : RelS g x φ H ρ σ) : RelS g x φ H (ρ.set i none) (σ.set i v) := by
  refine ⟨by rw [List.length_set, List.length_set, r.len], fun j s' e => ?_⟩
  by_cases e1 : i = j
  · subst e1
    have hl : i < ρ.length := by
      have := (List.getElem?_eq_some_iff.mp e).1
      rw [List.length_set] at this
      exact this
    rw [List.getElem?_set_self hl] at e
    cases e
  · rw [List.getElem?_set_ne e1] at e
    obtain ⟨v', e2, d'⟩ := r.at_ j s' e
    exact ⟨v', by rw [List.getElem?_set_ne e1]; exact e2, d'⟩
theorem RelS.lift {x' : Addr → Prop} {φ' : Phi} {H' : Hp} {ρ : Rho} {σ : L2.St} (k : Keep (ow φ x) H (ow φ' x') H') (l : φ.length ≤ φ'.length) (bk : ∀ (n : Nat) (l : OA), n < φ.length → φ'[n]? = some (some l) → φ[n]? = some (some l)) (r : RelS g x φ H ρ σ) : RelS g x' φ' H' ρ σ :=
  ⟨r.len, fun i s e => let ⟨v, e1, d⟩ := r.at_ i s e; ⟨v, e1, d.lift k l bk⟩⟩
end
/-! ### targets -/
/-- a target's reading: which slots it may write, the store -/
def GD (g : GS) (is : List Nat) (f : EvG) : TG := fun v σ H Q => ∃ x φ ρ h r H0, RelS g x φ H ρ σ ∧ RepH g x φ h H ∧ KV g x H0 r h φ v H ∧ ∃ ρ' h', f r ρ h = .ok ρ' h' ∧
  ∀ φ' σ' H', Step φ H φ' H' → RelS g x φ' H' ρ' σ' → RepH g x φ' h' H' → Off is σ σ' → Q σ' H'
def GDs (g : GS) (is : List Nat) (f : EvGs) : TGs := fun vs σ H Q => ∃ x φ ρ h us, RelS g x φ H ρ σ ∧ RepH g x φ h H ∧ DenL g (ow φ x) H us vs ∧ ∃ ρ' h', f us ρ h = .ok ρ' h' ∧
  ∀ φ' σ' H', Step φ H φ' H' → RelS g x φ' H' ρ' σ' → RepH g x φ' h' H' → Off is σ σ' → Q σ' H'
/-- .. of one value -/
def GD1 (g : GS) (is : List Nat) (f : EvGs) : TG := fun v σ H Q => GDs g is f [v] σ H Q
theorem assign_cons {e : Expr} {es : List Expr} {env : Env} (h : notStar e = true) : assignEach (e :: es) env = (false, assign e env) :: assignEach es env := by
  cases e <;> first | rfl | (cases h; done)
theorem assign_pl {es : List Expr} {env : Env} (h : es.all notStar = true) : (assignEach es env).length = es.length ∧ ∀ q ∈ assignEach es env, q.1 = false := by
  induction es with
  | nil => exact ⟨rfl, fun q hq => by cases hq⟩
  | cons e es ih =>
    obtain ⟨h1, h2⟩ := Bool.and_eq_true_iff.mp (show (notStar e && es.all notStar) = true from h)
    obtain ⟨i1, i2⟩ := ih h2
    rw [assign_cons h1]
    refine ⟨by simp [i1], fun q hq => ?_⟩
    rcases List.mem_cons.mp hq with rfl | hq
    · rfl
    · exact i2 q hq
theorem find_pl {α : Type} : ∀ {l : List (Bool × α)}, (∀ q ∈ l, q.1 = false) → l.findIdx? (·.1) = none
  | [], _ => rfl
  | a :: l, h => by
    rw [List.findIdx?_cons, h a (by simp), find_pl fun q hq => h q (List.mem_cons_of_mem _ hq)]
    rfl
/-- a name that is stored here -/
structure Sto (X : Cx) (i : Nat) (x : Str) : Prop where
  at_ : X.N[i]? = some x
  loc : Loc X.env.scope x
  fn : X.fn x = true ∨ X.env.scope.names.lookup x = some .local
section
variable {X : Cx} {g : GS} {W : WX} {tg e ea eb ec : Expr} {es : List Expr} {f k l : EvE} {fs : EvL} {pos p : Pos} {gf : EvG} {gs : EvGs} {is js : List Nat}
theorem pg_nm (hN : X.N.Nodup) {i : Nat} {x : Str} (s : Sto X i x) : PG X (.Name x pos) (GD g [i] (gNm i)) := ⟨fun pins st σ H v u Q I r hh => (pg_name (pos := pos) hN s.at_ s.loc s.fn).run pins st σ H v u Q I r (by
  obtain ⟨y, φ, ρ, h, rv, H0, rs, rep, kv, ρ', h', e, q⟩ := hh
  unfold gNm at e
  cases e1 : rv.s with
  | none => rw [e1] at e; cases e
  | some sl =>
    rw [e1] at e
    cases e
    exact q φ _ H Step.refl (rs.set (KV.s kv e1)) rep off_set)⟩
theorem pg_nm1 (hN : X.N.Nodup) {i : Nat} {x : Str} (s : Sto X i x) {c : CC} : PG X (.Name x pos) (GD1 g [i] (evT1 c (.nm i))) := ⟨fun pins st σ H v u Q I r hh => (pg_name (pos := pos) hN s.at_ s.loc s.fn).run pins st σ H v u Q I r (by
  obtain ⟨y, φ, ρ, h, us, rs, rep, kv, ρ', h', e, q⟩ := hh
  rw [evT1] at e
  dsimp only at e
  split at e
  · rename_i u'
    cases e
    obtain ⟨w, ws, e2, d, dn⟩ := kv
    cases e2
    exact q φ _ H Step.refl (rs.set (s := .v u') d) rep off_set
  · cases e)⟩
theorem pgs_nil2 {c : CC} : PGs X [] (GDs g [] (evTs c .nil)) := ⟨fun pins st σ H vs us Q I r hh => pgs_nil.run pins st σ H vs us Q I r (by
  obtain ⟨y, φ, ρ, h, us, rs, rep, kv, ρ', h', e, q⟩ := hh
  rw [evTs] at e
  dsimp only at e
  split at e
  · cases e
    exact ⟨kv, q φ σ H Step.refl rs rep Off.refl⟩
  · cases e)⟩
theorem pgs_cons2 {c : CC} {t : Tg} {ts : Tgs} (hn : notStar e = true) (h1 : PG X e (GD g is (evG c t))) (h2 : PGs X es (GDs g js (evTs c ts))) : PGs X (e :: es) (GDs g (is ++ js) (evTs c (.cons t ts))) := ⟨fun pins st σ H vs us Q I r hh => (pgs_cons h1 h2 (by rw [assign_cons hn]; rfl)).run pins st σ H vs us Q I r (by
  obtain ⟨y, φ, ρ, h, us, rs, rep, kv, ρ', h', e, q⟩ := hh
  rw [evTs] at e
  dsimp only at e
  split at e
  · rename_i u us'
    obtain ⟨w, ws, rfl, d, ds⟩ := kv
    cases e1 : evG c t (.v u) ρ h with
    | bad => rw [e1] at e; cases e
    | ex z hz => rw [e1] at e; cases e
    | ok ρ1 h1 =>
      rw [e1] at e
      refine ⟨w, ws, rfl, y, φ, ρ, h, .v u, H, rs, rep, d, ρ1, h1, e1, fun φ1 σ1 H1 st1 rs1 rep1 o1 => ?_⟩
      exact ⟨y, φ1, ρ1, h1, us', rs1, rep1, DenL.keep (st1.keep y) _ _ ds, ρ', h', e, fun φ2 σ2 H2 st2 rs2 rep2 o2 => q φ2 σ2 H2 (st1.trans st2) rs2 rep2 (o1.trans o2)⟩
  · cases e)⟩
theorem evTs_len {c : CC} : ∀ {ts : Tgs} {us : List U} {ρ ρ' : Rho} {h h' : Hs} (n : Nat), (∀ us ρ h ρ' h', evTs c ts us ρ h = .ok ρ' h' → us.length = n) → evTs c ts us ρ h = .ok ρ' h' → us.length = n := fun n q e => q _ _ _ _ _ e
def tgLen : Tgs → Nat
  | .nil => 0
  | .cons _ ts => tgLen ts + 1
theorem tgs_len {c : CC} : ∀ {ts : Tgs} {us : List U} {ρ ρ' : Rho} {h h' : Hs}, evTs c ts us ρ h = .ok ρ' h' → us.length = tgLen ts
  | .nil, us, ρ, ρ', h, h', e => by
    rw [evTs] at e
    dsimp only at e
    split at e
    · rfl
    · cases e
  | .cons t ts, us, ρ, ρ', h, h', e => by
    rw [evTs] at e
    dsimp only at e
    split at e
    · rename_i u us'
      cases e1 : evG c t (.v u) ρ h with
      | bad => rw [e1] at e; cases e
      | ex z hz => rw [e1] at e; cases e
      | ok ρ1 h1 =>
        rw [e1] at e
        show us'.length + 1 = _
        rw [tgs_len (ts := ts) e]
        rfl
    · cases e
theorem pg_tp (hK : X.K = g.K) (hc : X.calm = true) {c : CC} {ts : Tgs} {kk : Nat} (hn : es.all notStar = true) (hl : es.length = tgLen ts) (h : PGs X es (GDs g is (evTs c ts))) : PG X (.Tuple es kk pos) (GD g is (gTp (evTs c ts))) := ⟨fun pins st σ H v u Q I r hh =>
  (pg_tup (pos := pos) (k := kk) (n := es.length) hc h (assign_pl hn).1 (find_pl (assign_pl hn).2)).run pins st σ H v u Q I r (by
    obtain ⟨y, φ, ρ, h, rv, H0, rs, rep, kv, ρ', h', e, q⟩ := hh
    unfold gTp at e
    split at e
    · rename_i us
      obtain ⟨a, vs, rfl, ta, d⟩ : Den g (ow φ y) H (.tup us) v := kv
      rw [hK]
      exact ⟨a, vs, rfl, ta.sq, by rw [← d.len, tgs_len e, hl], y, φ, ρ, h, us, rs, rep, d, ρ', h', e, q⟩
    · cases e)⟩
theorem pg_tp1 (hK : X.K = g.K) (hc : X.calm = true) {c : CC} {ts : Tgs} {kk : Nat} (hn : es.all notStar = true) (hl : es.length = tgLen ts) (h : PGs X es (GDs g is (evTs c ts))) : PG X (.Tuple es kk pos) (GD1 g is (evT1 c (.tp ts))) := ⟨fun pins st σ H v u Q I r hh =>
  (pg_tup (pos := pos) (k := kk) (n := es.length) hc h (assign_pl hn).1 (find_pl (assign_pl hn).2)).run pins st σ H v u Q I r (by
    obtain ⟨y, φ, ρ, h, us, rs, rep, kv, ρ', h', e, q⟩ := hh
    rw [evT1] at e
    dsimp only at e
    split at e
    · rename_i us
      obtain ⟨w, ws, e2, d, dn⟩ := kv
      cases e2
      obtain ⟨a, vs, rfl, ta, d⟩ : Den g (ow φ y) H (.tup us) v := d
      rw [hK]
      exact ⟨a, vs, rfl, ta.sq, by rw [← d.len, tgs_len e, hl], y, φ, ρ, h, us, rs, rep, d, ρ', h', e, q⟩
    · cases e)⟩
theorem gSubS_ok {h h' : Hs} {o i : S} {u : U} (e : gSubS h o i u = some h') : ∃ n k xs j, o = .r n ∧ i = .v (.int k) ∧ h[n]? = some (.lst xs) ∧ ixU xs.length k = some j ∧ h' = h.set n (.lst (xs.set j u)) := by
  unfold gSubS at e
  split at e
  · rename_i n k
    split at e
    · rename_i xs e1
      split at e
      · rename_i j e2
        cases e
        exact ⟨_, _, xs, j, rfl, rfl, e1, e2, rfl⟩
      · cases e
    · cases e
  · cases e
theorem pg_sub2 {pos : Pos} (hK : X.K = g.K) (ho : PE X ea (rdE g W f)) (hi : PE X eb (rdE g W k))
    (hx : ∀ v, assign (.Subscript ea eb pos) X.env v = (do
      let ov ← holding [v] (eval ea X.env)
      let iv ← holding [v, ov] (eval eb X.env)
      standAt pos
      holding [v, ov, iv] (setItem ov iv v)
      release [v, ov, iv] [])) : PG X (.Subscript ea eb pos) (GD g [] (VM.gSub f k)) := ⟨fun pins st σ H v u Q I r hh => (pg_sub (pe_s ho) (pe_s hi) set_list hx).run pins st σ H v u Q I r (by
  obtain ⟨y, φ, ρ, h, rv, H0, rs, rep, kv, ρ', h', e, q⟩ := hh
  unfold VM.gSub at e
  cases e1 : rv.u with
  | none => rw [e1] at e; cases e
  | some uu =>
    rw [e1] at e
    have hs : rv.s = some (.v uu) := by
      unfold RV.u at e1
      cases e2 : rv.s with
      | none => rw [e2] at e1; cases e1
      | some sl =>
        rw [e2] at e1
        cases sl with
        | v u' => cases e1; rfl
        | r n => cases e1
    have dv := KV.s kv hs
    dsimp only at e
    cases e2 : sE f ρ h with
    | bad => rw [e2] at e; cases e
    | ex z hz => rw [e2] at e; cases e
    | ok o h1 =>
      rw [e2] at e
      refine ⟨y, φ, ρ, h, rs, rep, ?_⟩
      rw [e2]
      intro φ1 ov H1 st1 rep1 d1
      have e : noEx ((sE k ρ h1).bind fun i h => match gSubS h o i uu with
        | some h => .ok ρ h
        | none => .bad) = .ok ρ' h' := e
      cases e3 : sE k ρ h1 with
      | bad => rw [e3] at e; cases e
      | ex z hz => rw [e3] at e; cases e
      | ok iv h2 =>
        rw [e3] at e
        refine ⟨y, φ1, ρ, h1, rs.step st1, rep1, ?_⟩
        rw [e3]
        intro φ2 iv' H2 st2 rep2 d2
        have e : noEx (match gSubS h2 o iv uu with
          | some h => .ok ρ h
          | none => .bad) = .ok ρ' h' := e
        cases e4 : gSubS h2 o iv uu with
        | none => rw [e4] at e; cases e
        | some h3 =>
          rw [e4] at e
          cases e
          obtain ⟨n, kk, xs, j, rfl, rfl, e5, e6, rfl⟩ := gSubS_ok e4
          have d1' := DenS.step st2 d1
          obtain ⟨a, vs, f1, rfl, f2, f3⟩ := own_list rep2 d1' e5
          have dv2 := DenS.step st2 (DenS.step st1 dv)
          have f4 := f3.set (u' := uu) (v' := v) dv2 j
          obtain ⟨r3, s3⟩ := rep2.setL (ob := .lst (xs.set j uu)) f1 (.inl ⟨_, rfl, rfl⟩) f4
          exact ⟨a, vs, kk, j, rfl, d2, f2, by rw [← f3.len]; exact e6, q φ2 σ _ ((st1.trans st2).trans s3) (((rs.step st1).step st2).step s3) r3 Off.refl⟩)⟩
end
/-! ### list comprehensions -/
abbrev W0 : WX := fun _ _ _ _ => False
/-- a new list that a comprehension fills: nobody's yet -/
def xD (x : Addr → Prop) (D : Addr) : Addr → Prop := fun a => x a ∨ a = D
section
variable {g : GS} {x : Addr → Prop} {φ φ' : Phi} {h : Hs} {H H' : Hp} {D : Addr}
theorem keepD (st : Step φ H φ' H') (hD : H D = none) : Keep (ow φ x) H (ow φ' (xD x D)) H' :=
  ⟨fun a n q => st.same a (fun z => n (.inl z)) q, st.grow, fun a q => by
    rcases q with q | q | q
    · exact (st.owns a q).imp .inl id
    · exact .inl (.inr q)
    · exact .inr (by rw [q]; exact hD)⟩
theorem RepH.outD (r : RepH g x φ h H) (hD : H D = none) {v : HO} : RepH g (xD x D) φ h (upd H D v) ∧ Step φ H φ (upd H D v) := by
  have sm := new_same (o := v) hD
  have st : Step φ H φ (upd H D v) := step_of sm
  refine ⟨⟨r.len, fun n l e => ?_, r.dead, r.nd, fun a ha q => ?_, fun a q => ?_⟩, st⟩
  · obtain ⟨ob, e1, q⟩ := r.at_ n l e
    exact ⟨ob, e1, q.keep (keepD st hD) fun a ha => sm a (q.there a ha)⟩
  · rcases q with q | q
    · exact r.apart a ha q
    · exact r.there ha (by rw [q]; exact hD)
  · rcases q with q | q
    · exact st.grow a (r.xs a q)
    · rw [q, upd_same]; simp
/-- the list grows -/
theorem RepH.putD {v : HO} (r : RepH g (xD x D) φ h H) (hD : H D ≠ none) : RepH g (xD x D) φ h (upd H D v) ∧ Keep (ow φ (xD x D)) H (ow φ (xD x D)) (upd H D v) := by
  have kp : Keep (ow φ (xD x D)) H (ow φ (xD x D)) (upd H D v) := ⟨fun a n _ => upd_ne fun e => n (.inr (.inr e)), fun a q => by
    by_cases e : a = D
    · rw [e, upd_same]; simp
    · rw [upd_ne e]; exact q, fun a q => .inl q⟩
  refine ⟨⟨r.len, fun n l e => ?_, r.dead, r.nd, r.apart, fun a q => kp.grow a (r.xs a q)⟩, kp⟩
  obtain ⟨ob, e1, q⟩ := r.at_ n l e
  exact ⟨ob, e1, q.keep kp fun a ha => upd_ne fun z => r.apart a (own_at e ha) (.inr z)⟩
/-- the list comes to the frame -/
theorem RepH.inD {us : List U} {vs : List V} (r : RepH g (xD x D) φ h H) (hD : H D = some (.lst vs)) (nx : ¬ x D) (d : DenL g (ow φ (xD x D)) H us vs) : RepH g x φ h H ∧ RepH g x (φ ++ [some [D]]) (h ++ [.lst us]) H := by
  have w1 : ∀ a, ow φ x a → ow φ (xD x D) a := fun a q => q.imp id .inl
  have w2 : ∀ a, ow (φ ++ [some [D]]) x a → ow φ (xD x D) a := fun a q => by
    rcases q with q | q
    · rcases own_app.mp q with q | q
      · exact .inl q
      · exact .inr (.inr (by simpa using q))
    · exact .inr (.inl q)
  have nd : ¬ own φ D := fun q => r.apart D q (.inr rfl)
  refine ⟨⟨r.len, fun n l e => ?_, r.dead, r.nd, fun a ha q => r.apart a ha (.inl q), fun a q => r.xs a (.inl q)⟩, ⟨by simp [r.len], fun n l e => ?_, fun n e => ?_, ?_, fun a ha q => ?_, fun a q => r.xs a (.inl q)⟩⟩
  · obtain ⟨ob, e1, q⟩ := r.at_ n l e
    exact ⟨ob, e1, q.keep (Keep.weak w1) fun _ _ => rfl⟩
  · by_cases hn : n < φ.length
    · rw [List.getElem?_append_left hn] at e
      obtain ⟨ob, e1, q⟩ := r.at_ n l e
      exact ⟨ob, by rw [List.getElem?_append_left (by rw [← r.len]; exact hn)]; exact e1, q.keep (Keep.weak w2) fun _ _ => rfl⟩
    · have hlt := (List.getElem?_eq_some_iff.mp e).1
      rw [List.length_append] at hlt
      have : n = φ.length := by simp at hlt; omega
      subst this
      simp at e
      subst e
      exact ⟨.lst us, by rw [r.len]; simp, D, vs, rfl, hD, DenL.weak w2 d⟩
  · by_cases hn : n < φ.length
    · rw [List.getElem?_append_left hn] at e
      rw [List.getElem?_append_left (by rw [← r.len]; exact hn)]
      exact r.dead n e
    · have hlt := (List.getElem?_eq_some_iff.mp e).1
      rw [List.length_append] at hlt
      have : n = φ.length := by simp at hlt; omega
      subst this
      simp at e
  · rw [filt_app, List.nodup_append]
    refine ⟨r.nd, by simp, fun a ha b hb e => ?_⟩
    simp at hb
    subst e hb
    exact nd (own_mem.mpr ha)
  · rcases own_app.mp ha with ha | ha
    · exact r.apart a ha (.inl q)
    · have : a = D := by simpa using ha
      exact nx (this ▸ q)
end
section
variable {X : Cx} {g : GS} {W : WX} {tg iter elt : Expr} {ifs : List Expr} {f : EvE} {it : EvI} {k : Rho → Hs → Rs Bool} {gs : EvGs} {is : List Nat} {pos : Pos} {scope : Scope} {own : List (Str × Nat)}
theorem lc_rd {σ : L2.St} {H : Hp} {Q : VK} {vs : List Nat} (his : ∀ i ∈ is, i ∈ vs) (hh : rdE g W (vLc gs it k f vs) σ H Q) :
    tLc (rdI g W it) (GD1 g is gs) (rdB g W0 k) (rdS g W0 (sE f)) vs σ H Q := by
  obtain ⟨x, φ, ρ, h, rs, rep, c⟩ := hh
  refine RD.bind (k := fun ρ p h => match compL p.1 gs k f (wipeR ρ vs) p.2 0 [] h with
    | .ok us h => .ok (.nw (.lst us)) h
    | _ => .bad) KV.mono rs rep c fun J H1 φ1 h1 p st1 rs1 rep1 p1 c1 => ?_
  intro D hD
  obtain ⟨src, n0⟩ := p
  have c1 : Cond g x W KV σ Q φ1 H1 (match compL src gs k f (wipeR ρ vs) n0 0 [] h1 with
    | .ok us h => .ok (.nw (.lst us)) h
    | _ => .bad) := c1
  cases e0 : compL src gs k f (wipeR ρ vs) n0 0 [] h1 with
  | bad => rw [e0] at c1; exact c1.elim
  | ex z hz => rw [e0] at c1; exact c1.elim
  | ok usF hF =>
  rw [e0] at c1
  have c1 : ∀ φ' b H', Step φ1 H1 φ' H' → RepH g x φ' hF H' → KV g x H1 (.nw (.lst usF)) hF φ' b H' → Q b H' := c1
  obtain ⟨r0, s0⟩ := rep1.outD (v := .lst []) hD
  refine ⟨fun i m Hc => ∃ φc hc acc accV, Step φ1 H1 φc Hc ∧ RepH g (xD x D) φc hc Hc ∧ Hc D = some (.lst accV) ∧ DenL g (ow φc (xD x D)) Hc acc accV ∧ compL src gs k f (wipeR ρ vs) m i acc hc = .ok usF hF, ⟨n0, φ1, h1, [], [], s0, r0, upd_same, rfl, e0⟩, ?_⟩
  rintro i m Hc ⟨φc, hc, acc, accV, st, rp, hDc, dl, ec⟩
  have kp := keepD (x := x) st hD
  have sj : SrcJ g (xD x D) φc Hc src J := SrcJ.lift kp st.len st.back p1
  have rsc : RelS g (xD x D) φc Hc (wipeR ρ vs) (L2.wipe σ vs) := (RelS.lift kp st.len st.back rs1).wipe
  cases m with
  | zero =>
    refine .inl ?_
    rw [compL] at ec
    split at ec
    · rename_i he
      cases ec
      refine ⟨src_end rp sj he, ?_⟩
      obtain ⟨q1, q2⟩ := rp.inD hDc (fun q => rep1.xs D q hD) dl
      exact c1 φc _ Hc st q1 ⟨[D], q2, rfl, fun a ha => by simp at ha; rw [ha]; exact hD⟩
    · cases ec
  | succ m =>
    refine .inr ?_
    rw [compL] at ec
    cases e1 : srcAt hc src i with
    | none => rw [e1] at ec; cases ec
    | some u =>
      rw [e1] at ec
      dsimp only at ec
      obtain ⟨go, yl⟩ := src_at rp sj e1
      refine ⟨go, fun Hn => ∃ φc hc acc accV, Step φ1 H1 φc Hn ∧ RepH g (xD x D) φc hc Hn ∧ Hn D = some (.lst accV) ∧ DenL g (ow φc (xD x D)) Hn acc accV ∧ compL src gs k f (wipeR ρ vs) m (i + 1) acc hc = .ok usF hF, fun Hn q => ⟨m, Nat.lt_succ_self m, q⟩, fun v Hy hy => ?_⟩
      obtain ⟨sm, dv⟩ := yl v Hy hy
      have sty : Step φc Hc φc Hy := step_of sm
      have rpy := rp.same sm
      cases e2 : gs [u] (wipeR ρ vs) hc with
      | bad => rw [e2] at ec; cases ec
      | ex z hz => rw [e2] at ec; cases ec
      | ok ρ2 h2 =>
        rw [e2] at ec
        replace ec : ((k ρ2 h2).bind fun b h => if b = true then
          (sE f ρ2 h).bind fun s h => match s.u with
            | some u => if acc.length < lim then compL src gs k f (wipeR ρ vs) m (i + 1) (acc ++ [u]) h else .bad
            | none => .bad
          else compL src gs k f (wipeR ρ vs) m (i + 1) acc h) = .ok usF hF := ec
        refine ⟨xD x D, φc, wipeR ρ vs, hc, [u], rsc.step sty, rpy, ⟨v, [], rfl, dv, rfl⟩, ρ2, h2, e2, fun φ2 σ2 H2 st2 rs2 rp2 of2 => ?_⟩
        have hDl : ∀ {φa φb : Phi} {Ha Hb : Hp} {ha : Hs}, RepH g (xD x D) φa ha Ha → Step φa Ha φb Hb → Ha D = some (.lst accV) → Hb D = some (.lst accV) := fun ra sa e => by
          rw [sa.same D (fun q => ra.apart D q (.inr rfl)) (by rw [e]; simp)]
          exact e
        have hDy : Hy D = some (.lst accV) := hDl rp sty hDc
        have hD2 : H2 D = some (.lst accV) := hDl rpy st2 hDy
        refine ⟨by rw [wipe_off of2 his, wipe_wipe], xD x D, φ2, ρ2, h2, rs2, rp2, ?_⟩
        cases e3 : k ρ2 h2 with
        | bad => rw [e3] at ec; cases ec
        | ex z hz => rw [e3] at ec; cases ec
        | ok b h3 =>
          rw [e3] at ec
          replace ec : (if b = true then
            (sE f ρ2 h3).bind fun s h => match s.u with
              | some u => if acc.length < lim then compL src gs k f (wipeR ρ vs) m (i + 1) (acc ++ [u]) h else .bad
              | none => .bad
            else compL src gs k f (wipeR ρ vs) m (i + 1) acc h3) = .ok usF hF := ec
          intro φ3 b' H3 st3 rp3 hb
          rw [show b' = b from hb]
          have hD3 : H3 D = some (.lst accV) := hDl rp2 st3 hD2
          have stA : Step φ1 H1 φ3 H3 := ((st.trans sty).trans st2).trans st3
          have dl3 : DenL g (ow φ3 (xD x D)) H3 acc accV := DenL.keep (((sty.trans st2).trans st3).keep _) _ _ dl
          cases b with
          | false =>
            rw [if_neg Bool.false_ne_true] at ec ⊢
            exact ⟨φ3, h3, acc, accV, stA, rp3, hD3, dl3, ec⟩
          | true =>
            rw [if_pos rfl] at ec ⊢
            refine ⟨xD x D, φ3, ρ2, h3, rs2.step st3, rp3, ?_⟩
            cases e4 : sE f ρ2 h3 with
            | bad => rw [e4] at ec; cases ec
            | ex z hz => rw [e4] at ec; cases ec
            | ok s h4 =>
              rw [e4] at ec
              replace ec : (match s.u with
                | some u => if acc.length < lim then compL src gs k f (wipeR ρ vs) m (i + 1) (acc ++ [u]) h4 else .bad
                | none => .bad) = .ok usF hF := ec
              intro φ4 y H4 st4 rp4 ds
              cases s with
              | r n => cases ec
              | v u' =>
                replace ec : (if acc.length < lim then compL src gs k f (wipeR ρ vs) m (i + 1) (acc ++ [u']) h4 else .bad) = .ok usF hF := ec
                split at ec
                · rename_i hl
                  have hD4 : H4 D = some (.lst accV) := hDl rp3 st4 hD3
                  have dl4 : DenL g (ow φ4 (xD x D)) H4 acc accV := DenL.keep (st4.keep _) _ _ dl3
                  obtain ⟨rp5, kp5⟩ := rp4.putD (v := .lst (accV ++ [y])) (by rw [hD4]; simp)
                  have stB := stA.trans st4
                  refine ⟨accV, hD4, by rw [← dl4.len, sizeLine_eq]; exact hl, φ4, h4, acc ++ [u'], accV ++ [y], ⟨fun a n q => ?_, fun a q => ?_, stB.owns, stB.len, stB.back, stB.fresh⟩, rp5, upd_same, DenL.keep kp5 _ _ (dl4.snoc (show Den g _ H4 u' y from ds)), ec⟩
                  · rw [upd_ne (fun e => q (by rw [e]; exact hD))]
                    exact stB.same a n q
                  · by_cases e : a = D
                    · rw [e, upd_same]; simp
                    · rw [upd_ne e]
                      exact stB.grow a q
                · cases ec
theorem fold_pl {e : Expr} {env : Env} (h : (match e with
    | .Set _ _ _ => false
    | _ => true) = true) : ∀ v, foldedSetIterable e env v = pure v := fun v => by
  unfold foldedSetIterable
  split
  · cases h
  · rfl
end
end VM

/-! Statements. -/
namespace VM
open PySem PySem.Spec PyProof.Rows L2 RZ
def CondS (g : GS) (x : Addr → Prop) (W : WX) (D : Ends) (φ : Phi) (H : Hp) : SR → Prop
  | .nx ρ h => ∀ φ' σ' H', Step φ H φ' H' → RelS g x φ' H' ρ σ' → RepH g x φ' h H' → D.nx σ' H'
  | .bk ρ h => ∀ φ' σ' H', Step φ H φ' H' → RelS g x φ' H' ρ σ' → RepH g x φ' h H' → D.bk σ' H'
  | .ct ρ h => ∀ φ' σ' H', Step φ H φ' H' → RelS g x φ' H' ρ σ' → RepH g x φ' h H' → D.ct σ' H'
  | .rt r h => ∀ φ' v H', Step φ H φ' H' → RepH g x φ' h H' → KV g x H r h φ' v H' → D.rt v H'
  | .ex e ρ h => ∀ φ' σ' H' cls d, Step φ H φ' H' → RelS g x φ' H' ρ σ' → RepH g x φ' h H' → ExV g e cls d H' → W cls d σ' H'
  | .bad => False
def RDS (g : GS) (W : WX) (f : EvS) : TS := fun D σ H => ∃ x φ ρ h, RelS g x φ H ρ σ ∧ RepH g x φ h H ∧ CondS g x W D φ H (f ρ h)
section
variable {g : GS} {x : Addr → Prop} {W : WX} {D : Ends} {φ φ1 : Phi} {H H1 : Hp}
theorem CondS.later (k : Step φ H φ1 H1) : ∀ {r : SR}, CondS g x W D φ H r → CondS g x W D φ1 H1 r
  | .nx ρ h, c => fun φ' σ' H' s rs rep => c φ' σ' H' (k.trans s) rs rep
  | .bk ρ h, c => fun φ' σ' H' s rs rep => c φ' σ' H' (k.trans s) rs rep
  | .ct ρ h, c => fun φ' σ' H' s rs rep => c φ' σ' H' (k.trans s) rs rep
  | .rt r h, c => fun φ' v H' s rep p => c φ' v H' (k.trans s) rep (KV.mono _ _ _ _ _ _ _ _ _ k.grow p)
  | .ex e ρ h, c => fun φ' σ' H' cls d s rs rep p => c φ' σ' H' cls d (k.trans s) rs rep p
  | .bad, c => c
/-- an expression at the head of a statement -/
theorem head_rd {α β : Type} {R : Kd α β} {f : Rho → Hs → Rs α} {k : Rho → α → Hs → SR} {σ : L2.St} {ρ : Rho} {h : Hs} (rs : RelS g x φ H ρ σ) (rep : RepH g x φ h H) (c : CondS g x W D φ H (SR.ofRs ρ (f ρ h) (k ρ))) {Q' : β → Hp → Prop}
    (next : ∀ (b : β) (H1 : Hp) (φ1 : Phi) (h1 : Hs) (a : α), Step φ H φ1 H1 → RelS g x φ1 H1 ρ σ → RepH g x φ1 h1 H1 → R g x H a h1 φ1 b H1 → CondS g x W D φ1 H1 (k ρ a h1) → Q' b H1) : RD g W R f σ H Q' := by
  refine ⟨x, φ, ρ, h, rs, rep, ?_⟩
  cases e : f ρ h with
  | bad => rw [e] at c; exact c
  | ex z h1 =>
    rw [e] at c
    intro φ' H' cls d st rep' ev
    exact c φ' σ H' cls d st (rs.step st) rep' ev
  | ok a h1 =>
    rw [e] at c
    intro φ1 b H1 st rep1 p
    exact next b H1 φ1 h1 a st (rs.step st) rep1 p (CondS.later st c)
theorem noEx_ok {α : Type} {r : Rs α} {ρ : Rho} {k : α → Hs → SR} (c : CondS g x W D φ H (SR.ofRs ρ (noEx r) k)) : ∃ a h, r = .ok a h ∧ CondS g x W D φ H (k a h) := by
  cases r with
  | bad => exact c.elim
  | ex z h => exact c.elim
  | ok a h => exact ⟨a, h, rfl, c⟩
end
section
variable {X : Cx} {g : GS} {W : WX} {tg iter e ea eb ec : Expr} {es : List Expr} {f k l : EvE} {fs : EvL} {gf : EvG} {gs : EvGs} {is : List Nat} {pos p : Pos} {fb fc : EvS} {st : Stmt} {sts sts' : List Stmt}
theorem asg_rd {σ : L2.St} {H : Hp} {D : Ends} (hh : RDS g W (fun ρ h => SR.ofRs ρ (f ρ h) fun r h => SR.ofRs ρ (noEx (gf r ρ h)) .nx) D σ H) : tAsg (rdE g W f) (GD g is gf) D σ H := by
  obtain ⟨x, φ, ρ, h, rs, rep, c⟩ := hh
  refine head_rd (k := fun ρ r h => SR.ofRs ρ (noEx (gf r ρ h)) .nx) rs rep c fun v H1 φ1 h1 r st1 rs1 rep1 p c1 => ?_
  obtain ⟨ρ2, h2, e1, c2⟩ := noEx_ok c1
  exact ⟨x, φ1, ρ, h1, r, H, rs1, rep1, p, ρ2, h2, e1, fun φ' σ' H' s rs' rep' _ => c2 φ' σ' H' s rs' rep'⟩
abbrev sAsg (f : EvE) (gf : EvG) : EvS := fun ρ h => SR.ofRs ρ (f ρ h) fun r h => SR.ofRs ρ (noEx (gf r ρ h)) .nx
theorem ps_asg2' (he : PE X e (rdE g W f)) (hg : PG X tg (GD g is gf)) (hs : swapsWithSole [tg] e pos.line X.env = pure false) (hw : swappedStores [tg] e X.env = pure none) (hn : notStar tg = true) : PS X (.Assign [tg] e pos) (RDS g W (sAsg f gf)) :=
  PS.imp (ps_asg he hg hs hw (by rw [assign_cons hn]; rfl)) fun D σ H q => asg_rd q
theorem set_rd {i : Nat} {te : TE} {σ : L2.St} {H : Hp} {D : Ends} {f : EvE} (hte : ∀ {σ H Q}, rdE g W f σ H Q → te σ H Q) (hh : RDS g W (sAsg f (gNm i)) D σ H) : tAsg te (gName i) D σ H := by
  obtain ⟨x, φ, ρ, h, rs, rep, c⟩ := hh
  refine hte (head_rd (k := fun ρ r h => SR.ofRs ρ (noEx (gNm i r ρ h)) .nx) rs rep c fun v H1 φ1 h1 r st1 rs1 rep1 p c1 => ?_)
  obtain ⟨ρ2, h2, e1, c2⟩ := noEx_ok c1
  unfold gNm at e1
  cases e2 : r.s with
  | none => rw [e2] at e1; cases e1
  | some s =>
    rw [e2] at e1
    cases e1
    exact c2 φ1 _ H1 Step.refl (rs1.set (KV.s p e2)) rep1
theorem ps_set2 (hN : X.N.Nodup) {i : Nat} {x : Str} {px : Pos} (s : Sto X i x) (he : PE X e (rdE g W f)) (hs : swapsWith e (some (.Name x px)) pos.line X.env = pure false) : PS X (.Assign [.Name x px] e pos) (RDS g W (sAsg f (gNm i))) :=
  PS.imp (ps_set hN s.at_ s.loc he hs s.fn) fun D σ H q => set_rd (fun q => q) q
/-! expression statements, return, if -/
theorem ps_expr2 (he : PE X e (rdE g W f)) (hs : swapsWith e none pos.line X.env = pure false) : PS X (.Expr e pos) (RDS g W fun ρ h => SR.ofRs ρ (f ρ h) fun _ h => .nx ρ h) :=
  PS.imp (ps_expr he hs) fun D σ H ⟨x, φ, ρ, h, rs, rep, c⟩ => head_rd (k := fun ρ _ h => .nx ρ h) rs rep c fun v H1 φ1 h1 r st1 rs1 rep1 p c1 => c1 φ1 σ H1 Step.refl rs1 rep1
theorem ps_ret2 (he : PE X e (rdE g W f)) : PS X (.Return (some e) pos) (RDS g W fun ρ h => SR.ofRs ρ (f ρ h) .rt) :=
  PS.imp (ps_ret he) fun D σ H ⟨x, φ, ρ, h, rs, rep, c⟩ => by
    dsimp only at c
    refine ⟨x, φ, ρ, h, rs, rep, ?_⟩
    cases e1 : f ρ h with
    | bad => rw [e1] at c; exact c
    | ex z h1 =>
      rw [e1] at c
      intro φ' H' cls d st rep' ev
      exact c φ' σ H' cls d st (rs.step st) rep' ev
    | ok r h1 =>
      rw [e1] at c
      exact fun φ' v H' st rep' p => c φ' v H' st rep' p
theorem ps_retN2 : PS X (.Return none pos) (RDS g W fun _ h => .rt (.v .non) h) := PS.imp ps_retN fun D σ H ⟨x, φ, ρ, h, rs, rep, c⟩ => c φ .non H Step.refl rep rfl
theorem ps_pass2 : PS X (.Pass pos) (RDS g W .nx) := PS.imp ps_pass fun D σ H ⟨x, φ, ρ, h, rs, rep, c⟩ => c φ σ H Step.refl rs rep
theorem ps_brk2 : PS X (.Break pos) (RDS g W .bk) := PS.imp ps_break fun D σ H ⟨x, φ, ρ, h, rs, rep, c⟩ => c φ σ H Step.refl rs rep
theorem ps_cnt2 : PS X (.Continue pos) (RDS g W .ct) := PS.imp ps_continue fun D σ H ⟨x, φ, ρ, h, rs, rep, c⟩ => c φ σ H Step.refl rs rep
theorem ps_if2 (hc : PT X e (rdB g W (tE f))) (ha : PSs X sts (RDS g W fb)) (hb : PSs X sts' (RDS g W fc)) : PS X (.If e sts sts' pos) (RDS g W fun ρ h => SR.ofRs ρ (tE f ρ h) fun d h => if d = true then fb ρ h else fc ρ h) :=
  PS.imp (ps_if hc ha hb) fun D σ H ⟨x, φ, ρ, h, rs, rep, c⟩ => head_rd (k := fun ρ d h => if d = true then fb ρ h else fc ρ h) rs rep c fun v H1 φ1 h1 r st1 rs1 rep1 p c1 => by
    rw [show v = r from p]
    cases r with
    | true => exact ⟨x, φ1, ρ, h1, rs1, rep1, c1⟩
    | false => exact ⟨x, φ1, ρ, h1, rs1, rep1, c1⟩
/-! sequences -/
theorem pss_nil2 : PSs X [] (RDS g W .nx) := PSs.imp pss_nil fun D σ H ⟨x, φ, ρ, h, rs, rep, c⟩ => c φ σ H Step.refl rs rep
theorem pss_cons2 (h1 : PS X st (RDS g W fb)) (h2 : PSs X sts (RDS g W fc)) : PSs X (st :: sts) (RDS g W fun ρ h => (fb ρ h).andThen fc) := PSs.imp (pss_cons h1 h2) fun D σ H ⟨x, φ, ρ, h, rs, rep, c⟩ => by
  dsimp only at c
  refine ⟨x, φ, ρ, h, rs, rep, ?_⟩
  cases e : fb ρ h with
  | nx ρ1 h1 =>
    rw [e] at c
    intro φ1 σ1 H1 st1 rs1 rep1
    exact ⟨x, φ1, ρ1, h1, rs1, rep1, CondS.later st1 c⟩
  | bad => rw [e] at c; exact c
  | bk ρ1 h1 => rw [e] at c; exact c
  | ct ρ1 h1 => rw [e] at c; exact c
  | rt r h1 => rw [e] at c; exact c
  | ex z ρ1 h1 => rw [e] at c; exact c
/-! an own list is frozen -/
theorem RepH.kill {x : Addr → Prop} {φ : Phi} {h : Hs} {H : Hp} {n : Nat} (r : RepH g x φ h H) (hn : n < φ.length) : RepH g x (φ.set n none) (h.set n .dead) H ∧ Step φ H (φ.set n none) H ∧ ∀ a, own (φ.set n none) a → own φ a := by
  have bk : ∀ (m : Nat) (l : OA), (φ.set n none)[m]? = some (some l) → φ[m]? = some (some l) ∧ n ≠ m := fun m l e => by
    by_cases hm : n = m
    · subst hm
      rw [List.getElem?_set_self hn] at e
      cases e
    · rw [List.getElem?_set_ne hm] at e
      exact ⟨e, hm⟩
  have ow1 : ∀ a, own (φ.set n none) a → own φ a := fun a ⟨l, hl, ha⟩ => by
    obtain ⟨m, hm⟩ := List.getElem?_of_mem hl
    exact own_at (bk m l hm).1 ha
  have kp : Keep (ow φ x) H (ow (φ.set n none) x) H := Keep.weak fun a q => q.imp (ow1 a) id
  refine ⟨⟨by simp [r.len], fun m l e => ?_, fun m e => ?_, (thin_sub (by simp) fun m l e => (bk m l e).1).nodup r.nd, fun a ha => r.apart a (ow1 a ha), r.xs⟩, ⟨fun a _ _ => rfl, fun _ q => q, fun a q => .inl (ow1 a q), by simp, fun m l _ e => (bk m l e).1, fresh_le (by simp)⟩, ow1⟩
  · obtain ⟨e1, hm⟩ := bk m l e
    obtain ⟨ob, e2, q⟩ := r.at_ m l e1
    exact ⟨ob, by rw [List.getElem?_set_ne hm]; exact e2, q.keep kp fun _ _ => rfl⟩
  · by_cases hm : n = m
    · subst hm
      rw [List.getElem?_set_self (by rw [← r.len]; exact hn)]
    · rw [List.getElem?_set_ne hm] at e ⊢
      exact r.dead m e
def fzS (i : Nat) : EvS := fun ρ h => match ρ[i]? with
  | some (some (.r n)) => match h[n]? with
    | some (.lst xs) => .nx (ρ.set i (some (.v (.lst xs)))) (h.set n .dead)
    | _ => .bad
  | _ => .bad
theorem pss_fz {i : Nat} (h2 : PSs X sts (RDS g W fc)) : PSs X sts (RDS g W fun ρ h => (fzS i ρ h).andThen fc) := PSs.imp h2 fun D σ H ⟨x, φ, ρ, h, rs, rep, c⟩ => by
  unfold fzS at c
  dsimp only at c
  cases e1 : ρ[i]? with
  | none => rw [e1] at c; exact c.elim
  | some o =>
    rw [e1] at c
    cases o with
    | none => exact c.elim
    | some s =>
      cases s with
      | v u => exact c.elim
      | r n =>
        dsimp only at c
        cases e2 : h[n]? with
        | none => rw [e2] at c; exact c.elim
        | some ob =>
          rw [e2] at c
          cases ob with
          | lst xs =>
            have c : CondS g x W D φ H (fc (ρ.set i (some (.v (.lst xs)))) (h.set n .dead)) := c
            obtain ⟨v, e3, d⟩ := rs.at_ i _ e1
            obtain ⟨a, vs, f1, rfl, f2, f3⟩ := own_list rep d e2
            have hn : n < φ.length := (List.getElem?_eq_some_iff.mp f1).1
            obtain ⟨r1, s1, o1⟩ := rep.kill hn
            have nd : ¬ ow (φ.set n none) x a := fun q => by
              rcases q with ⟨l, hl, ha⟩ | q
              · obtain ⟨m, hm⟩ := List.getElem?_of_mem hl
                by_cases hnm : n = m
                · subst hnm
                  rw [List.getElem?_set_self hn] at hm
                  cases hm
                · rw [List.getElem?_set_ne hnm] at hm
                  exact hnm (disj rep.nd f1 hm (by simp) ha)
              · exact rep.apart a (own_at f1 (by simp)) q
            have dn : DenS g x (φ.set n none) H (.v (.lst xs)) (.ref a) := ⟨a, vs, rfl, f2, nd, DenL.weak (fun b q => q.imp (o1 b) id) f3⟩
            have rs1 := (rs.step s1).set (i := i) dn
            have e4 : σ.set i (some (.ref a)) = σ := List.ext_getElem? fun j => by
              by_cases hj : i = j
              · subst hj
                have hl : i < σ.length := (List.getElem?_eq_some_iff.mp e3).1
                rw [List.getElem?_set_self hl, e3]
              · rw [List.getElem?_set_ne hj]
            rw [e4] at rs1
            exact ⟨x, _, _, _, rs1, r1, CondS.later s1 c⟩
          | _ => exact c.elim
/-! loops -/
theorem ps_whl2 (hp : PassesOwn (model X.prog X.w) X.A X.env X.xe) (hc : PT X e (rdB g W (tE f))) (hb : PSs X sts (RDS g W fb)) (n : Nat) : PS X (.While e sts [] pos) (RDS g W (whlL (tE f) fb n)) :=
  PS.imp (ps_while hp hc hb) fun D σ H ⟨x, φ, ρ, h, rs, rep, c⟩ => by
    refine ⟨fun m σ H => ∃ φ ρ h, RelS g x φ H ρ σ ∧ RepH g x φ h H ∧ CondS g x W D φ H (whlL (tE f) fb m ρ h), ⟨n, φ, ρ, h, rs, rep, c⟩, ?_⟩
    rintro m σ H ⟨φ, ρ, h, rs, rep, c⟩
    cases m with
    | zero => exact c.elim
    | succ m =>
      refine head_rd (k := fun ρ d h => if d = true then (match fb ρ h with
        | .nx ρ h => whlL (tE f) fb m ρ h
        | .ct ρ h => whlL (tE f) fb m ρ h
        | .bk ρ h => .nx ρ h
        | r => r) else .nx ρ h) rs rep c fun v H1 φ1 h1 r st1 rs1 rep1 p c1 => ?_
      rw [show v = r from p]
      cases r with
      | false => exact c1 φ1 σ H1 Step.refl rs1 rep1
      | true =>
        rw [if_pos rfl] at c1 ⊢
        refine ⟨fun σ' H' => ∃ φ ρ h, RelS g x φ H' ρ σ' ∧ RepH g x φ h H' ∧ CondS g x W D φ H' (whlL (tE f) fb m ρ h), fun σ' H' q => ⟨m, Nat.lt_succ_self m, q⟩, x, φ1, ρ, h1, rs1, rep1, ?_⟩
        cases e1 : fb ρ h1 with
        | nx ρ2 h2 => rw [e1] at c1; exact fun φ' σ' H' s rs' rep' => ⟨φ', ρ2, h2, rs', rep', CondS.later s c1⟩
        | ct ρ2 h2 => rw [e1] at c1; exact fun φ' σ' H' s rs' rep' => ⟨φ', ρ2, h2, rs', rep', CondS.later s c1⟩
        | bk ρ2 h2 => rw [e1] at c1; exact c1
        | rt r h2 => rw [e1] at c1; exact c1
        | ex z ρ2 h2 => rw [e1] at c1; exact c1
        | bad => rw [e1] at c1; exact c1
theorem ps_for2 (hp : PassesOwn (model X.prog X.w) X.A X.env X.xe) (hc : X.calm = true) {it : EvI} (hi : PI X tg iter (rdI g W it)) (hg : PG X tg (GD1 g is gs)) (hb : PSs X sts (RDS g W fb)) (hs : ∀ v, foldedSetIterable iter X.env v = pure v) :
    PS X (.For tg iter sts [] pos) (RDS g W fun ρ h => SR.ofRs ρ (it ρ h) fun p h => forL p.1 gs fb p.2 0 ρ h) :=
  PS.imp (ps_for hp hc hi hg hb hs) fun D σ H ⟨x, φ, ρ, h, rs, rep, c⟩ => by
    refine head_rd (k := fun ρ p h => forL p.1 gs fb p.2 0 ρ h) rs rep c fun J H1 φ1 h1 pr st1 rs1 rep1 p1 c1 => ?_
    obtain ⟨src, n0⟩ := pr
    refine ⟨fun i m σ H => ∃ φ ρ h, RelS g x φ H ρ σ ∧ RepH g x φ h H ∧ SrcJ g x φ H src J ∧ CondS g x W D φ H (forL src gs fb m i ρ h), ⟨n0, φ1, ρ, h1, rs1, rep1, p1, c1⟩, ?_⟩
    rintro i m σ H ⟨φ, ρ, h, rs, rep, sj, c⟩
    cases m with
    | zero =>
      refine .inl ?_
      have c : CondS g x W D φ H (if srcEnd h src i = true then .nx ρ h else .bad) := c
      split at c
      · rename_i he
        exact ⟨src_end rep sj he, c φ σ H Step.refl rs rep⟩
      · exact c.elim
    | succ m =>
      refine .inr ?_
      rw [forL] at c
      dsimp only at c
      cases e1 : srcAt h src i with
      | none => rw [e1] at c; exact c.elim
      | some u =>
        rw [e1] at c
        dsimp only at c
        obtain ⟨go, yl⟩ := src_at rep sj e1
        refine ⟨go, fun σ' H' => ∃ φ ρ h, RelS g x φ H' ρ σ' ∧ RepH g x φ h H' ∧ SrcJ g x φ H' src J ∧ CondS g x W D φ H' (forL src gs fb m (i + 1) ρ h), fun σ' H' q => ⟨m, Nat.lt_succ_self m, q⟩, fun v Hy hy => ?_⟩
        obtain ⟨sm, dv⟩ := yl v Hy hy
        have sty : Step φ H φ Hy := step_of sm
        cases e2 : gs [u] ρ h with
        | bad => rw [e2] at c; exact c.elim
        | ex z hz => rw [e2] at c; exact c.elim
        | ok ρ2 h2 =>
          rw [e2] at c
          dsimp only at c
          refine ⟨x, φ, ρ, h, [u], rs.step sty, rep.same sm, ⟨v, [], rfl, dv, rfl⟩, ρ2, h2, e2, fun φ2 σ2 H2 st2 rs2 rep2 _ => ?_⟩
          refine ⟨x, φ2, ρ2, h2, rs2, rep2, ?_⟩
          have stA := sty.trans st2
          have sj2 := sj.step stA
          cases e3 : fb ρ2 h2 with
          | nx ρ3 h3 => rw [e3] at c; exact fun φ' σ' H' s rs' rep' => ⟨φ', ρ3, h3, rs', rep', sj2.step s, CondS.later (stA.trans s) c⟩
          | ct ρ3 h3 => rw [e3] at c; exact fun φ' σ' H' s rs' rep' => ⟨φ', ρ3, h3, rs', rep', sj2.step s, CondS.later (stA.trans s) c⟩
          | bk ρ3 h3 => rw [e3] at c; exact CondS.later (r := .nx ρ3 h3) stA c
          | rt r h3 => rw [e3] at c; exact CondS.later (D := D) (r := .rt r h3) stA c
          | ex z ρ3 h3 => rw [e3] at c; exact CondS.later (D := D) (r := .ex z ρ3 h3) stA c
          | bad => rw [e3] at c; exact c
/-! a comprehension as a value -/
theorem pe_lc2' (hc : X.calm = true) (hN : X.N.Nodup) {elt : Expr} {ifs : List Expr} {scope : Scope} {own : List (Str × Nat)} {it : EvI} {kk : Rho → Hs → Rs Bool} (hi : PI X tg iter (rdI g W it)) (ok : BlkOk X.N X.env.scope scope own) (his : ∀ i ∈ is, i ∈ own.map (·.2))
    (hg : ∀ (s : Shared) (H : Hp) (C : Addr) (cl : List (Str × Addr)) (fp : List Addr), PG (X.blk s H scope (compEnvC scope cl C X.env) fp) tg (GD1 g is gs))
    (ht : ∀ (s : Shared) (H : Hp) (C : Addr) (cl : List (Str × Addr)) (fp : List Addr), PTs (X.blk s H scope (compEnvC scope cl C X.env) fp) ifs (rdB g W0 kk))
    (he : ∀ (s : Shared) (H : Hp) (C : Addr) (cl : List (Str × Addr)) (fp : List Addr), PE (X.blk s H scope (compEnvC scope cl C X.env) fp) elt (rdE g W0 f)) (hs : ∀ v, foldedSetIterable iter X.env v = pure v) :
    PE X (.ListComp elt [⟨tg, iter, ifs, 0⟩] scope pos) (rdE g W (vLc gs it kk f (own.map (·.2)))) :=
  PE.imp (pe_lc hc hN hi ok hg ht (fun s H C cl fp => pe_s (he s H C cl fp)) hs) fun σ H Q q => lc_rd his q
theorem ps_setLc2 (hc : X.calm = true) (hN : X.N.Nodup) {i : Nat} {y : Str} {py spos : Pos} {elt : Expr} {ifs : List Expr} {scope : Scope} {own : List (Str × Nat)} {it : EvI} {kk : Rho → Hs → Rs Bool} (hy : X.N[i]? = some y) (hyl : X.env.scope.names.lookup y = some .local)
    (hsw : swapsWith (.ListComp elt [⟨tg, iter, ifs, 0⟩] scope pos) (some (.Name y py)) spos.line X.env = pure true)
    (hi : PI X tg iter (rdI g W it)) (ok : BlkOk X.N X.env.scope scope own) (his : ∀ i ∈ is, i ∈ own.map (·.2))
    (hg : ∀ (s : Shared) (H : Hp) (C : Addr) (cl : List (Str × Addr)) (fp : List Addr), PG (X.blk s H scope (compEnvC scope cl C X.env) fp) tg (GD1 g is gs))
    (ht : ∀ (s : Shared) (H : Hp) (C : Addr) (cl : List (Str × Addr)) (fp : List Addr), PTs (X.blk s H scope (compEnvC scope cl C X.env) fp) ifs (rdB g W0 kk))
    (he : ∀ (s : Shared) (H : Hp) (C : Addr) (cl : List (Str × Addr)) (fp : List Addr), PE (X.blk s H scope (compEnvC scope cl C X.env) fp) elt (rdE g W0 f)) (hs : ∀ v, foldedSetIterable iter X.env v = pure v) :
    PS X (.Assign [.Name y py] (.ListComp elt [⟨tg, iter, ifs, 0⟩] scope pos) spos) (RDS g W (sAsg (vLc gs it kk f (own.map (·.2))) (gNm i))) :=
  PS.imp (ps_setLc hc hN hy hyl hsw hi ok hg ht (fun s H C cl fp => pe_s (he s H C cl fp)) hs) fun D σ H q => set_rd (fun q => lc_rd his q) q
end
end VM

/-! Instances: attributes, a dict of their own, methods, the constructor. -/
namespace VM
open PySem PySem.Spec PyProof.Rows L2 RZ
/-! ### a dict beside its entries -/
theorem inl_inj {a b : List Int} : a.map (Sum.inl : Int → L2.Key) = b.map Sum.inl ↔ a = b := by
  constructor
  · induction a generalizing b with
    | nil =>
      intro h
      cases b with
      | nil => rfl
      | cons _ _ => simp at h
    | cons i a ih =>
      intro h
      cases b with
      | nil => simp at h
      | cons j b =>
        rw [List.map_cons, List.map_cons] at h
        injection h with h1 h2
        injection h1 with h1
        rw [h1, ih h2]
  · intro h; rw [h]
section
variable {g : GS} {x : Addr → Prop} {o : Addr → Prop} {φ : Phi} {h : Hs} {H : Hp}
theorem DK.get : ∀ {r : KD} {kv : List (List L2.Key × V)} (k : List Int), DK g o H r kv → (dGt k r = none → valV kv (k.map Sum.inl) = none) ∧ ∀ u, dGt k r = some u → ∃ v, valV kv (k.map Sum.inl) = some v ∧ Den g o H u v
  | [], kv, k, h => by
    rw [show kv = [] from h]
    exact ⟨fun _ => rfl, fun u e => by cases e⟩
  | (j, w) :: r, kv, k, ⟨v, kv', e, d, t⟩ => by
    subst e
    obtain ⟨i1, i2⟩ := DK.get k t
    by_cases hj : j = k
    · subst hj
      refine ⟨fun e => ?_, fun u e => ?_⟩
      · unfold dGt at e
        rw [if_pos rfl] at e
        cases e
      · unfold dGt at e
        rw [if_pos rfl] at e
        cases e
        exact ⟨v, valV_pos rfl, d⟩
    · have hn : ¬ j.map (Sum.inl : Int → L2.Key) = k.map Sum.inl := fun z => hj (inl_inj.mp z)
      refine ⟨fun e => ?_, fun u e => ?_⟩
      · unfold dGt at e
        rw [if_neg hj] at e
        rw [valV_neg hn]
        exact i1 e
      · unfold dGt at e
        rw [if_neg hj] at e
        rw [valV_neg hn]
        exact i2 u e
theorem DK.any : ∀ {r : KD} {kv : List (List L2.Key × V)} (k : List Int), DK g o H r kv → (kv.any fun q => decide (q.1 = k.map Sum.inl)) = (r.any fun q => decide (q.1 = k))
  | [], kv, k, h => by rw [show kv = [] from h]; rfl
  | (j, w) :: r, kv, k, ⟨v, kv', e, d, t⟩ => by
    subst e
    rw [List.any_cons, List.any_cons, DK.any k t]
    congr 1
    exact decide_eq_decide.mpr inl_inj
theorem DK.map : ∀ {r : KD} {kv : List (List L2.Key × V)} (k : List Int) {u : U} {v : V}, DK g o H r kv → Den g o H u v → DK g o H (r.map fun p => if p.1 = k then (p.1, u) else p) (kv.map fun q => if q.1 = k.map Sum.inl then (q.1, v) else q)
  | [], kv, k, u, v, h, _ => by rw [show kv = [] from h]; rfl
  | (j, w) :: r, kv, k, u, v, ⟨z, kv', e, d, t⟩, dv => by
    subst e
    have ih := DK.map k t dv
    rw [List.map_cons, List.map_cons]
    by_cases hj : j = k
    · rw [if_pos hj, if_pos (inl_inj.mpr hj)]
      exact ⟨v, _, rfl, dv, ih⟩
    · rw [if_neg hj, if_neg (fun q => hj (inl_inj.mp q))]
      exact ⟨z, _, rfl, d, ih⟩
theorem DK.snoc : ∀ {r : KD} {kv : List (List L2.Key × V)} (k : List Int) {u : U} {v : V}, DK g o H r kv → Den g o H u v → DK g o H (r ++ [(k, u)]) (kv ++ [(k.map Sum.inl, v)])
  | [], kv, k, u, v, h, dv => by rw [show kv = [] from h]; exact ⟨v, [], rfl, dv, rfl⟩
  | (j, w) :: r, kv, k, u, v, ⟨z, kv', e, d, t⟩, dv => by
    subst e
    exact ⟨z, _, rfl, d, DK.snoc k t dv⟩
theorem DK.put {r : KD} {kv : List (List L2.Key × V)} (k : List Int) {u : U} {v : V} (h : DK g o H r kv) (dv : Den g o H u v) : DK g o H (dPt k u r) (putK kv (k.map Sum.inl) v) := by
  unfold dPt putK
  rw [DK.any k h]
  split
  · exact DK.map k h dv
  · exact DK.snoc k h dv
theorem DK.len : ∀ {r : KD} {kv : List (List L2.Key × V)}, DK g o H r kv → kv.length = r.length
  | [], kv, h => by rw [show kv = [] from h]; rfl
  | (j, w) :: r, kv, ⟨z, kv', e, d, t⟩ => by rw [e, List.length_cons, List.length_cons, DK.len t]
/-! ### own objects -/
/-- an own object at its place -/
theorem own_obj {n : Nat} {ob : MO} {v : V} (r : RepH g x φ h H) (d : DenS g x φ H (.r n) v) (e : h[n]? = some ob) (nd : ob ≠ .dead) : ∃ l, φ[n]? = some (some l) ∧ v = .ref (hd l) ∧ RepO g (ow φ x) H ob l := by
  obtain ⟨l, e1, q⟩ := r.alive e nd
  exact ⟨l, e1, d.2 l e1, q⟩
theorem own_ins {n c : Nat} {fs : List (Str × U)} {kd : Option (Str × KD)} {v : V} (r : RepH g x φ h H) (d : DenS g x φ H (.r n) v) (e : h[n]? = some (.ins c fs kd)) :
    ∃ a dx ds fv, φ[n]? = some (some (a :: dx :: ds)) ∧ v = .ref a ∧ H a = some (.ins (g.ca c) dx fv) ∧ H dx = some (.own a) ∧ RepI g (ow φ x) H fs kd fv ds := by
  obtain ⟨l, e1, hv, a, dx, ds, fv, rfl, h1, h2, h3⟩ := own_obj r d e (by simp)
  exact ⟨a, dx, ds, fv, e1, hv, h1, h2, h3⟩
theorem own_kt {n : Nat} {ks : List Int} {v : V} (r : RepH g x φ h H) (d : DenS g x φ H (.r n) v) (e : h[n]? = some (.kt ks)) : ∃ a, φ[n]? = some (some [a]) ∧ v = .ref a ∧ H a = some (.tup (ks.map V.int)) := by
  obtain ⟨l, e1, hv, a, rfl, h1⟩ := own_obj r d e (by simp)
  exact ⟨a, e1, hv, h1⟩
/-- one of its addresses is written -/
theorem RepH.setO {n : Nat} {l : OA} {d : Addr} {v : HO} {ob : MO} (r : RepH g x φ h H) (e : φ[n]? = some (some l)) (hd : d ∈ l) (q : Keep (ow φ x) H (ow φ x) (upd H d v) → RepO g (ow φ x) (upd H d v) ob l) :
    RepH g x φ (h.set n ob) (upd H d v) ∧ Step φ H φ (upd H d v) := by
  have oa : own φ d := own_at e hd
  have same : ∀ b, ¬ own φ b → H b ≠ none → (upd H d v) b = H b := fun b nb _ => upd_ne (fun z => nb (z ▸ oa))
  have grow : ∀ b, H b ≠ none → (upd H d v) b ≠ none := fun b hb => by
    by_cases z : b = d
    · rw [z, upd_same]; simp
    · rw [upd_ne z]; exact hb
  have st : Step φ H φ (upd H d v) := ⟨same, grow, fun _ q => .inl q, Nat.le_refl _, fun _ _ _ q => q, fresh_le (Nat.le_refl _)⟩
  have kp := st.keep x
  refine ⟨⟨by rw [List.length_set]; exact r.len, fun m l' em => ?_, fun m em => ?_, r.nd, r.apart, fun b hb => grow b (r.xs b hb)⟩, st⟩
  · by_cases hm : n = m
    · subst hm
      rw [e] at em
      cases em
      have hn : n < h.length := by rw [← r.len]; exact (List.getElem?_eq_some_iff.mp e).1
      exact ⟨ob, by rw [List.getElem?_set_self hn], q kp⟩
    · obtain ⟨ob', e1, q⟩ := r.at_ m l' em
      exact ⟨ob', by rw [List.getElem?_set_ne hm]; exact e1, q.keep kp fun b hb => upd_ne (fun z => hm (disj r.nd e em hd (z ▸ hb)))⟩
  · have hm : n ≠ m := fun z => by rw [← z, e] at em; cases em
    rw [List.getElem?_set_ne hm]
    exact r.dead m em
theorem kdS_ok {s : S} {y : Str} {r : KD} {v : V} (rp : RepH g x φ h H) (d : DenS g x φ H s v) {c : Nat} (e : kdS c h s y = some r) :
    ∃ n fs a dx dd fv kv, s = .r n ∧ h[n]? = some (.ins c fs (some (y, r))) ∧ φ[n]? = some (some [a, dx, dd]) ∧ v = .ref a ∧ H a = some (.ins (g.ca c) dx fv) ∧ H dx = some (.own a) ∧ RepI g (ow φ x) H fs (some (y, r)) fv [dd] ∧ fv.lookup y = some (.ref dd) ∧ H dd = some (.dT kv) ∧ DK g (ow φ x) H r kv := by
  cases s with
  | v u => cases e
  | r n =>
    unfold kdS at e
    simp only at e
    split at e
    · rename_i c' fs y' kvs e1
      split at e
      · rename_i hy
        obtain ⟨rfl, rfl⟩ := hy
        cases e
        obtain ⟨a, dx, ds, fv, f1, rfl, f2, f3, f4⟩ := own_ins rp d e1
        obtain ⟨dd, kv, rfl, f5, f6, f7⟩ := f4.dk _ _ rfl
        exact ⟨n, fs, a, dx, dd, fv, kv, rfl, e1, f1, rfl, f2, f3, f4, f5, f6, f7⟩
      · cases e
    · cases e
theorem keyU_ok {s : S} {ks : List Int} {v : V} (rp : RepH g x φ h H) (d : DenS g x φ H s v) (e : keyU h s = some ks) : ∃ b, v = .ref b ∧ H b = some (.tup ((ks.map (Sum.inl : Int → L2.Key)).map kV)) := by
  cases s with
  | v u => cases e
  | r n =>
    unfold keyU at e
    simp only at e
    split at e
    · rename_i ks' e1
      cases e
      obtain ⟨a, _, rfl, f2⟩ := own_kt rp d e1
      refine ⟨a, rfl, ?_⟩
      rw [f2, List.map_map]
      rfl
    · cases e
end

section
variable {X : Cx} {g : GS} {W : WX} {e ea eb ec : Expr} {es : List Expr} {f k l : EvE} {fs : EvL} {pos p : Pos} {c : Nat} {y : Str}
/-- what is known of a class -/
structure ClsOk (X : Cx) (g : GS) (c : Nat) : Prop where
  cls : Cls X.K (g.ca c)
theorem pe_fld2 (hc : Cls X.K (g.ca c)) (hno : NoAttr X.K (g.ca c) y) (hb : noC0 e = true) (ha : PE X e (rdE g W f)) : PE X (.Attribute e y pos) (rdE g W (vFld c y f)) :=
  PE.imp (pe_fld (pe_s ha) (base_pl hb)) fun σ H Q ⟨x, φ, ρ, h, rs, rep, cd⟩ => by
    refine RD.bind (k := fun ρ s h => ofO h (fldS c h s y)) KV.mono rs rep cd fun v H1 φ1 h1 s1 st1 rs1 rep1 p1 c1 => ?_
    obtain ⟨r, e1, q⟩ := Cond.ofO c1
    cases s1 with
    | v u => cases e1
    | r n =>
      unfold fldS at e1
      simp only at e1
      split at e1
      · rename_i c' fs kd e2
        split at e1
        · rename_i hcc
          subst hcc
          cases e3 : flA y fs with
          | none => rw [e3] at e1; cases e1
          | some u =>
            rw [e3] at e1
            cases e1
            obtain ⟨a, dx, ds, fv, f1, rfl, f2, f3, f4⟩ := own_ins rep1 p1 e2
            obtain ⟨w, e4, d⟩ := f4.at_ y u e3
            exact ⟨a, _, dx, fv, w, rfl, f2, hc, hno, e4, q φ1 w H1 Step.refl rep1 d⟩
        · cases e1
      · cases e1
/-- the dict o.y, as a value -/
theorem fldD_rd (hc : Cls X.K (g.ca c)) (hno : NoAttr X.K (g.ca c) y) {x : Addr → Prop} {φ : Phi} {ρ : Rho} {h : Hs} {σ : L2.St} {H : Hp} {Q : VK} (rs : RelS g x φ H ρ σ) (rep : RepH g x φ h H)
    (nx : Cond g x W KS σ (fun v H1 => ∃ a dx fv dd, v = .ref a ∧ H1 a = some (.ins (g.ca c) dx fv) ∧ fv.lookup y = some (.ref dd) ∧ Q (.ref dd) H1) φ H (sE f ρ h)) : tFld X.K (rdS g W (sE f)) y σ H Q := by
  refine ⟨x, φ, ρ, h, rs, rep, Cond.mono (fun v H1 q => ?_) nx⟩
  obtain ⟨a, dx, fv, dd, rfl, e1, e2, q⟩ := q
  exact ⟨a, _, dx, fv, .ref dd, rfl, e1, hc, hno, e2, q⟩
theorem pe_kget2 (hu : X.A.units + 1 < cLine) (hc : Cls X.K (g.ca c)) (hno : NoAttr X.K (g.ca c) y) (hb : noC0 e = true) (hs : NoSl eb) {p2 : Pos} (ha : PE X e (rdE g W f)) (hk : PE X eb (rdE g W k)) : PE X (.Subscript (.Attribute e y p2) eb pos) (rdE g W (vKget c y f k)) :=
  PE.imp (pe_dget hu (pe_fld (pe_s ha) (base_pl hb)) (pe_s hk) hs) fun σ H Q ⟨x, φ, ρ, h, rs, rep, cd⟩ => by
    refine fldD_rd hc hno rs rep ?_
    refine Cond.mono (fun v H1 q => ?_) (Cond.bind (R := KS) (k := fun s h => match kdS c h s y with
      | none => .bad
      | some _ => (sE k ρ h).bind fun k h => match kdS c h s y, keyU h k with
        | some kvs, some ks => ofO h ((dGt ks kvs).map .v)
        | _, _ => .bad) KV.mono rs cd)
    obtain ⟨φ1, h1, s1, st1, rs1, rep1, p1, c1⟩ := q
    cases e1 : kdS c h1 s1 y with
    | none => rw [e1] at c1; exact c1.elim
    | some r0 =>
      rw [e1] at c1
      obtain ⟨n, fs, a, dx, dd, fv, kv, rfl, f1, f2, rfl, f3, f4, f5, f6, f7, f8⟩ := kdS_ok rep1 p1 e1
      refine ⟨a, dx, fv, dd, rfl, f3, f6, ?_⟩
      refine RD.bind (k := fun ρ q h => match kdS c h (.r n) y, keyU h q with
        | some kvs, some ks => ofO h ((dGt ks kvs).map .v)
        | _, _ => .bad) KV.mono rs1 rep1 c1 fun w H2 φ2 h2 s2 st2 rs2 rep2 p2' c2 => ?_
      cases e2 : kdS c h2 (.r n) y with
      | none => rw [e2] at c2; exact c2.elim
      | some r2 =>
        cases e3 : keyU h2 s2 with
        | none => rw [e2, e3] at c2; exact c2.elim
        | some ks =>
          rw [e2, e3] at c2
          obtain ⟨rv, e4, q⟩ := Cond.ofO c2
          obtain ⟨n', fs2, a2, dx2, dd2, fv2, kv2, en, g1, g2, ga, g3, g4, g5, g6, g7, g8⟩ := kdS_ok rep2 (DenS.step st2 p1) e2
          cases en
          have hb := st2.back n _ (List.getElem?_eq_some_iff.mp f2).1 g2
          rw [f2] at hb
          cases hb
          obtain ⟨b, rfl, eb⟩ := keyU_ok rep2 p2' e3
          cases e5 : dGt ks r2 with
          | none => rw [e5] at e4; cases e4
          | some u =>
            rw [e5] at e4
            cases e4
            obtain ⟨v2, e6, dv⟩ := (g8.get ks).2 u e5
            exact ⟨dd, v2, rfl, by rw [← e6]; exact DGet.t g7 eb, q φ2 v2 H2 Step.refl rep2 dv⟩
theorem kin_rd {n : Bool} (hc : Cls X.K (g.ca c)) (hno : NoAttr X.K (g.ca c) y) {σ : L2.St} {H : Hp} {Q : VK} (hh : rdE g W (vKin c n y k f) σ H Q) : rdS g W (sE k) σ H fun w H1 => tFld X.K (rdS g W (sE f)) y σ H1 fun v H2 => ∃ a o, v = .ref a ∧ DGet H2 a w o ∧ Q (.bl (if n then !o.isSome else o.isSome)) H2 := by
  obtain ⟨x, φ, ρ, h, rs, rep, cd⟩ := hh
  refine RD.bind (k := fun ρ q h => (sE f ρ h).bind fun s h => match kdS c h s y, keyU h q with
    | some kvs, some ks => .ok (.v (.bl (if n then !(dGt ks kvs).isSome else (dGt ks kvs).isSome))) h
    | _, _ => .bad) KV.mono rs rep cd fun w H1 φ1 h1 s1 st1 rs1 rep1 p1 c1 => ?_
  refine fldD_rd hc hno rs1 rep1 ?_
  refine Cond.mono (fun v H2 q => ?_) (Cond.bind (R := KS) (k := fun s h => match kdS c h s y, keyU h s1 with
    | some kvs, some ks => .ok (.v (.bl (if n then !(dGt ks kvs).isSome else (dGt ks kvs).isSome))) h
    | _, _ => .bad) KV.mono rs1 c1)
  obtain ⟨φ2, h2, s2, st2, rs2, rep2, p2, c2⟩ := q
  cases e1 : kdS c h2 s2 y with
  | none => rw [e1] at c2; exact c2.elim
  | some r =>
    cases e3 : keyU h2 s1 with
    | none => rw [e1, e3] at c2; exact c2.elim
    | some ks =>
      rw [e1, e3] at c2
      obtain ⟨m, fs, a, dx, dd, fv, kv, rfl, f1, f2, rfl, f3, f4, f5, f6, f7, f8⟩ := kdS_ok rep2 p2 e1
      obtain ⟨b, rfl, eb⟩ := keyU_ok rep2 (DenS.step st2 p1) e3
      have q := c2 φ2 (.bl (if n then !(dGt ks r).isSome else (dGt ks r).isSome)) H2 Step.refl rep2 rfl
      refine ⟨a, dx, fv, dd, rfl, f3, f6, dd, valV kv (ks.map Sum.inl), rfl, DGet.t f7 eb, ?_⟩
      obtain ⟨i1, i2⟩ := f8.get ks
      cases e5 : dGt ks r with
      | none => rw [e5] at q; rw [i1 e5]; exact q
      | some u =>
        rw [e5] at q
        obtain ⟨v2, e6, _⟩ := i2 u e5
        rw [e6]
        exact q
theorem pc_kin2 (n : Bool) (hu : X.A.units + 1 < cLine) (hc : Cls X.K (g.ca c)) (hno : NoAttr X.K (g.ca c) y) (hb : noC0 e = true) {p2 : Pos} (ha : PE X e (rdE g W f)) (hk : PE X eb (rdE g W k)) : PC X (if n then .NotIn else .In) eb (.Attribute e y p2) (rdE g W (vKin c n y k f)) := by
  have main : ∀ σ H Q, rdE g W (vKin c n y k f) σ H Q → rdS g W (sE k) σ H fun w H1 => tFld X.K (rdS g W (sE f)) y σ H1 fun v H2 => ∃ a o, v = .ref a ∧ DGet H2 a w o ∧ Q (.bl (if n then !o.isSome else o.isSome)) H2 := fun σ H Q q => kin_rd hc hno q
  cases n with
  | false => exact ⟨fun pins s σ H Q I q => (pc_din hu (pe_s hk) (pe_fld (pos := p2) (pe_s ha) (base_pl hb))).run pins s σ H Q I (main σ H Q q)⟩
  | true => exact ⟨fun pins s σ H Q I q => (pc_dnotin hu (pe_s hk) (pe_fld (pos := p2) (pe_s ha) (base_pl hb))).run pins s σ H Q I (main σ H Q q)⟩

/-! a key -/
theorem intsU_den {o : Addr → Prop} {H : Hp} : ∀ {us : List U} {ks : List Int} {vs : List V}, intsU us = some ks → DenL g o H us vs → vs = ks.map V.int
  | [], ks, vs, e, d => by cases e; exact d
  | u :: us, ks, vs, e, ⟨w, ws, e1, d1, d2⟩ => by
    subst e1
    cases u <;> first | (cases e; done) | skip
    rename_i i
    cases e2 : intsU us with
    | none => rw [show intsU (.int i :: us) = (intsU us).map (i :: ·) from rfl, e2] at e; cases e
    | some ks' =>
      rw [show intsU (.int i :: us) = (intsU us).map (i :: ·) from rfl, e2] at e
      cases e
      rw [intsU_den e2 d2, show w = .int i from d1]
      rfl
theorem pe_ktup2 {x1} (ha : PA X es (rdL g W fs)) : PE X (.Tuple es x1 pos) (rdE g W (vKtup fs)) := PE.imp (pe_tup (pa_u ha)) fun σ H Q ⟨x, φ, ρ, h, rs, rep, c⟩ => by
  refine RD.bind (k := fun ρ us h => match intsU us with
    | some ks => if ks.length ≤ 10 then .ok (.nw (.kt ks)) h else .bad
    | none => .bad) KV.mono rs rep c fun b1 H1 φ1 h1 us st1 rs1 rep1 p1 c1 => ?_
  cases e : intsU us with
  | none =>
    simp only [e] at c1
    exact c1.elim
  | some ks =>
    simp only [e] at c1
    have hv := intsU_den e p1
    split at c1
    · rename_i hl
      refine ⟨by rw [hv, List.length_map, sizeLine_eq]; omega, fun p hp => ?_⟩
      have k := new_same (o := .tup b1) hp
      refine c1 φ1 (.ref p) _ (step_of k) (rep1.same k) ⟨[p], rep1.push k (fun a ha => by simp at ha; rw [ha]; exact hp) (by simp) (fun _ => ⟨p, rfl, by rw [hv]; exact upd_same⟩), rfl, fun a ha => by simp at ha; rw [ha]; exact hp⟩
    · exact c1.elim
/-! methods -/
theorem isIns_ok {h : Hs} {s : S} {m : Str} (e : isIns h c m s = true) : ∃ n fs kd, s = .r n ∧ h[n]? = some (.ins c fs kd) ∧ flA m fs = none ∧ ∀ y r, kd = some (y, r) → y ≠ m := by
  cases s with
  | v u => cases e
  | r n =>
    unfold isIns at e
    simp only at e
    split at e
    · rename_i c' fs kd e1
      simp only [Bool.and_eq_true, decide_eq_true_eq] at e
      obtain ⟨⟨rfl, h2⟩, h3⟩ := e
      refine ⟨n, fs, kd, rfl, e1, by simpa using h2, fun y r hk => ?_⟩
      subst hk
      simpa using h3
    · cases e
theorem mth_eval {o : Expr} {xs : List Expr} {name : Str} {apos pos : Pos} {env : Env} (hb : noC0 o = true) (hl : (apos.endLine == pos.line) = true) (hn : xs.all notStar = true) (h30 : xs.length < 29) : eval (.Call (.Attribute o name apos) xs [] pos) env = (do
      let ov ← eval o env
      standAt apos.atName
      let (f, first) ← holding [ov] (getMethod ov name (do return (← importBound o env).getD true))
      callWith pos f first (backTo pos (starEach xs env)) (backToKw pos (keywordEach [] env))) := by
  have hf : methodCallForm (xs.length + ([] : List Keyword).length) (backTo pos (starEach xs env)) (backToKw pos (keywordEach [] env)) = true := by
    unfold methodCallForm
    rw [back_all (star_pl hn), show backToKw pos (keywordEach [] env) = [] from rfl]
    simp
    omega
  show (do
    let ov ← attributeBase o name env (eval o env)
    standAt apos.atName
    methodCall o name apos pos env ov (xs.length + ([] : List Keyword).length) (backTo pos (starEach xs env)) (backToKw pos (keywordEach [] env))) = _
  rw [base_pl hb]
  unfold methodCall calleeOf methodCallPos
  rw [hf]
  simp only [hl, Bool.not_true, Bool.false_or, if_true, pure_bind]
theorem pe_mth2 {cc : CC} {fn lv : Nat} {m : Str} {apos : Pos} {pl : Sem Bool} (tk : Takes X W) (hc : Cls X.K (g.ca c)) (hm : Meth X.K (g.ca c) m (g.fa fn)) (F : Fnx X g cc lv fn (es.length + 1) [] []) (hr : Room lv X.A) (hn : es.all notStar = true) (l1 : Len fs es.length) (z1 : es = [] → fs = vNil) (ho : PE X e (rdE g W f)) (ha : PA X es (rdL g W fs))
    (ht : eval (.Call (.Attribute e m apos) es [] pos) X.env = (do
      let ov ← eval e X.env
      standAt apos.atName
      let (f, first) ← holding [ov] (getMethod ov m pl)
      callWith pos f first (backTo pos (starEach es X.env)) (backToKw pos (keywordEach [] X.env)))) : PE X (.Call (.Attribute e m apos) es [] pos) (rdE g W (vMth cc c m fn f fs)) := by
  obtain ⟨fd, ps, ds, dvs, hF, hnp, hkp, hb, hd, hdd⟩ := F.ex
  refine ⟨fun pins s σ H Q I hw => ?_⟩
  have hA : rdS g W (sE f) σ H fun v H1 => ∃ a dx fv, v = .ref a ∧ H1 a = some (.ins (g.ca c) dx fv) ∧ fv.lookup m = none ∧ rdL g W fs σ H1 fun vs H2 => vs.length = es.length ∧ ∀ us, Vals vs us → ∃ full ys, arrG ps.length (.ref a :: us) [] [] ds = some full ∧ Vals ys full ∧ spV g cc fn ps.length ys H2 Q (WE W σ) := by
    obtain ⟨x, φ, ρ, h, rs, rep, cd⟩ := hw
    refine RD.bind (k := fun ρ s h => if isIns h c m s = true then (fs ρ h).bind fun ss h => match argsOf cc fn (s :: ss) [] [] with
      | some as => doCall cc fn as h
      | none => .bad else .bad) KV.mono rs rep cd fun v H1 φ1 h1 s1 st1 rs1 rep1 p1 c1 => ?_
    split at c1
    · rename_i hi
      obtain ⟨n, fs', kd, rfl, e1, e2, e3⟩ := isIns_ok hi
      obtain ⟨a, dx, dds, fv, f1, rfl, f2, f3, f4⟩ := own_ins rep1 p1 e1
      refine ⟨a, dx, fv, rfl, f2, f4.no m e2 e3, ?_⟩
      refine len_rd l1 ?_
      refine RD.bind (k := fun ρ ss h => match argsOf cc fn (.r n :: ss) [] [] with
        | some as => doCall cc fn as h
        | none => .bad) KV.mono rs1 rep1 c1 fun b2 H2 φ2 h2 s2 st2 rs2 rep2 p2 c2 => ?_
      refine ⟨(DenSs.len p2.1).trans p2.2, fun us r1 => ?_⟩
      rw [hnp]
      exact spV_of (ss := .r n :: s2) (kss := []) (zs := []) rep2 ⟨_, _, rfl, DenS.step st2 p1, p2.1⟩ rfl hdd (.cons (show RelV (V.ref a) (Value.ref a) from rfl) r1) .nil hd c2
    · exact c1.elim
  refine PySem.W.methodCall_KW (pl := pl) (thn ((pe_s ho).run pins s σ H _ I hA) fun u s1 ⟨x, H1, I1, rx, a, dx, fv, ex, ea, l, q⟩ => ?_) ht
  subst ex
  obtain rfl : u = Value.ref a := rx
  refine getmeth_ok I1 ea hc hm l ?_
  have go : ∀ {us : List Value} {vs : List V} {s2 : Shared} {H2 : Hp}, L2.Inv X pins σ H2 s2 → Vals vs us → (vs.length = es.length ∧ ∀ us, Vals vs us → ∃ full ys, arrG ps.length (.ref a :: us) [] [] ds = some full ∧ Vals ys full ∧ spV g cc fn ps.length ys H2 Q (WE W σ)) →
      wpAny (model X.prog X.w) X.A (call (.ref (g.fa fn)) (.ref a :: us) []) (EP X pins σ Q) X.xe s2 := fun {us vs s2 H2} I2 r1 ⟨e1, q⟩ => by
    obtain ⟨full, ys, e3, r3, sp⟩ := q us r1
    exact run_fnG (ks := []) (ws := []) hF hr (hb.to s2 (.ref a :: us) [] full I2.kIn (by rw [List.length_cons, ← r1.length, e1]) rfl e3) (passAt tk σ) I2 r3 sp
  cases es with
  | nil =>
    rw [z1 rfl] at q
    exact PySem.W.callWith_K0 (first := [.ref a]) I1.kIn hm.kp (go (us := []) I1 .nil (rd_nil q))
  | cons e0 es =>
    obtain ⟨h1, h2⟩ := Bool.and_eq_true_iff.mp (show (notStar e0 && es.all notStar) = true from hn)
    refine PySem.W.callWith_K (first := [.ref a]) (h₀ := X.base) I1.ok.mod.kin hm.kp (thn (ha.run pos pins s1 σ H1 _ I1 q) fun us s2 ⟨vs, H2, I2, r, q2⟩ => ⟨I2.kIn, ?_⟩) (star_cons h1) (back_pl (star_pl h2))
    exact go I2 r q2

/-! o.y[k] = e -/
theorem kputS_ok {h h' : Hs} {s : S} {ks : List Int} {u : U} (e : kputS h s y ks u = some h') : ∃ n c fs r, s = .r n ∧ h[n]? = some (.ins c fs (some (y, r))) ∧ r.length < lim ∧ h' = h.set n (.ins c fs (some (y, dPt ks u r))) := by
  cases s with
  | v u => cases e
  | r n =>
    unfold kputS at e
    simp only at e
    split at e
    · rename_i c' fs y' kvs e1
      split at e
      · rename_i hy
        obtain ⟨rfl, hl⟩ := hy
        cases e
        exact ⟨n, c', fs, kvs, rfl, e1, hl, rfl⟩
      · cases e
    · cases e
theorem ps_kput2 (hu : X.A.units + 1 < cLine) (hc : Cls X.K (g.ca c)) (hno : NoAttr X.K (g.ca c) y) (hb : noC0 e = true) {p2 pos' : Pos} (hv : PE X ec (rdE g W l)) (ha : PE X e (rdE g W f)) (hk : PE X eb (rdE g W k)) (hs : swapsWith ec (some (.Subscript (.Attribute e y p2) eb pos')) pos.line X.env = pure false) :
    PS X (.Assign [.Subscript (.Attribute e y p2) eb pos'] ec pos) (RDS g W (sKput c y l f k)) :=
  PS.imp (ps_dput hu (pe_fld (pe_s ha) (base_pl hb)) (pe_s hk) (pe_s hv) hs) fun D σ H ⟨x, φ, ρ, h, rs, rep, cd⟩ => by
    refine head_rd (R := KS) (k := fun ρ v h => SR.ofRs ρ (sE f ρ h) fun s h => kpMid c y k v ρ s h) rs rep cd fun w H1 φ1 h1 s1 st1 rs1 rep1 p1 c1 => ?_
    refine head_rd (R := KS) (k := fun ρ s h => kpMid c y k s1 ρ s h) rs1 rep1 c1 fun v H2 φ2 h2 s2 st2 rs2 rep2 p2 c2 => ?_
    unfold kpMid at c2
    cases e1 : kdS c h2 s2 y with
    | none => simp only [e1] at c2; exact c2.elim
    | some r0 =>
      simp only [e1] at c2
      obtain ⟨n, fs, a, dx, dd, fv, kv, rfl, f1, f2, rfl, f3, f4, f5, f6, f7, f8⟩ := kdS_ok rep2 p2 e1
      refine ⟨a, _, dx, fv, .ref dd, rfl, f3, hc, hno, f6, ?_⟩
      refine head_rd (R := KS) (k := fun ρ q h => kpEnd y (.r n) s1 q ρ h) rs2 rep2 c2 fun q H3 φ3 h3 s3 st3 rs3 rep3 p3 c3 => ?_
      unfold kpEnd at c3
      cases s1 with
      | r m => exact c3.elim
      | v u =>
        cases e3 : keyU h3 s3 with
        | none => simp only [e3] at c3; exact c3.elim
        | some ks =>
          simp only [e3] at c3
          cases e4 : kputS h3 (.r n) y ks u with
          | none => simp only [e4] at c3; exact c3.elim
          | some h4 =>
            simp only [e4] at c3
            obtain ⟨n', c', fs', r, en, g1, hl, rfl⟩ := kputS_ok e4
            cases en
            obtain ⟨a', dx', ds', fv', g2, ga, g3, g4, g5⟩ := own_ins rep3 (DenS.step st3 p2) g1
            cases ga
            have hb := st3.back n _ (List.getElem?_eq_some_iff.mp f2).1 g2
            rw [f2] at hb
            cases hb
            obtain ⟨d2, kv2, ed, g6, g7, g8⟩ := g5.dk _ _ rfl
            cases ed
            obtain ⟨b, rfl, eb⟩ := keyU_ok rep3 p3 e3
            have dv : Den g (ow φ3 x) H3 u w := DenS.step (s := .v u) st3 (DenS.step (s := .v u) st2 p1)
            have n1 : a ≠ dd := fun z => by rw [z, g7] at g3; cases g3
            have n2 : dx ≠ dd := fun z => by rw [z, g7] at g4; cases g4
            obtain ⟨r4, st4⟩ := rep3.setO (ob := .ins c' fs' (some (y, dPt ks u r))) (v := .dT (putK kv2 (ks.map Sum.inl) w)) (d := dd) g2 (by simp) fun kp =>
              ⟨a, dx, [dd], fv', rfl, by rw [upd_ne n1]; exact g3, by rw [upd_ne n2]; exact g4, fun z uz q => let ⟨v, e1, d⟩ := g5.at_ z uz q; ⟨v, e1, Den.keep kp _ _ d⟩, fun z q1 q2 => g5.no z q1 fun y' r' hh => by
                cases hh
                exact q2 _ _ rfl, fun y' r' hh => by
                cases hh
                exact ⟨dd, _, rfl, g6, upd_same, DK.put ks (DK.keep kp _ _ g8) (Den.keep kp _ _ dv)⟩, fun hh => by cases hh⟩
            exact ⟨dd, _, rfl, DPut.t g7 eb (by rw [g8.len, sizeLine_eq]; exact hl), c3 φ3 σ _ st4 (rs3.step st4) r4⟩
end

/-! ### the one class that is made -/
/-- what __init__ does: from a new instance without attributes -/
def spHall (g : GS) (c : Nat) : Sp := fun vs H Q _ => vs.length = 2 ∧ ∃ (o : Addr → Prop) (a dx : Addr) (v : V) (u : U) (fs : List (Str × U)) (kd : Option (Str × KD)), vs = [.ref a, v] ∧ H a = some (.ins (g.ca c) dx []) ∧ Den g o H u v ∧ o a ∧ (∀ b, o b → H b ≠ none) ∧ hallO c u = some (.ins c fs kd) ∧
  ∀ H' d fv, (∀ b, H b ≠ none → b ≠ a → H' b = H b) → H' a = some (.ins (g.ca c) dx fv) → H d = none → H' d = some (.dT []) → RepI g (fun b => o b ∨ b = d) H' fs kd fv [d] → Q .non H'
structure MkOk (X : Cx) (g : GS) (c f : Nat) (x : Str) : Prop where
  at_ : X.mg x = some (.ref (g.ca c))
  mkc : Mk X.K (g.ca c) (g.fa f)
  fn : ∃ (fd : FuncData) (ps : List Str), FnOk X.prog X.w X.K X.mg X.base CX0 1 (g.fa f) fd ps (spHall g c) ∧ Binds X.K fd ps []
theorem hallO_ins {c : Nat} {u : U} {ob : MO} (e : hallO c u = some ob) : ∃ fs kd, ob = .ins c fs kd := by
  unfold hallO at e
  split at e
  · split at e
    · cases e; exact ⟨_, _, rfl⟩
    · cases e
  · cases e
section
variable {X : Cx} {g : GS} {W : WX} {e : Expr} {f : EvE} {pos p : Pos} {c : Nat}
theorem pe_mk2 {cc : CC} {fn lv : Nat} {x : Str} (hlv : cc.lv = lv) (M : MkOk X g c fn x) (hr : Room lv X.A) (hg : Gl X x) (hdb : (x == ("__debug__" : Str)) = false) (hn : notStar e = true) (ha : PE X e (rdE g W f)) : PE X (.Call (.Name x p) [e] [] pos) (rdE g W (vMk cc c f)) := by
  obtain ⟨fd, ps, hF, hB⟩ := M.fn
  by_cases h2 : 2 ≤ lv
  · refine PE.imp (pe_make M.mkc hF (hr.mono h2) hg M.at_ hB .nil pass0 (pa_cons (pe_s ha) pa_nil (star_cons hn)) hdb (star_cons hn) (back_pl (star_pl rfl))) fun σ H Q ⟨y, φ, ρ, h, rs, rep, cd⟩ => ?_
    unfold vMk at cd
    rw [if_pos (by rw [hlv]; exact h2)] at cd
    refine RD.bind (k := fun ρ s h => match s with
      | .v u => ofO h ((hallO c u).map .nw)
      | .r _ => .bad) KV.mono rs rep cd fun v H1 φ1 h1 s1 st1 rs1 rep1 p1 c1 => ?_
    intro a dx ha hdx hne
    cases s1 with
    | r n => exact c1.elim
    | v u =>
      obtain ⟨rv, e1, q⟩ := Cond.ofO c1
      cases e2 : hallO c u with
      | none => rw [e2] at e1; cases e1
      | some ob =>
        rw [e2] at e1
        cases e1
        obtain ⟨fs, kd, rfl⟩ := hallO_ins e2
        have k1 : ∀ b, H1 b ≠ none → (upd (upd H1 dx (.own a)) a (.ins (g.ca c) dx [])) b = H1 b := fun b hb => by
          rw [upd_ne (fun z => hb (by rw [z]; exact ha)), upd_ne (fun z => hb (by rw [z]; exact hdx))]
        have kp : Keep (ow φ1 y) H1 (fun b => ow φ1 y b ∨ b = a ∨ b = dx) (upd (upd H1 dx (.own a)) a (.ins (g.ca c) dx [])) := ⟨fun b _ hb => k1 b hb, fun b hb => by rw [k1 b hb]; exact hb, fun b hb => hb.imp id fun z => by rcases z with z | z <;> rw [z] <;> assumption⟩
        have hdx0 : (upd (upd H1 dx (.own a)) a (.ins (g.ca c) dx [])) dx = some (.own a) := by rw [upd_ne hne, upd_same]
        refine ⟨rfl, fun b => ow φ1 y b ∨ b = a ∨ b = dx, a, dx, v, u, fs, kd, rfl, upd_same, Den.keep kp u v p1, .inr (.inl rfl), fun b hb => ?_, e2, fun H' d fv hs e3 e4 e5 ri => ⟨rfl, ?_⟩⟩
        · rcases hb with hb | rfl | rfl
          · rw [k1 b (hb.elim (fun q => rep1.there q) fun q => rep1.xs b q)]
            exact hb.elim (fun q => rep1.there q) fun q => rep1.xs b q
          · rw [upd_same]; simp
          · rw [hdx0]; simp
        · have ks : ∀ b, H1 b ≠ none → H' b = H1 b := fun b hb => by
            have n1 : b ≠ a := fun z => hb (by rw [z]; exact ha)
            rw [hs b (by rw [k1 b hb]; exact hb) n1, k1 b hb]
          have hd1 : H1 d = none := Classical.byContradiction fun z => by rw [k1 d z] at e4; exact z e4
          have dxa : H' dx = some (.own a) := by rw [hs dx (by rw [hdx0]; simp) hne]; exact hdx0
          have nad : a ≠ d := fun z => by rw [← z, upd_same] at e4; cases e4
          have ndd : dx ≠ d := fun z => by rw [← z, hdx0] at e4; cases e4
          have fr : ∀ b ∈ [a, dx, d], H1 b = none := fun b hb => by
            simp at hb
            rcases hb with rfl | rfl | rfl <;> assumption
          refine q φ1 (.ref a) H' (step_of ks) (rep1.same ks) ⟨[a, dx, d], rep1.push ks fr ?_ (fun _ => ⟨a, dx, [d], fv, rfl, e3, dxa, ?_⟩), rfl, fr⟩
          · simp only [List.nodup_cons, List.mem_cons, List.not_mem_nil, or_false, not_or, not_false_eq_true, List.nodup_nil, and_true]
            exact ⟨⟨fun z => hne z.symm, nad⟩, ndd⟩
          · refine ri.keep ⟨fun _ _ _ => rfl, fun _ z => z, fun b hb => .inl ?_⟩ fun _ _ => rfl
            rcases hb with hb | hb
            · rcases own_app.mp hb with hb | hb
              · exact .inl (.inl (.inl hb))
              · simp at hb
                rcases hb with hb | hb | hb
                · exact .inl (.inr (.inl hb))
                · exact .inl (.inr (.inr hb))
                · exact .inr hb
            · exact .inl (.inl (.inr hb))
  · refine ⟨fun _ _ _ _ _ _ ⟨_, _, _, _, _, _, cd⟩ => ?_⟩
    unfold vMk at cd
    rw [if_neg (by rw [hlv]; exact h2)] at cd
    exact cd.elim
end
end VM

/-! Raising. -/
namespace VM
open PySem PySem.Spec PyProof.Rows L2 RZ
abbrev veB : List Value := [.type "ValueError", .type "Exception", .type "BaseException", .type "object"]
/-- an exception class over ValueError without an __init__ -/
structure ExcOk (K : PySem.W.Frag) (C : Addr) : Prop where
  xP : PySem.W.excIn K C veB "ValueError.__new__" = true
  kP : PySem.W.keepIn K (.ref C) = true
  bP : PySem.W.subIn K (.ref C) (.type "BaseException") = some true
  tP : PySem.W.typeIn K (.ref C) = some (.type "type")
section
variable {X : Cx} {g : GS} {W : WX}
theorem pmk_none {C : Addr} {x : Str} {p pos : Pos} (E : ExcOk X.K C) (gC : X.mg x = some (.ref C)) (hg : Gl X x) (hdb : (x == ("__debug__" : Str)) = false) : PMk X (.Call (.Name x p) [] [] pos) (fun _ H Q => Q (.ref C) none H) := by
  intro pins s σ H Q I h
  refine wpAny_Call_Name_kw (ld_glob I hg gC ?_ hdb)
  refine PySem.W.callWith_K0 I.kIn E.kP ?_
  obtain ⟨bm, N, nm, qn, bs, hdct, sn, sub, ab, col, dd, k0, k1, k2, k3, k5, mN, hC, hN, hni, T⟩ := exc_obj I.kIn E.xP
  exact wpAny_call_exc_subT PySem.F.excBase_ValueError T hC hN hni (fun h' e hm => mk_of I hm (raises_own E.bP E.tP) h (I.hok.gone hm.new)) (Nat.zero_le _)
theorem ps_rse {i : Nat} {x : Str} {p pos ps : Pos} (E : ExcOk X.K (g.ca i)) (gC : X.mg x = some (.ref (g.ca i))) (hg : Gl X x) (hdb : (x == ("__debug__" : Str)) = false) (hc : X.calm = true) (tk : Takes X W) :
    PS X (.Raise (some (.Call (.Name x p) [] [] pos)) none ps) (RDS g W fun ρ h => SR.ofRs ρ (usE vNil ρ h) fun us h => .ex ⟨i, us⟩ ρ h) :=
  PS.imp (ps_raise hc tk (pmk_none E gC hg hdb)) fun D σ H ⟨y, φ, ρ, h, rs, rep, c⟩ => by
    have c : CondS g y W D φ H (.ex ⟨i, []⟩ ρ h) := c
    exact c φ σ H _ none Step.refl rs rep ⟨rfl, rfl, rfl⟩
end
end VM

/-! try with several clauses, each with a name. -/
namespace VM
open PySem PySem.Spec PyProof.Rows L2 RZ
abbrev Cl := Value × Nat × (Addr → Value → Option Addr → TS)
/-- behind a clause its name is gone -/
def goneE (i : Nat) (D : Ends) : Ends := { nx := fun σ H => D.nx (σ.set i none) H, rt := D.rt, bk := fun σ H => D.bk (σ.set i none) H, ct := fun σ H => D.ct (σ.set i none) H }
def wNm (K : PySem.W.Frag) (Wo : WX) (D : Ends) : List Cl → WX
  | [] => Wo
  | (c, i, ts) :: r => fun cls d σ H => ∃ b, PySem.W.exmOne K cls c = some b ∧ (b = true → ∀ a, H a = none → ts a cls d (goneE i D) (σ.set i (some (.ref a))) H) ∧ (b = false → wNm K Wo D r cls d σ H)
inductive HdNm (X : Cx) : List ExceptHandler → List Cl → Prop
  | nil : HdNm X [] []
  | cons {x n : Str} {c : Value} {i : Nat} {ts : Addr → Value → Option Addr → TS} {b1 : Stmt} {su : List Stmt} {np p2 : Pos} {hds : List ExceptHandler} {l : List Cl} (hi : X.N[i]? = some n) (hl : X.env.kindOf n = some .local) (hc : Names X x c)
      (hs : ∀ (a : Addr) (ob : Obj) (cls : Value) (d : Option Addr) (pn : List (Addr × Obj)), Zc cls d ob → (∃ vs, ob.data = .fields vs) → PSs (X.suite a ((a, ob) :: pn)) (b1 :: su) (ts a cls d)) (r : HdNm X hds l) :
      HdNm X (.ExceptHandler (some (.Name x np)) (some n) (b1 :: su) p2 :: hds) ((c, i, ts) :: l)
section
variable {X : Cx} {body : List Stmt} {hd0 : ExceptHandler} {hds : List ExceptHandler} {l : List Cl} {pos : Pos} {tb : WX → TS} {Wo : WX}
theorem ps_try_nm (hs : X.stack = X.env :: X.outer) (hf : X.env.frame = some X.env.locals) (hN : X.N.Nodup) (tk : Takes X Wo)
    (hb : ∀ (W : WX) (pn : List (Addr × Obj)) (xe : Value → Shared → Prop), Takes (X.tr pn xe) W → PassesOwn (model X.prog X.w) X.A X.env xe → PSs (X.tr pn xe) body (tb W))
    (hh : HdNm X (hd0 :: hds) l) : PS X (.Try body (hd0 :: hds) [] [] pos) (fun D σ H => tb (wNm X.K Wo D l) D σ H) := by
  constructor
  intro pins s σ H D I q0
  have okI := I.ok
  have frE : X.A.frames = some (X.env :: X.outer) := okI.frames.trans (congrArg some hs)
  refine wpAny_Try_except ?_
  have run := (hb (wNm X.K Wo D l) (X.pn ++ pins) (fun e t1 => wpAny (model X.prog X.w) X.A (noteFrame e X.env) (fun _ t2 => wpAny (model X.prog X.w) X.A (setFlight e none)
    (fun _ t3 => wpAny (model X.prog X.w) X.A (handleBy e X.env (hd0 :: hds)) (SP X pins D) X.xe t3) X.xe t2) X.xe t1)
    (fun u t ⟨a, B, sI, pins1, σ1, H1, cls, d, eu, J0, nb, up, sky, na, eo, ag, w⟩ => by
      subst eu
      have J : L2.Inv X pins σ1 H1 sI := J0.ofTry okI
      have skyE : Sky B (X.env :: X.outer) a (Zc cls d) X.env.locals t.heap := hs ▸ sky
      show wpAny (model X.prog X.w) X.A (noteFrame (.ref a) X.env) _ _ _
      refine Sky.land Zc.steady frE hf skyE fun g3 fl up1 => ?_
      have J3 : L2.Inv X pins σ1 H1 { t with heap := g3 } := J.landed nb fl.1 (up.trans up1) eo ag
      obtain ⟨ob, vs, at3, z3, dt3⟩ := fl.there
      have off : a ∉ frs (X.env :: X.outer) := fun hm => by
        obtain ⟨_, o1, e1, no⟩ := fl.2.2.1.mem hm
        rw [at3] at e1
        cases e1
        exact no _ dt3
      have offL : a ≠ X.env.locals := fun z => off (List.mem_filterMap.mpr ⟨_, List.mem_cons_self, hf.trans (congrArg some z.symm)⟩)
      have offF : a ∉ X.fs := fun hm => let ⟨e, he, q⟩ := List.mem_filterMap.mp hm; off (List.mem_filterMap.mpr ⟨e, List.mem_cons_of_mem _ he, q⟩)
      have S3 := J3.suite at3 dt3 na offL offF
      have go : ∀ {hs2 : List ExceptHandler} {l2 : List Cl}, HdNm X hs2 l2 → wNm X.K Wo D l2 cls d σ1 H1 → wpAny (model X.prog X.w) X.A (handleBy (.ref a) X.env hs2) (SP X pins D) X.xe { t with heap := g3 } := fun {hs2 l2} hk => by
        induction hk with
        | nil =>
          intro w
          refine wpAny_handleBy_nil ?_
          obtain ⟨_, _, _, oe, ws, T, _, _, he, _, hd, h1, _⟩ := id fl
          unfold PySem.passOn
          refine wpAny_bind (wpAny_field he hd h1 ?_)
          rw [if_neg (by simp : ¬ ((Value.ref T == Value.none) = true))]
          have fin : wpAny (model X.prog X.w) X.A (setFlight (.ref a) X.env.frame) (fun _ t4 => wpAny (model X.prog X.w) X.A (throw (.ref a) : Sem Flow) (SP X pins D) X.xe t4) X.xe { t with heap := g3 } := by
            rw [hf]
            exact HandSPX.setFlight_upZ fl fun g4 in4 up4 => wpAny_throw (tk _ _ ⟨a, B, sI, pins, σ1, H1, cls, d, rfl, J, nb, (up.trans up1).trans up4, .inr (.inr (hs ▸ in4)), na, eo, ag, w⟩)
          first
            | exact wpAny_bind (wpAny_pure (wpAny_bind fin))
            | exact wpAny_bind fin
        | @cons x n c i ts b1 su np p2 hds2 l2 hi hl hc hsu r ih =>
          intro w
          obtain ⟨b, em, yes, no⟩ := w
          refine wpAny_handleBy_cons (codeAny_handlers_test ?_) (by intro q; cases q)
          have ty : PySem.W.Looks (model X.prog X.w) g3 (typeOf (.ref a)) cls := fun _ _ _ _ k q => wpAny_typeOf_ref (k _ _ at3) (z3.1.symm ▸ q)
          have lk := PySem.W.exm_one (M := model X.prog X.w) J3.kIn ty em
          have test : ∀ {Q E : Value → Shared → Prop}, Q c { t with heap := g3 } → wpAny (model X.prog X.w) (X.A.mark (some (.ref a))) (eval (.Name x np) X.env) Q E { t with heap := g3 } := fun {Q E} q => by
            obtain ⟨n1, n2, n3 | ⟨n3, n4, n5⟩⟩ := hc
            · exact ld_glob (X := X.suite a ((a, ob) :: (X.pn ++ pins))) S3 n1 n3 q n2
            · exact ld_blt (X := X.suite a ((a, ob) :: (X.pn ++ pins))) S3 n1 n3 n4 q n5 n2
          refine test (lk.here ?_)
          cases b with
          | false => exact ih (no rfl)
          | true =>
            refine codeAny_handlers_suite_as (HandSPX.lands_againZ fl fun g4 fl4 up4 => ?_)
            have J4 : L2.Inv X pins σ1 H1 { t with heap := g4 } := J.landed nb fl4.1 ((up.trans up1).trans up4) eo ag
            obtain ⟨o4, _, at4, z4, dt4⟩ := fl4.there
            refine store_ok (X := X.suite a ((a, o4) :: (X.pn ++ pins))) (v := .ref a) (J4.suite at4 dt4 na offL offF) hN hi (.inl hl) rfl (fun t5 S5 => ?_) (.inr hl)
            refine wpAny_mono ((hsu a o4 cls d (X.pn ++ pins) z4 ⟨_, dt4⟩).run [] t5 _ H1 _ S5 (yes rfl a na)) (fun f t6 hsp => ?_) fun _ _ z => z.elim
            have fin : ∀ {σ6 : L2.St} {H6 : Hp} {Q : Shared → Prop}, L2.Inv (X.suite a ((a, o4) :: (X.pn ++ pins))) [] σ6 H6 t6 → (∀ t7, L2.Inv X pins (σ6.set i none) H6 t7 → Q t7) →
              wpAny (model X.prog X.w) X.A (do bindName X.env n .none; unbindBehindTheSuite X.env n p2) (fun _ t7 => Q t7) X.xe t6 := fun {σ6 H6 Q} S6 hq => gone_ok (S6.unsuite okI) hN hi hl hq
            cases f with
            | next => exact let ⟨σ6, H6, S6, q6⟩ := hsp; fin S6 fun t7 J7 => ⟨_, _, J7, q6⟩
            | brk => exact let ⟨σ6, H6, S6, q6⟩ := hsp; fin S6 fun t7 J7 => ⟨_, _, J7, q6⟩
            | cont => exact let ⟨σ6, H6, S6, q6⟩ := hsp; fin S6 fun t7 J7 => ⟨_, _, J7, q6⟩
            | ret u => exact let ⟨v6, σ6, H6, S6, r6, q6⟩ := hsp; fin S6 fun t7 J7 => ⟨_, _, _, J7, r6, q6⟩
      exact go hh w) PassesOwn.looking).run [] s σ H D (I.toTry _) q0
  refine wpAny_mono run (fun f t hsp => ?_) fun _ _ z => z
  cases f with
  | next => exact let ⟨σ1, H1, J1, q⟩ := hsp; wpAny_execs_nil ⟨σ1, H1, J1.ofTry okI, q⟩
  | brk => exact let ⟨σ1, H1, J1, q⟩ := hsp; ⟨σ1, H1, J1.ofTry okI, q⟩
  | cont => exact let ⟨σ1, H1, J1, q⟩ := hsp; ⟨σ1, H1, J1.ofTry okI, q⟩
  | ret u => exact let ⟨v, σ1, H1, J1, r, q⟩ := hsp; ⟨v, σ1, H1, J1.ofTry okI, r, q⟩
end
end VM

/-! What a clause stores. -/
namespace VM
open PySem PySem.Spec PyProof.Rows L2 RZ
/-- what isinstance asks of a class of exceptions -/
structure ExI (K : PySem.W.Frag) (C : Addr) : Prop where
  hcl : (PySem.W.clsIn K C).isSome = true
  hga : PySem.W.findIn K (.ref C) "__getattribute__" = some (some (.builtin "BaseException.__getattribute__"))
  hgt : PySem.W.findIn K (.ref C) "__getattr__" = some none
  hsub : PySem.W.subIn K (.ref C) (.type "BaseException") = some true
  ha : PySem.W.findIn K (.ref C) "__class__" = some (some (.builtin "object.__class__"))
  hn : PySem.W.specialIn K (.builtin "object.__class__") "__get__" = some (some (.builtin "getset_descriptor.__get__"))
  htk : PySem.W.takesIn K (.builtin "object.__class__") = some true
  hm : PySem.W.mroIn K C (.type "object") = some true
  hk : PySem.W.kitOne K (.ref C) (.type "ValueError") = some true
section
variable {X : Cx} {g : GS} {W : WX} {C a : Addr} {ob : Obj} {pn : List (Addr × Obj)} {n : Str} {i j : Nat} {p p1 p2 pos : Pos}
def rIsiE (a : Addr) : List V → Hp → VK → Prop := fun xs H Q => xs = [.ref a, .ty "ValueError"] ∧ Q (.bl true) H
theorem call_isiE (E : ExI X.K C) (z : Zc (.ref C) none ob) (f : ∃ vs, ob.data = .fields vs) : CallR (X.suite a ((a, ob) :: pn)) (.builtin "isinstance") (rIsiE a) := by
  intro pins s σ H xs us Q I r h
  obtain ⟨rfl, q⟩ := h
  obtain ⟨u1, u2, rfl, r1, r2⟩ := vals2 r
  have e1 : u1 = .ref a := r1
  have e2 : u2 = .type "ValueError" := r2
  subst e1 e2
  obtain ⟨vs, hf⟩ := f
  have ia : PySem.W.InstAt s.heap a ob C none := ⟨(I.pin (a, ob) (List.mem_append_left _ (List.mem_cons_self ..))).1, z.1, by unfold PySem.W.notCls; rw [hf], by rw [z.2]; trivial⟩
  exact PySem.W.kia_one (PySem.W.kitx_exc E.hcl E.hga E.hgt E.hsub E.ha E.hn E.htk E.hm) I.kIn ia E.hk (fun z => nomatch z) fun tk => ⟨.bl true, H, I.tok tk, rfl, q⟩
/-- isinstance of the caught one -/
def eIsi (n : Str) (p p1 p2 pos : Pos) : Expr := .Call (.Name "isinstance" p) [.Name n p1, .Name "ValueError" p2] [] pos
theorem pe_isiE (E : ExI X.K C) (z : Zc (.ref C) none ob) (f : ∃ vs, ob.data = .fields vs) (hN : X.N[i]? = some n) (hv : Vis X.env.scope n) (h1 : (n == ("__debug__" : Str)) = false) (h2 : (n == ("__classdict__" : Str)) = false) (g1 : Gl X "isinstance") (g2 : X.mg "isinstance" = none) (g3 : Gl X "ValueError") (g4 : X.mg "ValueError" = none) :
    PE (X.suite a ((a, ob) :: pn)) (eIsi n p p1 p2 pos) (fun σ H Q => σ[i]? = some (some (.ref a)) ∧ Q (.bl true) H) :=
  PE.imp (pe_callB (call_isiE E z f) g1 g2 boot_isi (pa_cons (pe_var (pos := p1) hN hv h1 h2) (pa_cons (pe_bltn (v := .ty "ValueError") (u := .type "ValueError") (pos := p2) g3 g4 (by decide +kernel) rfl (by decide) (by decide)) pa_nil (star_cons rfl)) (star_cons rfl)) (by decide) (by decide) (star_cons rfl) (back_pl (star_pl rfl)))
    fun σ H Q ⟨e, q⟩ => ⟨.ref a, e, rfl, q⟩
/-- what a clause stores: True, ['z', True], 'y' -/
structure SuOk (X : Cx) (n m : Str) (i j : Nat) : Prop where
  nd : X.N.Nodup
  hN : X.N[i]? = some n
  hv : Vis X.env.scope n
  h1 : (n == ("__debug__" : Str)) = false
  h2 : (n == ("__classdict__" : Str)) = false
  g1 : Gl X "isinstance"
  g2 : X.mg "isinstance" = none
  g3 : Gl X "ValueError"
  g4 : X.mg "ValueError" = none
  st : Sto X j m
variable {m z1 z2 : Str} {pm ps pf pk pk2 : Pos} {k1 k2 : Nat}
theorem ps_suA (S : SuOk X n m i j) (E : ExI X.K C) (z : Zc (.ref C) none ob) (f : ∃ vs, ob.data = .fields vs) :
    PSs (X.suite a ((a, ob) :: pn)) [.Assign [.Name m pm] (eIsi n p p1 p2 pos) ps] (fun D σ H => σ[i]? = some (some (.ref a)) ∧ D.nx (σ.set j (some (.bl true))) H) :=
  PSs.imp (pss_one (ps_set (X := X.suite a ((a, ob) :: pn)) S.nd S.st.at_ S.st.loc (pe_isiE E z f S.hN S.hv S.h1 S.h2 S.g1 S.g2 S.g3 S.g4) rfl S.st.fn)) fun D σ H ⟨e, q⟩ => ⟨e, q⟩
theorem ps_suB (S : SuOk X n m i j) (E : ExI X.K C) (z : Zc (.ref C) none ob) (f : ∃ vs, ob.data = .fields vs) :
    PSs (X.suite a ((a, ob) :: pn)) [.Assign [.Name m pm] (.List [.Constant (.str z1) k1 pk, eIsi n p p1 p2 pos] pk2) ps] (fun D σ H => σ[i]? = some (some (.ref a)) ∧ ∀ q, H q = none → D.nx (σ.set j (some (.ref q))) (upd H q (.lst [.str z1, .bl true]))) :=
  PSs.imp (pss_one (ps_set (X := X.suite a ((a, ob) :: pn)) S.nd S.st.at_ S.st.loc (pe_lst (pa_cons pe_str (pa_cons (pe_isiE E z f S.hN S.hv S.h1 S.h2 S.g1 S.g2 S.g3 S.g4) pa_nil (star_cons rfl)) (star_cons rfl))) rfl S.st.fn)) fun D σ H ⟨e, q⟩ =>
    ⟨e, by show 2 ≤ sizeLine; rw [sizeLine_eq]; omega, fun b hb => q b hb⟩
theorem ps_suC (S : SuOk X n m i j) (E : ExI X.K C) (z : Zc (.ref C) none ob) (f : ∃ vs, ob.data = .fields vs) :
    PSs (X.suite a ((a, ob) :: pn)) [.Assign [.Name m pm] (.IfExp (eIsi n p p1 p2 pos) (.Constant (.str z1) k1 pk) (.Constant (.str z2) k2 pk2) pf) ps] (fun D σ H => σ[i]? = some (some (.ref a)) ∧ D.nx (σ.set j (some (.str z1))) H) :=
  PSs.imp (pss_one (ps_set (X := X.suite a ((a, ob) :: pn)) S.nd S.st.at_ S.st.loc (pe_ifExp (pt_val (pe_isiE E z f S.hN S.hv S.h1 S.h2 S.g1 S.g2 S.g3 S.g4)) pe_str pe_str) rfl S.st.fn)) fun D σ H ⟨e, q⟩ =>
    ⟨e, true, rfl, show if true = true then _ else _ by rw [if_pos rfl]; exact q⟩
end

/-! ### a try -/
/-- what is stored -/
def suV : IH → Option U
  | .isi => some (.bl true)
  | .lst [some z, none] => some (.lst [.str z, .bl true])
  | .ife a _ => some (.str a)
  | _ => none
theorem hxU_su {e : Ex} {x : IH} {u : U} (h : suV x = some u) : (hxU e true x).bind RV.s = some (.v u) := by
  unfold suV at h
  split at h
  · cases h; rfl
  · cases h; rfl
  · cases h; rfl
  · cases h
abbrev Hx := Nat × Nat × Nat × IH
/-- a clause and what it is to the machine -/
inductive Cls1 (X : Cx) (g : GS) : Hx → ExceptHandler → Prop
  | a {cl i j : Nat} {x n m : Str} {p p1 p2 pos np p3 pm ps : Pos} (hc : Names X x (.ref (g.ca cl))) (hl : X.env.kindOf n = some .local) (hij : i ≠ j) (S : SuOk X n m i j) (E : ExI X.K (g.ca cl)) :
      Cls1 X g (cl, i, j, .isi) (.ExceptHandler (some (.Name x np)) (some n) [.Assign [.Name m pm] (eIsi n p p1 p2 pos) ps] p3)
  | b {cl i j : Nat} {x n m z : Str} {k1 : Nat} {p p1 p2 pos np p3 pm ps pk pk2 : Pos} (hc : Names X x (.ref (g.ca cl))) (hl : X.env.kindOf n = some .local) (hij : i ≠ j) (S : SuOk X n m i j) (E : ExI X.K (g.ca cl)) :
      Cls1 X g (cl, i, j, .lst [some z, none]) (.ExceptHandler (some (.Name x np)) (some n) [.Assign [.Name m pm] (.List [.Constant (.str z) k1 pk, eIsi n p p1 p2 pos] pk2) ps] p3)
  | c {cl i j : Nat} {x n m z1 z2 : Str} {k1 k2 : Nat} {p p1 p2 pos np p3 pm ps pf pk pk2 : Pos} (hc : Names X x (.ref (g.ca cl))) (hl : X.env.kindOf n = some .local) (hij : i ≠ j) (S : SuOk X n m i j) (E : ExI X.K (g.ca cl)) :
      Cls1 X g (cl, i, j, .ife z1 z2) (.ExceptHandler (some (.Name x np)) (some n) [.Assign [.Name m pm] (.IfExp (eIsi n p p1 p2 pos) (.Constant (.str z1) k1 pk) (.Constant (.str z2) k2 pk2) pf) ps] p3)
inductive Clss (X : Cx) (g : GS) : List Hx → List ExceptHandler → Prop
  | nil : Clss X g [] []
  | cons {h : Hx} {e : ExceptHandler} {hs : List Hx} {es : List ExceptHandler} (a : Cls1 X g h e) (b : Clss X g hs es) : Clss X g (h :: hs) (e :: es)
/-- the clause's reading -/
def clR (a : Addr) (i j : Nat) : IH → TS
  | .isi => fun D σ H => σ[i]? = some (some (.ref a)) ∧ D.nx (σ.set j (some (.bl true))) H
  | .lst [some z, none] => fun D σ H => σ[i]? = some (some (.ref a)) ∧ ∀ q, H q = none → D.nx (σ.set j (some (.ref q))) (upd H q (.lst [.str z, .bl true]))
  | .ife z _ => fun D σ H => σ[i]? = some (some (.ref a)) ∧ D.nx (σ.set j (some (.str z))) H
  | _ => fun _ _ _ => False
def clT (g : GS) (h : Hx) : Cl := (.ref (g.ca h.1), h.2.1, fun a cls d => if cls = .ref (g.ca h.1) ∧ d = none then clR a h.2.1 h.2.2.1 h.2.2.2 else fun _ _ _ => False)
theorem no_ts {Y : Cx} {st : List Stmt} : PSs Y st (fun _ _ _ => False) := ⟨fun _ _ _ _ _ _ h => h.elim⟩
theorem hd1 {h : Hx} {e : ExceptHandler} {es : List ExceptHandler} {l : List Cl} (k : Cls1 X g h e) (r : HdNm X es l) : HdNm X (e :: es) (clT g h :: l) := by
  cases k with
  | @a cl i j x n m p p1 p2 pos np p3 pm ps hc hl hij S E =>
    exact HdNm.cons (b1 := .Assign [.Name m pm] (eIsi n p p1 p2 pos) ps) (su := []) (ts := fun b cls d => if cls = .ref (g.ca cl) ∧ d = none then clR b i j .isi else fun _ _ _ => False) S.hN hl hc (fun b ob cls d pn z f => by
      show PSs _ _ (if cls = .ref (g.ca cl) ∧ d = none then clR b i j .isi else fun _ _ _ => False)
      by_cases q : cls = .ref (g.ca cl) ∧ d = none
      · rw [if_pos q]
        obtain ⟨rfl, rfl⟩ := q
        exact ps_suA S E z f
      · rw [if_neg q]
        exact no_ts) r
  | @b cl i j x n m z k1 p p1 p2 pos np p3 pm ps pk pk2 hc hl hij S E =>
    exact HdNm.cons (b1 := .Assign [.Name m pm] (.List [.Constant (.str z) k1 pk, eIsi n p p1 p2 pos] pk2) ps) (su := []) (ts := fun b cls d => if cls = .ref (g.ca cl) ∧ d = none then clR b i j (.lst [some z, none]) else fun _ _ _ => False) S.hN hl hc (fun b ob cls d pn zz f => by
      show PSs _ _ (if cls = .ref (g.ca cl) ∧ d = none then clR b i j (.lst [some z, none]) else fun _ _ _ => False)
      by_cases q : cls = .ref (g.ca cl) ∧ d = none
      · rw [if_pos q]
        obtain ⟨rfl, rfl⟩ := q
        exact ps_suB S E zz f
      · rw [if_neg q]
        exact no_ts) r
  | @c cl i j x n m z1 z2 k1 k2 p p1 p2 pos np p3 pm ps pf pk pk2 hc hl hij S E =>
    exact HdNm.cons (b1 := .Assign [.Name m pm] (.IfExp (eIsi n p p1 p2 pos) (.Constant (.str z1) k1 pk) (.Constant (.str z2) k2 pk2) pf) ps) (su := []) (ts := fun b cls d => if cls = .ref (g.ca cl) ∧ d = none then clR b i j (.ife z1 z2) else fun _ _ _ => False) S.hN hl hc (fun b ob cls d pn z f => by
      show PSs _ _ (if cls = .ref (g.ca cl) ∧ d = none then clR b i j (.ife z1 z2) else fun _ _ _ => False)
      by_cases q : cls = .ref (g.ca cl) ∧ d = none
      · rw [if_pos q]
        obtain ⟨rfl, rfl⟩ := q
        exact ps_suC S E z f
      · rw [if_neg q]
        exact no_ts) r
theorem hd_of {hs : List Hx} {es : List ExceptHandler} (k : Clss X g hs es) : HdNm X es (hs.map (clT g)) := by
  induction k with
  | nil => exact .nil
  | cons a _ ih => exact hd1 a ih
theorem Cls1.sv {h : Hx} {e : ExceptHandler} (k : Cls1 X g h e) : ∃ u, suV h.2.2.2 = some u ∧ h.2.1 ≠ h.2.2.1 ∧ h.2.1 < X.N.length := by
  cases k with
  | a hc hl hij S E => exact ⟨_, rfl, hij, (List.getElem?_eq_some_iff.mp S.hN).1⟩
  | b hc hl hij S E => exact ⟨_, rfl, hij, (List.getElem?_eq_some_iff.mp S.hN).1⟩
  | c hc hl hij S E => exact ⟨_, rfl, hij, (List.getElem?_eq_some_iff.mp S.hN).1⟩
theorem set3 {α : Type} {σ : List α} {i j : Nat} {a v z : α} (h : i ≠ j) : ((σ.set i a).set j v).set i z = (σ.set j v).set i z := by
  rw [List.set_comm _ _ h, List.set_set]
theorem clR_run {x : Addr → Prop} {D : Ends} {φ φ1 : Phi} {h : Hs} {ρ : Rho} {σ : L2.St} {H H1 : Hp} {ih : IH} {u : U} {b : Addr} (e : suV ih = some u) (hij : i ≠ j) (hi : i < σ.length) (st : Step φ H φ1 H1) (rs : RelS g x φ1 H1 ρ σ) (rep : RepH g x φ1 h H1)
    (c : CondS g x W D φ H (.nx ((ρ.set j (some (.v u))).set i none) h)) : clR b i j ih (goneE i D) (σ.set i (some (.ref b))) H1 := by
  have at1 : (σ.set i (some (V.ref b)))[i]? = some (some (.ref b)) := List.getElem?_set_self hi
  unfold suV at e
  split at e
  · cases e
    refine ⟨at1, ?_⟩
    show D.nx (((σ.set i (some (.ref b))).set j (some (.bl true))).set i none) H1
    rw [set3 hij]
    exact c φ1 _ H1 st (rs.set (s := .v (.bl true)) (v := .bl true) rfl).unset rep
  · rename_i z
    cases e
    refine ⟨at1, fun q hq => ?_⟩
    show D.nx (((σ.set i (some (.ref b))).set j (some (.ref q))).set i none) _
    rw [set3 hij]
    have k := new_same (o := .lst [.str z, .bl true]) hq
    have s1 : Step φ1 H1 φ1 (upd H1 q (.lst [.str z, .bl true])) := step_of k
    have dn : DenS g x φ1 (upd H1 q (.lst [.str z, .bl true])) (.v (.lst [.str z, .bl true])) (.ref q) := ⟨q, _, rfl, upd_same, rep.fresh hq, .str z, _, rfl, rfl, .bl true, _, rfl, rfl, rfl⟩
    exact c φ1 _ _ (st.trans s1) ((rs.step s1).set dn).unset (rep.same k)
  · rename_i z _
    cases e
    refine ⟨at1, ?_⟩
    show D.nx (((σ.set i (some (.ref b))).set j (some (.str z))).set i none) H1
    rw [set3 hij]
    exact c φ1 _ H1 st (rs.set (s := .v (.str z)) (v := .str z) rfl).unset rep
  · cases e
theorem ps_tr2 {ks : List Nat} {fb : EvS} {hs : List Hx} {hd0 : ExceptHandler} {hds : List ExceptHandler} {body : List Stmt} (hst : X.stack = X.env :: X.outer) (hf : X.env.frame = some X.env.locals) (hN : X.N.Nodup) (tk : Takes X W)
    (hb : ∀ (W' : WX) (pn : List (Addr × Obj)) (xe : Value → Shared → Prop), Takes (X.tr pn xe) W' → PassesOwn (model X.prog X.w) X.A X.env xe → PSs (X.tr pn xe) body (RDS g W' fb))
    (hh : Clss X g hs (hd0 :: hds)) (hx : ∀ k, k ∈ ks → ∀ h ∈ hs, PySem.W.exmOne X.K (.ref (g.ca k)) (.ref (g.ca h.1)) = some (decide (k = h.1))) :
    PS X (.Try body (hd0 :: hds) [] [] pos) (RDS g W (sTr ks fb hs)) :=
  PS.imp (ps_try_nm (tb := fun W' => RDS g W' fb) hst hf hN tk hb (hd_of hh)) fun D σ H ⟨x, φ, ρ, h, rs, rep, c⟩ => by
    refine ⟨x, φ, ρ, h, rs, rep, ?_⟩
    unfold sTr at c
    cases e1 : fb ρ h with
    | nx ρ1 h1 => rw [e1] at c; exact c
    | bk ρ1 h1 => rw [e1] at c; exact c
    | ct ρ1 h1 => rw [e1] at c; exact c
    | rt r h1 => rw [e1] at c; exact c
    | bad => rw [e1] at c; exact c
    | ex e ρ1 h1 =>
      rw [e1] at c
      have c : CondS g x W D φ H (if (ks.contains e.c && hs.all fun q => Nat.blt q.2.1 ρ1.length) = true then catchS ρ1 h1 e hs else .bad) := c
      split at c
      · rename_i hc
        intro φ1 σ1 H1 cls d st rs1 rep1 ev
        obtain ⟨hc, hc2⟩ := Bool.and_eq_true_iff.mp hc
        have hin : e.c ∈ ks := by simpa using hc
        have main : ∀ {hs' : List Hx} {es : List ExceptHandler}, Clss X g hs' es → (∀ h ∈ hs', h.2.1 < ρ1.length) → (∀ h ∈ hs', PySem.W.exmOne X.K (.ref (g.ca e.c)) (.ref (g.ca h.1)) = some (decide (e.c = h.1))) → CondS g x W D φ H (catchS ρ1 h1 e hs') → wNm X.K W D (hs'.map (clT g)) cls d σ1 H1 := by
          intro hs' es hk
          induction hk with
          | nil => exact fun _ _ c => c φ1 σ1 H1 cls d st rs1 rep1 ev
          | @cons hd ee hs2 es2 a r ih =>
            intro hl2 hx2 c
            obtain ⟨cl, i, j, ihx⟩ := hd
            obtain ⟨e2, e3, e4⟩ := ev
            refine ⟨decide (e.c = cl), by rw [e2]; exact hx2 _ (List.mem_cons_self ..), fun q b hb => ?_, fun q => ?_⟩
            · have q : e.c = cl := of_decide_eq_true q
              obtain ⟨u, s1, s2, s3⟩ := a.sv
              have c : CondS g x W D φ H (if e.c = cl then (match (hxU e true ihx).bind RV.s with
                | some s => .nx ((ρ1.set j (some s)).set i none) h1
                | none => .bad) else catchS ρ1 h1 e hs2) := c
              rw [if_pos q, hxU_su s1] at c
              show (if cls = .ref (g.ca cl) ∧ d = none then clR b i j ihx else fun _ _ _ => False) (goneE i D) (σ1.set i (some (.ref b))) H1
              rw [if_pos ⟨by rw [e2, q], e4⟩]
              exact clR_run s1 s2 (by rw [← rs1.len]; exact hl2 _ (List.mem_cons_self ..)) st rs1 rep1 c
            · have q : ¬ e.c = cl := of_decide_eq_false q
              have c : CondS g x W D φ H (if e.c = cl then (match (hxU e true ihx).bind RV.s with
                | some s => .nx ((ρ1.set j (some s)).set i none) h1
                | none => .bad) else catchS ρ1 h1 e hs2) := c
              rw [if_neg q] at c
              exact ih (fun h hh => hl2 h (List.mem_cons_of_mem _ hh)) (fun h hh => hx2 h (List.mem_cons_of_mem _ hh)) c
        exact main hh (fun h hh => Nat.le_of_ble_eq_true (List.all_eq_true.mp hc2 h hh)) (hx e.c hin) c
      · exact c.elim
end VM

/-! List comprehensions with two walks. -/
namespace VM
open PySem PySem.Spec PyProof.Rows L2 RZ
section
variable {X : Cx} {g : GS} {W : WX} {tg iter elt tg1 iter1 : Expr} {ifs ifs1 : List Expr} {f : EvE} {it it1 : EvI} {k k1 : Rho → Hs → Rs Bool} {gs gs1 : EvGs} {is is1 : List Nat} {pos : Pos} {scope : Scope} {own : List (Str × Nat)}
theorem lc2_rd {σ : L2.St} {H : Hp} {Q : VK} {vs vs1 : List Nat} (his : ∀ i ∈ is, i ∈ vs) (his1 : ∀ i ∈ is1, i ∈ vs1) (hh : rdE g W (vLc2 gs it k gs1 it1 k1 f vs vs1) σ H Q) :
    tLc2 (rdI g W it) (GD1 g is gs) (rdB g W0 k) (rdI g W0 it1) (GD1 g is1 gs1) (rdB g W0 k1) (rdS g W0 (sE f)) vs vs1 σ H Q := by
  obtain ⟨x, φ, ρ, h, rs, rep, c⟩ := hh
  refine RD.bind (k := fun ρ p h => match compO p.1 gs k it1 gs1 k1 f (wipeR ρ vs) vs1 p.2 0 [] h with
    | .ok us h => .ok (.nw (.lst us)) h
    | _ => .bad) KV.mono rs rep c fun J H1 φ1 h1 p st1 rs1 rep1 p1 c1 => ?_
  intro D hD
  obtain ⟨src, n0⟩ := p
  have c1 : Cond g x W KV σ Q φ1 H1 (match compO src gs k it1 gs1 k1 f (wipeR ρ vs) vs1 n0 0 [] h1 with
    | .ok us h => .ok (.nw (.lst us)) h
    | _ => .bad) := c1
  cases e0 : compO src gs k it1 gs1 k1 f (wipeR ρ vs) vs1 n0 0 [] h1 with
  | bad => rw [e0] at c1; exact c1.elim
  | ex z hz => rw [e0] at c1; exact c1.elim
  | ok usF hF =>
  rw [e0] at c1
  have c1 : ∀ φ' b H', Step φ1 H1 φ' H' → RepH g x φ' hF H' → KV g x H1 (.nw (.lst usF)) hF φ' b H' → Q b H' := c1
  obtain ⟨r0, s0⟩ := rep1.outD (v := .lst []) hD
  have hDl : ∀ {φa φb : Phi} {Ha Hb : Hp} {ha : Hs} {accV : List V}, RepH g (xD x D) φa ha Ha → Step φa Ha φb Hb → Ha D = some (.lst accV) → Hb D = some (.lst accV) := fun ra sa e => by
    rw [sa.same D (fun q => ra.apart D q (.inr rfl)) (by rw [e]; simp)]
    exact e
  refine ⟨fun i m Hc => ∃ φc hc acc accV, Step φ1 H1 φc Hc ∧ RepH g (xD x D) φc hc Hc ∧ Hc D = some (.lst accV) ∧ DenL g (ow φc (xD x D)) Hc acc accV ∧ compO src gs k it1 gs1 k1 f (wipeR ρ vs) vs1 m i acc hc = .ok usF hF, ⟨n0, φ1, h1, [], [], s0, r0, upd_same, rfl, e0⟩, ?_⟩
  rintro i m Hc ⟨φc, hc, acc, accV, st, rp, hDc, dl, ec⟩
  have kp := keepD (x := x) st hD
  have sj : SrcJ g (xD x D) φc Hc src J := SrcJ.lift kp st.len st.back p1
  have rsc : RelS g (xD x D) φc Hc (wipeR ρ vs) (L2.wipe σ vs) := (RelS.lift kp st.len st.back rs1).wipe
  cases m with
  | zero =>
    refine .inl ?_
    rw [compO] at ec
    split at ec
    · rename_i he
      cases ec
      refine ⟨src_end rp sj he, ?_⟩
      obtain ⟨q1, q2⟩ := rp.inD hDc (fun q => rep1.xs D q hD) dl
      exact c1 φc _ Hc st q1 ⟨[D], q2, rfl, fun a ha => by simp at ha; rw [ha]; exact hD⟩
    · cases ec
  | succ m =>
    refine .inr ?_
    rw [compO] at ec
    cases e1 : srcAt hc src i with
    | none => rw [e1] at ec; cases ec
    | some u =>
      rw [e1] at ec
      dsimp only at ec
      obtain ⟨go, yl⟩ := src_at rp sj e1
      refine ⟨go, fun Hn => ∃ φc hc acc accV, Step φ1 H1 φc Hn ∧ RepH g (xD x D) φc hc Hn ∧ Hn D = some (.lst accV) ∧ DenL g (ow φc (xD x D)) Hn acc accV ∧ compO src gs k it1 gs1 k1 f (wipeR ρ vs) vs1 m (i + 1) acc hc = .ok usF hF, fun Hn q => ⟨m, Nat.lt_succ_self m, q⟩, fun v Hy hy => ?_⟩
      obtain ⟨sm, dv⟩ := yl v Hy hy
      have sty : Step φc Hc φc Hy := step_of sm
      have rpy := rp.same sm
      cases e2 : gs [u] (wipeR ρ vs) hc with
      | bad => rw [e2] at ec; cases ec
      | ex z hz => rw [e2] at ec; cases ec
      | ok ρ2 h2 =>
        rw [e2] at ec
        replace ec : ((k ρ2 h2).bind fun b h => if b = true then
          (it1 ρ2 h).bind fun p h => (compL p.1 gs1 k1 f (wipeR ρ2 vs1) p.2 0 acc h).bind fun acc h => compO src gs k it1 gs1 k1 f (wipeR ρ vs) vs1 m (i + 1) acc h
          else compO src gs k it1 gs1 k1 f (wipeR ρ vs) vs1 m (i + 1) acc h) = .ok usF hF := ec
        refine ⟨xD x D, φc, wipeR ρ vs, hc, [u], rsc.step sty, rpy, ⟨v, [], rfl, dv, rfl⟩, ρ2, h2, e2, fun φ2 σ2 H2 st2 rs2 rp2 of2 => ?_⟩
        have hD2 : H2 D = some (.lst accV) := hDl rpy st2 (hDl rp sty hDc)
        refine ⟨by rw [wipe_off of2 his, wipe_wipe], xD x D, φ2, ρ2, h2, rs2, rp2, ?_⟩
        cases e3 : k ρ2 h2 with
        | bad => rw [e3] at ec; cases ec
        | ex z hz => rw [e3] at ec; cases ec
        | ok b h3 =>
          rw [e3] at ec
          replace ec : (if b = true then
            (it1 ρ2 h3).bind fun p h => (compL p.1 gs1 k1 f (wipeR ρ2 vs1) p.2 0 acc h).bind fun acc h => compO src gs k it1 gs1 k1 f (wipeR ρ vs) vs1 m (i + 1) acc h
            else compO src gs k it1 gs1 k1 f (wipeR ρ vs) vs1 m (i + 1) acc h3) = .ok usF hF := ec
          intro φ3 b' H3 st3 rp3 hb
          rw [show b' = b from hb]
          have hD3 : H3 D = some (.lst accV) := hDl rp2 st3 hD2
          have stA : Step φ1 H1 φ3 H3 := ((st.trans sty).trans st2).trans st3
          have dl3 : DenL g (ow φ3 (xD x D)) H3 acc accV := DenL.keep (((sty.trans st2).trans st3).keep _) _ _ dl
          cases b with
          | false =>
            rw [if_neg Bool.false_ne_true] at ec ⊢
            exact ⟨φ3, h3, acc, accV, stA, rp3, hD3, dl3, ec⟩
          | true =>
            rw [if_pos rfl] at ec ⊢
            refine ⟨xD x D, φ3, ρ2, h3, rs2.step st3, rp3, ?_⟩
            cases e4 : it1 ρ2 h3 with
            | bad => rw [e4] at ec; cases ec
            | ex z hz => rw [e4] at ec; cases ec
            | ok pr h4 =>
              obtain ⟨src1, n1⟩ := pr
              rw [e4] at ec
              replace ec : ((compL src1 gs1 k1 f (wipeR ρ2 vs1) n1 0 acc h4).bind fun acc h => compO src gs k it1 gs1 k1 f (wipeR ρ vs) vs1 m (i + 1) acc h) = .ok usF hF := ec
              intro φ4 J1 H4 st4 rp4 sj4
              have sj4 : SrcJ g (xD x D) φ4 H4 src1 J1 := sj4
              cases e5 : compL src1 gs1 k1 f (wipeR ρ2 vs1) n1 0 acc h4 with
              | bad => rw [e5] at ec; cases ec
              | ex z hz => rw [e5] at ec; cases ec
              | ok accI hI =>
                rw [e5] at ec
                replace ec : compO src gs k it1 gs1 k1 f (wipeR ρ vs) vs1 m (i + 1) accI hI = .ok usF hF := ec
                refine ⟨fun j n Hj => ∃ φc hc acc accV, Step φ1 H1 φc Hj ∧ RepH g (xD x D) φc hc Hj ∧ Hj D = some (.lst accV) ∧ DenL g (ow φc (xD x D)) Hj acc accV ∧ SrcJ g (xD x D) φc Hj src1 J1 ∧ RelS g (xD x D) φc Hj ρ2 σ2 ∧ compL src1 gs1 k1 f (wipeR ρ2 vs1) n j acc hc = .ok accI hI,
                  ⟨n1, φ4, h4, acc, accV, stA.trans st4, rp4, hDl rp3 st4 hD3, DenL.keep (st4.keep _) _ _ dl3, sj4, (rs2.step st3).step st4, e5⟩, ?_⟩
                rintro j n Hj ⟨φj, hj, accj, accVj, stj, rpj, hDj, dlj, sjj, rsj, ej⟩
                cases n with
                | zero =>
                  refine .inl ?_
                  rw [compL] at ej
                  split at ej
                  · rename_i he
                    cases ej
                    exact ⟨src_end rpj sjj he, φj, _, _, accVj, stj, rpj, hDj, dlj, ec⟩
                  · cases ej
                | succ n =>
                  refine .inr ?_
                  rw [compL] at ej
                  cases f1 : srcAt hj src1 j with
                  | none => rw [f1] at ej; cases ej
                  | some u1 =>
                    rw [f1] at ej
                    dsimp only at ej
                    obtain ⟨go1, yl1⟩ := src_at rpj sjj f1
                    refine ⟨go1, fun Hn => ∃ φc hc acc accV, Step φ1 H1 φc Hn ∧ RepH g (xD x D) φc hc Hn ∧ Hn D = some (.lst accV) ∧ DenL g (ow φc (xD x D)) Hn acc accV ∧ SrcJ g (xD x D) φc Hn src1 J1 ∧ RelS g (xD x D) φc Hn ρ2 σ2 ∧ compL src1 gs1 k1 f (wipeR ρ2 vs1) n (j + 1) acc hc = .ok accI hI, fun Hn q => ⟨n, Nat.lt_succ_self n, q⟩, fun v1 Hz hz => ?_⟩
                    obtain ⟨sm1, dv1⟩ := yl1 v1 Hz hz
                    have stz : Step φj Hj φj Hz := step_of sm1
                    have rpz := rpj.same sm1
                    cases f2 : gs1 [u1] (wipeR ρ2 vs1) hj with
                    | bad => rw [f2] at ej; cases ej
                    | ex z hz => rw [f2] at ej; cases ej
                    | ok ρ3 h5 =>
                      rw [f2] at ej
                      replace ej : ((k1 ρ3 h5).bind fun b h => if b = true then
                        (sE f ρ3 h).bind fun s h => match s.u with
                          | some u => if accj.length < lim then compL src1 gs1 k1 f (wipeR ρ2 vs1) n (j + 1) (accj ++ [u]) h else .bad
                          | none => .bad
                        else compL src1 gs1 k1 f (wipeR ρ2 vs1) n (j + 1) accj h) = .ok accI hI := ej
                      refine ⟨xD x D, φj, wipeR ρ2 vs1, hj, [u1], (rsj.step stz).wipe, rpz, ⟨v1, [], rfl, dv1, rfl⟩, ρ3, h5, f2, fun φ5 σ3 H5 st5 rs5 rp5 of5 => ?_⟩
                      have hD5 : H5 D = some (.lst accVj) := hDl rpz st5 (hDl rpj stz hDj)
                      refine ⟨by rw [wipe_off of5 his1, wipe_wipe], xD x D, φ5, ρ3, h5, rs5, rp5, ?_⟩
                      cases f3 : k1 ρ3 h5 with
                      | bad => rw [f3] at ej; cases ej
                      | ex z hz => rw [f3] at ej; cases ej
                      | ok b h6 =>
                        rw [f3] at ej
                        replace ej : (if b = true then
                          (sE f ρ3 h6).bind fun s h => match s.u with
                            | some u => if accj.length < lim then compL src1 gs1 k1 f (wipeR ρ2 vs1) n (j + 1) (accj ++ [u]) h else .bad
                            | none => .bad
                          else compL src1 gs1 k1 f (wipeR ρ2 vs1) n (j + 1) accj h6) = .ok accI hI := ej
                        intro φ6 b' H6 st6 rp6 hb
                        rw [show b' = b from hb]
                        have hD6 : H6 D = some (.lst accVj) := hDl rp5 st6 hD5
                        have stT : Step φj Hj φ6 H6 := (stz.trans st5).trans st6
                        have st6A : Step φ1 H1 φ6 H6 := stj.trans stT
                        have dl6 : DenL g (ow φ6 (xD x D)) H6 accj accVj := DenL.keep (stT.keep _) _ _ dlj
                        cases b with
                        | false =>
                          rw [if_neg Bool.false_ne_true] at ej ⊢
                          exact ⟨φ6, h6, accj, accVj, st6A, rp6, hD6, dl6, sjj.step stT, rsj.step stT, ej⟩
                        | true =>
                          rw [if_pos rfl] at ej ⊢
                          refine ⟨xD x D, φ6, ρ3, h6, rs5.step st6, rp6, ?_⟩
                          cases f4 : sE f ρ3 h6 with
                          | bad => rw [f4] at ej; cases ej
                          | ex z hz => rw [f4] at ej; cases ej
                          | ok s h7 =>
                            rw [f4] at ej
                            replace ej : (match s.u with
                              | some u => if accj.length < lim then compL src1 gs1 k1 f (wipeR ρ2 vs1) n (j + 1) (accj ++ [u]) h7 else .bad
                              | none => .bad) = .ok accI hI := ej
                            intro φ7 y H7 st7 rp7 ds
                            cases s with
                            | r n => cases ej
                            | v u' =>
                              replace ej : (if accj.length < lim then compL src1 gs1 k1 f (wipeR ρ2 vs1) n (j + 1) (accj ++ [u']) h7 else .bad) = .ok accI hI := ej
                              split at ej
                              · rename_i hl
                                have hD7 : H7 D = some (.lst accVj) := hDl rp6 st7 hD6
                                have dl7 : DenL g (ow φ7 (xD x D)) H7 accj accVj := DenL.keep (st7.keep _) _ _ dl6
                                obtain ⟨rp8, kp8⟩ := rp7.putD (v := .lst (accVj ++ [y])) (by rw [hD7]; simp)
                                have stB := st6A.trans st7
                                have stC := stT.trans st7
                                refine ⟨accVj, hD7, by rw [← dl7.len, sizeLine_eq]; exact hl, φ7, h7, accj ++ [u'], accVj ++ [y], ⟨fun a n q => ?_, fun a q => ?_, stB.owns, stB.len, stB.back, stB.fresh⟩, rp8, upd_same, DenL.keep kp8 _ _ (dl7.snoc (show Den g _ H7 u' y from ds)), SrcJ.lift kp8 (Nat.le_refl _) (fun _ _ _ q => q) (sjj.step stC), RelS.lift kp8 (Nat.le_refl _) (fun _ _ _ q => q) (rsj.step stC), ej⟩
                                · rw [upd_ne (fun e => q (by rw [e]; exact hD))]
                                  exact stB.same a n q
                                · by_cases e : a = D
                                  · rw [e, upd_same]; simp
                                  · rw [upd_ne e]
                                    exact stB.grow a q
                              · cases ej
theorem pe_lc22 (hc : X.calm = true) (hN : X.N.Nodup) {vs1 : List Nat} (hi : PI X tg iter (rdI g W it)) (ok : BlkOk X.N X.env.scope scope own) (his : ∀ i ∈ is, i ∈ own.map (·.2)) (his1 : ∀ i ∈ is1, i ∈ vs1) (hv : ∀ i ∈ vs1, i ∈ own.map (·.2))
    (hg : ∀ (s : Shared) (H : Hp) (C : Addr) (cl : List (Str × Addr)) (fp : List Addr), PG (X.blk s H scope (compEnvC scope cl C X.env) fp) tg (GD1 g is gs))
    (ht : ∀ (s : Shared) (H : Hp) (C : Addr) (cl : List (Str × Addr)) (fp : List Addr), PTs (X.blk s H scope (compEnvC scope cl C X.env) fp) ifs (rdB g W0 k))
    (hi1 : ∀ (s : Shared) (H : Hp) (C : Addr) (cl : List (Str × Addr)) (fp : List Addr), PI (X.blk s H scope (compEnvC scope cl C X.env) fp) tg1 iter1 (rdI g W0 it1))
    (hg1 : ∀ (s : Shared) (H : Hp) (C : Addr) (cl : List (Str × Addr)) (fp : List Addr), PG (X.blk s H scope (compEnvC scope cl C X.env) fp) tg1 (GD1 g is1 gs1))
    (ht1 : ∀ (s : Shared) (H : Hp) (C : Addr) (cl : List (Str × Addr)) (fp : List Addr), PTs (X.blk s H scope (compEnvC scope cl C X.env) fp) ifs1 (rdB g W0 k1))
    (he : ∀ (s : Shared) (H : Hp) (C : Addr) (cl : List (Str × Addr)) (fp : List Addr), PE (X.blk s H scope (compEnvC scope cl C X.env) fp) elt (rdE g W0 f)) (hs : ∀ v, foldedSetIterable iter X.env v = pure v) (hs1 : ∀ env v, foldedSetIterable iter1 env v = pure v) :
    PE X (.ListComp elt [⟨tg, iter, ifs, 0⟩, ⟨tg1, iter1, ifs1, 0⟩] scope pos) (rdE g W (vLc2 gs it k gs1 it1 k1 f (own.map (·.2)) vs1)) :=
  PE.imp (pe_lc2 hc hN hi ok hv hg ht hi1 hg1 ht1 (fun s H C cl fp => pe_s (he s H C cl fp)) hs hs1) fun σ H Q q => lc2_rd his his1 q
theorem ps_setLc22 (hc : X.calm = true) (hN : X.N.Nodup) {vs1 : List Nat} {i : Nat} {y : Str} {py spos : Pos} (hy : X.N[i]? = some y) (hyl : X.env.scope.names.lookup y = some .local)
    (hsw : swapsWith (.ListComp elt [⟨tg, iter, ifs, 0⟩, ⟨tg1, iter1, ifs1, 0⟩] scope pos) (some (.Name y py)) spos.line X.env = pure true)
    (hi : PI X tg iter (rdI g W it)) (ok : BlkOk X.N X.env.scope scope own) (his : ∀ i ∈ is, i ∈ own.map (·.2)) (his1 : ∀ i ∈ is1, i ∈ vs1) (hv : ∀ i ∈ vs1, i ∈ own.map (·.2))
    (hg : ∀ (s : Shared) (H : Hp) (C : Addr) (cl : List (Str × Addr)) (fp : List Addr), PG (X.blk s H scope (compEnvC scope cl C X.env) fp) tg (GD1 g is gs))
    (ht : ∀ (s : Shared) (H : Hp) (C : Addr) (cl : List (Str × Addr)) (fp : List Addr), PTs (X.blk s H scope (compEnvC scope cl C X.env) fp) ifs (rdB g W0 k))
    (hi1 : ∀ (s : Shared) (H : Hp) (C : Addr) (cl : List (Str × Addr)) (fp : List Addr), PI (X.blk s H scope (compEnvC scope cl C X.env) fp) tg1 iter1 (rdI g W0 it1))
    (hg1 : ∀ (s : Shared) (H : Hp) (C : Addr) (cl : List (Str × Addr)) (fp : List Addr), PG (X.blk s H scope (compEnvC scope cl C X.env) fp) tg1 (GD1 g is1 gs1))
    (ht1 : ∀ (s : Shared) (H : Hp) (C : Addr) (cl : List (Str × Addr)) (fp : List Addr), PTs (X.blk s H scope (compEnvC scope cl C X.env) fp) ifs1 (rdB g W0 k1))
    (he : ∀ (s : Shared) (H : Hp) (C : Addr) (cl : List (Str × Addr)) (fp : List Addr), PE (X.blk s H scope (compEnvC scope cl C X.env) fp) elt (rdE g W0 f)) (hs : ∀ v, foldedSetIterable iter X.env v = pure v) (hs1 : ∀ env v, foldedSetIterable iter1 env v = pure v)
    {f' : EvE} (hte : ∀ {σ H Q}, rdE g W f' σ H Q → rdE g W (vLc2 gs it k gs1 it1 k1 f (own.map (·.2)) vs1) σ H Q) :
    PS X (.Assign [.Name y py] (.ListComp elt [⟨tg, iter, ifs, 0⟩, ⟨tg1, iter1, ifs1, 0⟩] scope pos) spos) (RDS g W (sAsg f' (gNm i))) :=
  PS.imp (L2.ps_setLc2 hc hN hy hyl hsw hi ok hv hg ht hi1 hg1 ht1 (fun s H C cl fp => pe_s (he s H C cl fp)) hs hs1) fun D σ H q => set_rd (fun q => lc2_rd his his1 (hte q)) q
end
end VM

/-! sorted, of tuples of ints. -/
namespace VM
open PySem PySem.Spec PyProof.Rows L2 RZ
theorem codeM_eq : ∀ ns : List Int, codeM ns = TS.code 1000000 ns
  | [] => rfl
  | d :: r => by
    show d * 1000000 ^ r.length + codeM r = d * 1000000 ^ r.length + TS.code 1000000 r
    rw [codeM_eq r]
theorem code_inj {B : Int} : ∀ {r q : List Int}, r.length = q.length → TS.Bd B r → TS.Bd B q → TS.code B r = TS.code B q → r = q
  | [], [], _, _, _, _ => rfl
  | [], _ :: _, h, _, _, _ => by cases h
  | _ :: _, [], h, _, _, _ => by cases h
  | d :: r, e :: q, h, b1, b2, c => by
    have hl : r.length = q.length := by simpa using h
    have n1 : ¬ d < e := fun z => by have := TS.code_lt hl b1.tail b2.tail z; omega
    have n2 : ¬ e < d := fun z => by have := TS.code_lt hl.symm b2.tail b1.tail z; omega
    have he : d = e := by omega
    subst he
    have c : d * B ^ r.length + TS.code B r = d * B ^ q.length + TS.code B q := c
    rw [hl] at c
    rw [code_inj hl b1.tail b2.tail (by omega)]
theorem insT_perm (x : List Int) : ∀ ys : List (List Int), (insT x ys).Perm (x :: ys)
  | [] => .refl _
  | y :: ys => by
    unfold insT
    split
    · exact .refl _
    · exact ((insT_perm x ys).cons y).trans (.swap ..)
theorem sortT_perm : ∀ ys : List (List Int), (sortT ys).Perm ys
  | [] => .refl _
  | y :: ys => (insT_perm y _).trans ((sortT_perm ys).cons y)
theorem insT_sorted (x : List Int) : ∀ {ys : List (List Int)}, ys.Pairwise (fun a b => codeM a ≤ codeM b) → (insT x ys).Pairwise fun a b => codeM a ≤ codeM b
  | [], _ => by simp [insT]
  | y :: ys, h => by
    obtain ⟨h1, h2⟩ := List.pairwise_cons.mp h
    unfold insT
    split
    · rename_i hx
      refine List.pairwise_cons.mpr ⟨fun z hz => ?_, h⟩
      rcases List.mem_cons.mp hz with rfl | hz
      · exact hx
      · exact Int.le_trans hx (h1 z hz)
    · rename_i hx
      refine List.pairwise_cons.mpr ⟨fun z hz => ?_, insT_sorted x h2⟩
      rcases List.mem_cons.mp ((insT_perm x ys).mem_iff.mp hz) with rfl | hz
      · omega
      · exact h1 z hz
theorem sortT_sorted : ∀ ys : List (List Int), (sortT ys).Pairwise fun a b => codeM a ≤ codeM b
  | [] => .nil
  | y :: ys => insT_sorted y (sortT_sorted ys)
def tupU1 (is : List Int) : U := .tup (is.map .int)
theorem intsU_ok : ∀ {us : List U} {ks : List Int}, intsU us = some ks → us = ks.map .int
  | [], ks, e => by cases e; rfl
  | u :: us, ks, e => by
    cases u <;> first | (cases e; done) | skip
    rename_i i
    cases e2 : intsU us with
    | none => rw [show intsU (.int i :: us) = (intsU us).map (i :: ·) from rfl, e2] at e; cases e
    | some ks' =>
      rw [show intsU (.int i :: us) = (intsU us).map (i :: ·) from rfl, e2] at e
      cases e
      rw [intsU_ok e2]
      rfl
theorem tupI_ok {d : Nat} : ∀ {us : List U} {rs : List (List Int)}, tupI d us = some rs → us = rs.map tupU1 ∧ ∀ r ∈ rs, r.length = d ∧ TS.Bd 1000000 r
  | [], rs, e => by cases e; exact ⟨rfl, fun _ h => by cases h⟩
  | u :: us, rs, e => by
    cases u <;> first | (cases e; done) | skip
    rename_i vs
    unfold tupI at e
    cases e1 : intsU vs with
    | none => rw [e1] at e; cases e
    | some is =>
      cases e2 : tupI d us with
      | none => rw [e1, e2] at e; cases e
      | some rs' =>
        rw [e1, e2] at e
        simp only at e
        split at e
        · rename_i hq
          cases e
          obtain ⟨i1, i2⟩ := tupI_ok e2
          refine ⟨by rw [List.map_cons, ← i1, intsU_ok e1]; rfl, fun r hr => ?_⟩
          rcases List.mem_cons.mp hr with rfl | hr
          · refine ⟨hq.1, fun m hm => ?_⟩
            have := List.all_eq_true.mp hq.2 m hm
            exact of_decide_eq_true this
          · exact i2 r hr
        · cases e
section
variable {g : GS} {o : Addr → Prop} {H : Hp}
theorem den_tupI {is : List Int} {v : V} (h : Den g o H (tupU1 is) v) : TupI g.K H v is := by
  obtain ⟨a, vs, rfl, t, d⟩ := h
  have : ∀ {is : List Int} {vs : List V}, DenL g o H (is.map .int) vs → vs = is.map V.int := fun {is} => by
    induction is with
    | nil => exact fun h => h
    | cons i is ih =>
      rintro vs ⟨w, ws, rfl, d1, d2⟩
      rw [ih d2, show w = .int i from d1]
      rfl
  rw [this d] at t
  exact ⟨a, rfl, t.sq⟩
theorem den_perm {vs ys : List V} (p : ys.Perm vs) : ∀ {rs : List (List Int)}, DenL g o H (rs.map tupU1) vs → ∃ rs' : List (List Int), rs'.Perm rs ∧ DenL g o H (rs'.map tupU1) ys := by
  induction p with
  | nil => exact fun {rs} h => ⟨rs, .refl _, h⟩
  | cons x _ ih =>
    intro rs h
    cases rs with
    | nil => cases (show _ :: _ = [] from h)
    | cons r rs =>
      obtain ⟨w, ws, e, d1, d2⟩ := h
      cases e
      obtain ⟨rs', p', d'⟩ := ih d2
      exact ⟨r :: rs', p'.cons r, x, _, rfl, d1, d'⟩
  | swap x y l =>
    intro rs h
    cases rs with
    | nil => cases (show _ :: _ = [] from h)
    | cons r rs =>
      cases rs with
      | nil =>
        obtain ⟨w, ws, e, d1, d2⟩ := h
        cases e
        cases (show _ :: _ = [] from d2)
      | cons r2 rs =>
        obtain ⟨w, ws, e, d1, w2, ws2, e2, d2, d3⟩ := h
        cases e
        cases e2
        exact ⟨r2 :: r :: rs, .swap .., _, _, rfl, d2, _, _, rfl, d1, d3⟩
  | trans _ _ ih1 ih2 =>
    intro rs h
    obtain ⟨r2, p2, d2⟩ := ih2 h
    obtain ⟨r1, p1, d1⟩ := ih1 d2
    exact ⟨r1, p1.trans p2, d1⟩
theorem sorted_den {d : Nat} {rs : List (List Int)} {vs ys : List V} (hb : ∀ r ∈ rs, r.length = d ∧ TS.Bd 1000000 r) (dn : DenL g o H (rs.map tupU1) vs) (p : ys.Perm vs) (pw : ys.Pairwise fun x y => ∀ n m, TupI g.K H x n → TupI g.K H y m → TS.code 1000000 n ≤ TS.code 1000000 m) :
    DenL g o H ((sortT rs).map tupU1) ys := by
  obtain ⟨rs', p', d'⟩ := den_perm p dn
  have e : rs' = sortT rs := by
    refine List.Perm.eq_of_pairwise (le := fun a b => codeM a ≤ codeM b) (fun a b ha hb' h1 h2 => ?_) ?_ (sortT_sorted rs) (p'.trans (sortT_perm rs).symm)
    · obtain ⟨l1, b1⟩ := hb a (p'.mem_iff.mp ha)
      obtain ⟨l2, b2⟩ := hb b ((sortT_perm rs).mem_iff.mp hb')
      rw [codeM_eq, codeM_eq] at h1 h2
      exact code_inj (l1.trans l2.symm) b1 b2 (Int.le_antisymm h1 h2)
    · rw [List.pairwise_iff_getElem] at pw ⊢
      intro i j hi hj hij
      have g1 : (rs'.map tupU1)[i]? = some (tupU1 rs'[i]) := by rw [List.getElem?_map, List.getElem?_eq_getElem hi]; rfl
      have g2 : (rs'.map tupU1)[j]? = some (tupU1 rs'[j]) := by rw [List.getElem?_map, List.getElem?_eq_getElem hj]; rfl
      obtain ⟨v1, e1, q1⟩ := d'.get g1
      obtain ⟨v2, e2, q2⟩ := d'.get g2
      obtain ⟨h1, e1⟩ := List.getElem?_eq_some_iff.mp e1
      obtain ⟨h2, e2⟩ := List.getElem?_eq_some_iff.mp e2
      have := pw i j h1 h2 hij rs'[i] rs'[j] (by rw [e1]; exact den_tupI q1) (by rw [e2]; exact den_tupI q2)
      rw [codeM_eq, codeM_eq]
      exact this
  rw [e] at d'
  exact d'
end
section
variable {X : Cx} {g : GS} {W : WX} {e : Expr} {f : EvE} {pos p : Pos}
theorem boot_sorted : bootBuiltins ("sorted" : Str) = some (.builtin "sorted") := by decide +kernel
theorem pe_srt2 (hK : X.K = g.K) {d : Nat} (hd : 1 ≤ d) (hg : Gl X "sorted") (hm : X.mg "sorted" = none) (hn : notStar e = true) (ha : PE X e (rdE g W f)) : PE X (.Call (.Name "sorted" p) [e] [] pos) (rdE g W (vSrt d f)) :=
  PE.imp (pe_callB (cr_sortT (d := d) (B := 1000000) hd) hg hm boot_sorted (pa_cons (pe_s ha) pa_nil (star_cons hn)) (by decide) (by decide) (star_cons hn) (back_pl (star_pl rfl))) fun σ H Q ⟨x, φ, ρ, h, rs, rep, c⟩ => by
    refine RD.bind (k := fun ρ s h => ofO h (srtS d h s)) KV.mono rs rep c fun b1 H1 φ1 h1 s1 st1 rs1 rep1 p1 c1 => ?_
    obtain ⟨r, e1, q⟩ := Cond.ofO c1
    unfold srtS at e1
    cases e2 : seqS h1 s1 with
    | none => rw [e2] at e1; cases e1
    | some pr =>
      obtain ⟨b, us⟩ := pr
      rw [e2] at e1
      cases b with
      | false => cases e1
      | true =>
        simp only at e1
        cases e3 : tupI d us with
        | none => rw [e3] at e1; cases e1
        | some rs0 =>
          rw [e3] at e1
          simp only at e1
          split at e1
          · rename_i hl
            cases e1
            obtain ⟨i1, i2⟩ := tupI_ok e3
            obtain ⟨a, vs, rfl, dn, sq⟩ := seqL_ok rep1 p1 e2
            rw [i1] at dn
            have lv : vs.length = rs0.length := by rw [← dn.len, List.length_map]
            refine ⟨a, vs, rfl, .inl (.inl sq), by omega, fun v hv => ?_, fun ys p hp hw hf => ?_⟩
            · obtain ⟨i, hi⟩ := List.getElem?_of_mem hv
              have hlt : i < rs0.length := by rw [← lv]; exact (List.getElem?_eq_some_iff.mp hi).1
              obtain ⟨w, e4, q4⟩ := dn.get (i := i) (u := tupU1 rs0[i]) (by rw [List.getElem?_map, List.getElem?_eq_getElem hlt]; rfl)
              rw [hi] at e4
              cases e4
              obtain ⟨b1, b2⟩ := i2 rs0[i] (List.getElem_mem hlt)
              exact ⟨rs0[i], by rw [hK]; exact den_tupI q4, b1, b2⟩
            · have dy := sorted_den i2 dn hp (by rw [← hK]; exact hw)
              obtain ⟨s2, r2, d2⟩ := new_lst rep1 hf dy
              exact q φ1 _ _ s2 r2 d2
          · cases e1
end
end VM

/-! Tests of comparisons; the checker's tables; small facts. -/
namespace VM
open PySem PySem.Spec PyProof.Rows L2 RZ
section
variable {X : Cx} {g : GS} {W : WX} {e ea eb ec : Expr} {f k l : EvE} {pos : Pos}
theorem test_rd (hb : ∀ ρ h r h', f ρ h = .ok r h' → ∃ b, r = .v (.bl b)) {σ : L2.St} {H : Hp} {Q : Bool → Hp → Prop} (hh : rdB g W (tE f) σ H Q) : rdE g W f σ H fun x H' => ∃ k, x = .bl k ∧ Q k H' := by
  obtain ⟨x, φ, ρ, h, rs, rep, c⟩ := hh
  refine ⟨x, φ, ρ, h, rs, rep, ?_⟩
  unfold tE sE at c
  cases e1 : f ρ h with
  | bad => rw [e1] at c; exact c
  | ex z h1 => rw [e1] at c; exact c
  | ok r h1 =>
    obtain ⟨b, rfl⟩ := hb _ _ _ _ e1
    rw [e1] at c
    have c : Cond g x W KB σ Q φ H (.ok b h1) := c
    intro φ' v H' st rep' p
    exact ⟨b, p, c φ' b H' st rep' rfl⟩
theorem vCmp_bl {o : CO} {ρ : Rho} {h h' : Hs} {r : RV} (e : vCmp o f k ρ h = .ok r h') : ∃ b, r = .v (.bl b) := by
  unfold vCmp at e
  cases e1 : sE f ρ h with
  | bad => rw [e1] at e; cases e
  | ex z h1 => rw [e1] at e; cases e
  | ok x h1 =>
    rw [e1] at e
    replace e : (sE k ρ h1).bind (fun y h => ofO h ((cmpS o h x y).map fun b => .v (.bl b))) = .ok r h' := e
    cases e2 : sE k ρ h1 with
    | bad => rw [e2] at e; cases e
    | ex z h2 => rw [e2] at e; cases e
    | ok y h2 =>
      rw [e2] at e
      replace e : ofO h2 ((cmpS o h2 x y).map fun b => RV.v (.bl b)) = .ok r h' := e
      cases e3 : cmpS o h2 x y with
      | none => rw [e3] at e; cases e
      | some b => rw [e3] at e; cases e; exact ⟨b, rfl⟩
theorem vCh_bl {o o' : CO} {ρ : Rho} {h h' : Hs} {r : RV} (e : vCh o o' f k l ρ h = .ok r h') : ∃ b, r = .v (.bl b) := by
  unfold vCh at e
  cases e1 : sE f ρ h with
  | bad => rw [e1] at e; cases e
  | ex z h1 => rw [e1] at e; cases e
  | ok x h1 =>
    rw [e1] at e
    replace e : (sE k ρ h1).bind (fun y h => match cmpS o h x y with
      | some true => (sE l ρ h).bind fun z h => ofO h ((cmpS o' h y z).map fun b => RV.v (.bl b))
      | some false => .ok (RV.v (.bl false)) h
      | none => .bad) = .ok r h' := e
    cases e2 : sE k ρ h1 with
    | bad => rw [e2] at e; cases e
    | ex z h2 => rw [e2] at e; cases e
    | ok y h2 =>
      rw [e2] at e
      replace e : (match cmpS o h2 x y with
        | some true => (sE l ρ h2).bind fun z h => ofO h ((cmpS o' h y z).map fun b => RV.v (.bl b))
        | some false => .ok (RV.v (.bl false)) h2
        | none => .bad) = .ok r h' := e
      cases e3 : cmpS o h2 x y with
      | none => rw [e3] at e; cases e
      | some b =>
        rw [e3] at e
        cases b with
        | false => cases e; exact ⟨false, rfl⟩
        | true =>
          replace e : (sE l ρ h2).bind (fun z h => ofO h ((cmpS o' h y z).map fun b => RV.v (.bl b))) = .ok r h' := e
          cases e4 : sE l ρ h2 with
          | bad => rw [e4] at e; cases e
          | ex z h2 => rw [e4] at e; cases e
          | ok z h3 =>
            rw [e4] at e
            replace e : ofO h3 ((cmpS o' h3 y z).map fun b => RV.v (.bl b)) = .ok r h' := e
            cases e5 : cmpS o' h3 y z with
            | none => rw [e5] at e; cases e
            | some b => rw [e5] at e; cases e; exact ⟨b, rfl⟩
theorem pt_cmp2 (hK : X.K = g.K) (hu : X.A.units + 65 < cLine) (o : CO) (ha : PE X ea (rdE g W f)) (hb : PE X eb (rdE g W k)) (hm : behindInMarks (cop o) eb = false) : PT X (.Compare ea [cop o] [eb] pos) (rdB g W (tE (vCmp o f k))) :=
  PT.imp (pt_cmpR (cmp_ok hK hu o) (pe_s ha) (pe_s hb) hm) fun _ _ _ q => two_rd (r := cmpR o) (test_rd (fun _ _ _ _ e => vCmp_bl e) q)
theorem ch_rd {o o' : CO} {σ : L2.St} {H : Hp} {Q : VK} (hh : rdE g W (vCh o o' f k l) σ H Q) : tChain (r2 g (cmpR o)) (r2 g (cmpR o')) (rdS g W (sE f)) (rdS g W (sE k)) (rdS g W (sE l)) σ H Q := by
  obtain ⟨x, φ, ρ, h, rs, rep, c⟩ := hh
  refine RD.bind (k := fun ρ a h => (sE k ρ h).bind fun y h => match cmpS o h a y with
    | some true => (sE l ρ h).bind fun z h => ofO h ((cmpS o' h y z).map fun b => .v (.bl b))
    | some false => .ok (.v (.bl false)) h
    | none => .bad) KV.mono rs rep c fun b1 H1 φ1 h1 s1 st1 rs1 rep1 p1 c1 => ?_
  refine RD.bind (k := fun ρ y h => match cmpS o h s1 y with
    | some true => (sE l ρ h).bind fun z h => ofO h ((cmpS o' h y z).map fun b => .v (.bl b))
    | some false => .ok (.v (.bl false)) h
    | none => .bad) KV.mono rs1 rep1 c1 fun b2 H2 φ2 h2 s2 st2 rs2 rep2 p2 c2 => ?_
  cases e1 : cmpS o h2 s1 s2 with
  | none =>
    simp only [e1] at c2
    exact c2.elim
  | some b =>
    simp only [e1] at c2
    refine ⟨x, φ2, h2, s1, s2, rep2, DenS.step st2 p1, p2, .v (.bl b), by show (cmpS o h2 s1 s2).map _ = _; rw [e1]; rfl, fun φ3 v H3 st3 rep3 p3 => ?_⟩
    rw [show v = .bl b from p3]
    cases b with
    | false => exact ⟨false, rfl, by rw [if_neg Bool.false_ne_true]; exact c2 φ3 _ H3 st3 rep3 rfl⟩
    | true =>
      refine ⟨true, rfl, ?_⟩
      rw [if_pos rfl]
      refine RD.bind (k := fun ρ z h => ofO h ((cmpS o' h s2 z).map fun b => .v (.bl b))) KV.mono (rs2.step st3) rep3 (Cond.later KV.mono st3 c2) fun b4 H4 φ4 h4 s4 st4 rs4 rep4 p4 c4 => ?_
      obtain ⟨r, e4, q⟩ := Cond.ofO c4
      exact ⟨x, φ4, h4, s2, s4, rep4, DenS.step st4 (DenS.step st3 p2), p4, r, e4, q⟩
theorem pt_ch2 (hK : X.K = g.K) (hu : X.A.units + 65 < cLine) (o o' : CO) (ha : PE X ea (rdE g W f)) (hb : PE X eb (rdE g W k)) (hc : PE X ec (rdE g W l)) (hm : lastMarks [cop o, cop o'] [eb, ec] = false) : PT X (.Compare ea [cop o, cop o'] [eb, ec] pos) (rdB g W (tE (vCh o o' f k l))) :=
  PT.imp (pt_chain (cmp_ok hK hu o) (cmp_ok hK hu o') (pe_s ha) (pe_s hb) (pe_s hc) hm) fun _ _ _ q => ch_rd (test_rd (fun _ _ _ _ e => vCh_bl e) q)
end
/-! ### tables -/
/-- where the checker stands: the slots, the scope, (in a comprehension) its own scope as written -/
structure Ct where
  N : List Str
  sc : Scope
  fs : Option Scope
def Ct.fnb (C : Ct) (x : Str) : Bool := match C.fs with
  | none => true
  | some s => s.names.lookup x == some .cell
/-- a way to call: who, how many values, which names -/
abbrev Pat := Nat × Nat × List (Str × Nat)
structure Tab where
  fns : List (Str × Nat)
  nums : List (Str × Int)
  txts : List (Str × Str)
  frees : List Str
  pats : List Pat
  dig : Bool
  mths : List (Nat × Str × Nat) := []
  flds : List (Nat × Str) := []
  mks : List (Str × Nat × Nat) := []
  xcs : List (Str × Nat) := []
def Ct.vis (C : Ct) (x : Str) : Bool := match C.sc.names.lookup x with
  | some .local => true
  | some .cell => true
  | some .free => true
  | _ => false
def Ct.glo (C : Ct) (x : Str) : Bool := match C.sc.names.lookup x with
  | some .globalImplicit => true
  | _ => false
def Ct.sto (C : Ct) (i : Nat) (x : Str) : Bool := decide (C.N[i]? = some x) && match C.sc.names.lookup x with
  | some .local => true
  | some .cell => C.fnb x
  | _ => false
def plainName (x : Str) : Bool := !(x == ("__debug__" : Str)) && !(x == ("__classdict__" : Str))
structure Good (T : Tab) (g : GS) (c : CC) (lv : Nat) (C : Ct) (W : WX) (X : Cx) : Prop where
  hK : X.K = g.K
  hN : X.N = C.N
  nd : X.N.Nodup
  sc : X.env.scope = C.sc
  fn : ∀ x, X.fn x = C.fnb x
  calm : X.calm = true
  tk : Takes X W
  room : Room lv X.A
  fns : ∀ x f, (x, f) ∈ T.fns → X.mg x = some (.ref (g.fa f))
  nums : ∀ x i, (x, i) ∈ T.nums → ∃ u, X.mg x = some u ∧ L2.RelV (.int i) u
  txts : ∀ x z, (x, z) ∈ T.txts → ∃ u, X.mg x = some u ∧ L2.RelV (.str z) u
  frees : ∀ x, x ∈ T.frees → X.mg x = none
  pats : ∀ f n ks, (f, n, ks) ∈ T.pats → Fnx X g c lv f n (ks.map (·.1)) (ks.map (·.2))
  any : ∀ f, c.np f ≠ 0 → FnA X g c lv f
  dig : T.dig = true → PySem.W.nsIn X.K cStatics "sys.int_max_str_digits" = some none
  lvc : c.lv = lv
  mths : ∀ cl m f, (cl, m, f) ∈ T.mths → Cls X.K (g.ca cl) ∧ Meth X.K (g.ca cl) m (g.fa f)
  flds : ∀ cl y, (cl, y) ∈ T.flds → Cls X.K (g.ca cl) ∧ NoAttr X.K (g.ca cl) y
  mks : ∀ x cl f, (x, cl, f) ∈ T.mks → MkOk X g cl f x
  xcs : ∀ x i, (x, i) ∈ T.xcs → X.mg x = some (.ref (g.ca i)) ∧ ExcOk X.K (g.ca i) ∧ ExI X.K (g.ca i)
  xms : ∀ x i y j, (x, i) ∈ T.xcs → (y, j) ∈ T.xcs → PySem.W.exmOne X.K (.ref (g.ca i)) (.ref (g.ca j)) = some (decide (i = j))
section
variable {T : Tab} {g : GS} {c : CC} {lv : Nat} {C : Ct} {W : WX} {X : Cx}
theorem Good.u (G : Good T g c lv C W X) : X.A.units + 65 < cLine := by have := G.room.un; omega
theorem Good.vs (G : Good T g c lv C W X) {x : Str} (h : C.vis x = true) : Vis X.env.scope x := by
  rw [G.sc]
  unfold Ct.vis at h
  unfold Vis
  split at h
  · rename_i e; exact .inl e
  · rename_i e; exact .inr (.inl e)
  · rename_i e; exact .inr (.inr e)
  · cases h
theorem Good.gl (G : Good T g c lv C W X) {x : Str} (h : C.glo x = true) : Gl X x := by
  unfold Gl Env.kindOf
  rw [G.sc]
  unfold Ct.glo at h
  split at h
  · rename_i e; exact e
  · cases h
theorem Good.st (G : Good T g c lv C W X) {i : Nat} {x : Str} (h : C.sto i x = true) : Sto X i x := by
  obtain ⟨h1, h2⟩ := Bool.and_eq_true_iff.mp (show (decide (C.N[i]? = some x) && _) = true from h)
  refine ⟨by rw [G.hN]; exact of_decide_eq_true h1, ?_, ?_⟩
  · rw [G.sc]
    split at h2
    · rename_i e; exact .inl e
    · rename_i e; exact .inr e
    · cases h2
  · rw [G.sc, G.fn]
    split at h2
    · rename_i e; exact .inr e
    · exact .inl h2
    · cases h2
/-- the block of a comprehension -/
def Ct.blk (C : Ct) (s : Scope) : Ct := ⟨C.N, relS s C.sc, some s⟩
theorem takesW0 {X : Cx} : Takes X W0 := fun _ _ ⟨_, _, _, _, _, _, _, _, _, _, _, _, _, _, _, _, w⟩ => w.elim
theorem Fnx.blk {f n : Nat} {ks : List Str} {ki : List Nat} (F : Fnx X g c lv f n ks ki) (s : Shared) (H : Hp) (sc : Scope) (ce : Env) (fp : List Addr) : Fnx (X.blk s H sc ce fp) g c lv f n ks ki := ⟨F.ex⟩
theorem Good.blk (G : Good T g c lv C W X) (s : Shared) (H : Hp) (scope : Scope) (a : Addr) (cl : List (Str × Addr)) (fp : List Addr) : Good T g c lv (C.blk scope) W0 (X.blk s H scope (compEnvC scope cl a X.env) fp) where
  hK := G.hK
  hN := G.hN
  nd := G.nd
  sc := by
    show relabel scope X.env = relS scope C.sc
    rw [← G.sc]
    rfl
  fn := fun x => rfl
  calm := G.calm
  tk := takesW0
  room := G.room
  fns := G.fns
  nums := G.nums
  txts := G.txts
  frees := G.frees
  pats := fun f n ks h => (G.pats f n ks h).blk s H scope _ fp
  any := G.any
  dig := G.dig
  lvc := G.lvc
  mths := G.mths
  flds := G.flds
  mks := fun x cl f h => ⟨(G.mks x cl f h).at_, (G.mks x cl f h).mkc, (G.mks x cl f h).fn⟩
  xcs := G.xcs
  xms := G.xms
/-- within a try's body -/
theorem Good.tr (G : Good T g c lv C W X) {W' : WX} {pn : List (Addr × Obj)} {xe : Value → Shared → Prop} (tk : Takes (X.tr pn xe) W') : Good T g c lv C W' (X.tr pn xe) where
  hK := G.hK
  hN := G.hN
  nd := G.nd
  sc := G.sc
  fn := G.fn
  calm := G.calm
  tk := tk
  room := G.room
  fns := G.fns
  nums := G.nums
  txts := G.txts
  frees := G.frees
  pats := fun f n ks h => ⟨(G.pats f n ks h).ex⟩
  any := G.any
  dig := G.dig
  lvc := G.lvc
  mths := G.mths
  flds := G.flds
  mks := fun x cl f h => ⟨(G.mks x cl f h).at_, (G.mks x cl f h).mkc, (G.mks x cl f h).fn⟩
  xcs := G.xcs
  xms := G.xms
end
theorem noSl_ok {e : Expr} (h : (match e with
  | .Slice _ _ _ _ => false
  | _ => true) = true) : NoSl e := by
  cases e <;> first | (cases h; done) | exact fun _ _ => rfl
theorem vKin_bl {n : Bool} {c : Nat} {y : Str} {fk fo : EvE} {ρ : Rho} {h h' : Hs} {r : RV} (e : vKin c n y fk fo ρ h = .ok r h') : ∃ b, r = .v (.bl b) := by
  unfold vKin at e
  cases e1 : sE fk ρ h with
  | bad => rw [e1] at e; cases e
  | ex z h1 => rw [e1] at e; cases e
  | ok x h1 =>
    rw [e1] at e
    replace e : (sE fo ρ h1).bind (fun s h => match kdS c h s y, keyU h x with
      | some kvs, some ks => .ok (.v (.bl (if n then !(dGt ks kvs).isSome else (dGt ks kvs).isSome))) h
      | _, _ => .bad) = .ok r h' := e
    cases e2 : sE fo ρ h1 with
    | bad => rw [e2] at e; cases e
    | ex z h1 => rw [e2] at e; cases e
    | ok s h2 =>
      rw [e2] at e
      replace e : (match kdS c h2 s y, keyU h2 x with
        | some kvs, some ks => Rs.ok (RV.v (.bl (if n then !(dGt ks kvs).isSome else (dGt ks kvs).isSome))) h2
        | _, _ => .bad) = .ok r h' := e
      split at e
      · cases e; exact ⟨_, rfl⟩
      · cases e
/-! ### what the checker looks at -/
def okB (T : Tab) : BI → Bool
  | .intL => T.dig
  | _ => true
theorem okB_ok {T : Tab} {b : BI} (h : okB T b = true) : b = .intL → T.dig = true := fun e => by rw [e] at h; exact h
def okC : U → Const → Bool
  | .non, .none => true
  | .bl b, .bool b' => b == b'
  | .int i, .int j => decide (i = j)
  | .str x, .str y => decide (x = y)
  | _, _ => false
def plainIx : Expr → Bool
  | .Slice _ _ _ _ => false
  | _ => true
theorem plainIx_ok {e : Expr} (h : plainIx e = true) : PlainIx e := by
  cases e <;> first | (cases h; done) | exact fun _ _ => rfl
theorem sub_assign {ea eb : Expr} {pos : Pos} {env : Env} (h : plainIx eb = true) : ∀ v, assign (.Subscript ea eb pos) env v = (do
      let ov ← holding [v] (eval ea env)
      let iv ← holding [v, ov] (eval eb env)
      standAt pos
      holding [v, ov, iv] (setItem ov iv v)
      release [v, ov, iv] []) := fun v => by
  cases eb <;> first | (cases h; done) | rfl
def notSet : Expr → Bool
  | .Set _ _ _ => false
  | _ => true
def tailE (op : BoolOp) (p : Pos) : List Expr → Expr
  | [y] => y
  | r => .BoolOp op r p
def okTy (C : Ct) (T : Tab) : Ty → Expr → Bool
  | t, .Name n _ => n == tyNm t && C.glo n && T.frees.contains n && (tyC t).isSome
  | _, _ => false
def okTys (C : Ct) (T : Tab) : List Ty → List Expr → Bool
  | [], [] => true
  | t :: ts, e :: es => okTy C T t e && okTys C T ts es
  | _, _ => false
/-- plain: no form that isTrue looks into -/
def plainT : Expr → Bool
  | .UnaryOp .Not _ _ => false
  | .BoolOp _ _ _ => false
  | .IfExp _ _ _ _ => false
  | .Compare _ _ _ _ => false
  | _ => true
theorem plainT_ok {e : Expr} (h : plainT e = true) (env : Env) : ∀ whole, isTrue e env whole = (do let v ← whole; standAt e.pos; holding [v] (truthy v)) := fun w => by
  cases e with
  | UnaryOp op a p => cases op <;> first | (cases h; done) | rfl
  | BoolOp _ _ _ => cases h
  | IfExp _ _ _ _ => cases h
  | Compare _ _ _ _ => cases h
  | _ => rfl
end VM

/-! The checker of expressions, its soundness. -/
namespace VM
open PySem PySem.Spec PyProof.Rows L2 RZ
def loopT : Tg → Bool
  | .sub _ _ => false
  | _ => true
mutual
def okX (T : Tab) : IE → Ct → Bool → Expr → Bool
  | .xx, _, _, _ => true
  | .var i, C, _, x => (match x with
    | .Name n _ => decide (C.N[i]? = some n) && C.vis n && plainName n
    | _ => false)
  | .c u, _, _, x => (match x with
    | .Constant k _ _ => okC u k
    | _ => false)
  | .gl y u, C, _, x => (match x with
    | .Name n _ => decide (n = y) && C.glo n && plainName n && (match u with
      | .int i => T.nums.contains (n, i)
      | .str z => T.txts.contains (n, z)
      | _ => false)
    | _ => false)
  | .fn y f, C, _, x => (match x with
    | .Name n _ => decide (n = y) && C.glo n && plainName n && T.fns.contains (n, f)
    | _ => false)
  | .bin o a b, C, _, x => (match x with
    | .BinOp l p r _ => decide (p = opOf o) && okX T a C false l && okX T b C false r
    | _ => false)
  | .neg a, C, _, x => (match x with
    | .UnaryOp .USub y _ => okX T a C false y
    | _ => false)
  | .nt a, C, t, x => (match x with
    | .UnaryOp .Not y _ => okX T a C t y
    | _ => false)
  | .cmp o a b, C, _, x => (match x with
    | .Compare l [p] [r] _ => decide (p = cop o) && !behindInMarks p r && okX T a C false l && okX T b C false r
    | _ => false)
  | .ch o o' a b d, C, _, x => (match x with
    | .Compare l [p, p'] [r, s] _ => decide (p = cop o) && decide (p' = cop o') && !lastMarks [p, p'] [r, s] && okX T a C false l && okX T b C false r && okX T d C false s
    | _ => false)
  | .and a b, C, t, x => (match x with
    | .BoolOp .And (l :: r :: rs) p => okX T a C t l && okX T b C t (tailE .And p (r :: rs))
    | _ => false)
  | .or a b, C, t, x => (match x with
    | .BoolOp .Or (l :: r :: rs) p => okX T a C t l && okX T b C t (tailE .Or p (r :: rs))
    | _ => false)
  | .ife q a b, C, t, x => (match x with
    | .IfExp s l r _ => okX T q C true s && okX T a C t l && okX T b C t r
    | _ => false)
  | .tup es, C, _, x => (match x with
    | .Tuple xs _ _ => okL T es C xs
    | _ => false)
  | .lst es, C, _, x => (match x with
    | .List xs _ => okL T es C xs
    | _ => false)
  | .idx a b, C, _, x => (match x with
    | .Subscript l r _ => plainIx r && okX T a C false l && okX T b C false r
    | _ => false)
  | .slc a lo hi, C, _, x => (match x with
    | .Subscript l (.Slice p q none _) _ => okX T a C false l && okO T lo C p && okO T hi C q
    | _ => false)
  | .rev a, C, _, x => (match x with
    | .Subscript l (.Slice none none (some (.UnaryOp .USub (.Constant (.int 1) _ _) _)) _) _ => okX T a C false l
    | _ => false)
  | .nr a, C, t, x => !t && okX T a C false x
  | .call f es ks kes, C, _, x => (match x with
    | .Call (.Name n _) xs kws _ => C.glo n && plainName n && T.fns.contains (n, f) && okL T es C xs && decide (kws.map (·.arg) = (ks.map (·.1)).map some) && okW T kes C kws && T.pats.contains (f, xs.length, ks)
    | _ => false)
  | .cv i es, C, _, x => (match x with
    | .Call (.Name n _) (y :: ys) [] _ => decide (C.N[i]? = some n) && C.vis n && plainName n && okL T es C (y :: ys)
    | _ => false)
  | .bi b es, C, _, x => (match x with
    | .Call (.Name n _) (y :: ys) [] _ => decide (n = bnm b) && C.glo n && T.frees.contains n && okL T es C (y :: ys) && okB T b
    | _ => false)
  | .isi a ts, C, _, x => (match x with
    | .Call (.Name n _) [y, z] [] _ => decide (n = ("isinstance" : Str)) && C.glo n && T.frees.contains n && notStar y && okX T a C false y && (match z with
      | .Tuple zs _ _ => okTys C T ts zs && Nat.ble ts.length 30
      | z => (match ts with
        | [t] => okTy C T t z
        | _ => false))
    | _ => false)
  | .met m o es, C, _, x => (match x with
    | .Call (.Attribute y n ap) xs [] cp => decide (n = mnm m) && noC0 y && (ap.endLine == cp.line) && okX T o C false y && okL T es C xs && Nat.blt xs.length 30
    | _ => false)
  | .lc t it k e own, C, _, x => (match x with
    | .ListComp elt [⟨tg, iter, ifs, a⟩] scope _ => decide (a = 0) && blkC C.N C.sc scope own && loopT t && ((tgN t).all fun i => (own.map (·.2)).contains i) && notSet iter && okI T it C tg iter && okG T t (C.blk scope) tg && okK T k (C.blk scope) ifs && okX T e (C.blk scope) false elt
    | _ => false)
  | .lc2 t it k t1 it1 k1 e own, C, _, x => (match x with
    | .ListComp elt [⟨tg, iter, ifs, a⟩, ⟨tg1, iter1, ifs1, a1⟩] scope _ => decide (a = 0) && decide (a1 = 0) && blkC C.N C.sc scope own && loopT t && loopT t1 && ((tgN t).all fun i => (own.map (·.2)).contains i) && ((tgN t1).all fun i => (own.map (·.2)).contains i) && notSet iter && notSet iter1 && okI T it C tg iter && okG T t (C.blk scope) tg && okK T k (C.blk scope) ifs && okI T it1 (C.blk scope) tg1 iter1 && okG T t1 (C.blk scope) tg1 && okK T k1 (C.blk scope) ifs1 && okX T e (C.blk scope) false elt
    | _ => false)
  | .srt d e, C, _, x => (match x with
    | .Call (.Name n _) [y] [] _ => decide (n = ("sorted" : Str)) && C.glo n && T.frees.contains n && Nat.ble 1 d && notStar y && okX T e C false y
    | _ => false)
  | .fld cl o y, C, _, x => (match x with
    | .Attribute e n _ => decide (n = y) && noC0 e && T.flds.contains (cl, y) && okX T o C false e
    | _ => false)
  | .kin cl b k o y, C, _, x => (match x with
    | .Compare l [p] [.Attribute e n ap] _ => decide (p = if b then .NotIn else .In) && decide (n = y) && noC0 e && !behindInMarks p (.Attribute e n ap) && T.flds.contains (cl, y) && okX T k C false l && okX T o C false e
    | _ => false)
  | .kget cl o y k, C, _, x => (match x with
    | .Subscript (.Attribute e n _) i _ => plainIx i && decide (n = y) && noC0 e && T.flds.contains (cl, y) && okX T o C false e && okX T k C false i
    | _ => false)
  | .mth cl m f o es, C, _, x => (match x with
    | .Call (.Attribute e n ap) xs [] cp => decide (n = m) && T.mths.contains (cl, m, f) && T.pats.contains (f, xs.length + 1, []) && okX T o C false e && okL T es C xs && noC0 e && (ap.endLine == cp.line) && Nat.blt xs.length 29
    | _ => false)
  | .mk y cl f e, C, _, x => (match x with
    | .Call (.Name n _) [a] [] _ => decide (n = y) && C.glo n && plainName n && T.mks.contains (y, cl, f) && notStar a && okX T e C false a
    | _ => false)
  | .ktup es, C, _, x => (match x with
    | .Tuple xs _ _ => okL T es C xs
    | _ => false)
def okL (T : Tab) : IEs → Ct → List Expr → Bool
  | .nil, _, xs => xs.isEmpty
  | .cons e es, C, xs => (match xs with
    | y :: ys => notStar y && okX T e C false y && okL T es C ys
    | [] => false)
def okW (T : Tab) : IEs → Ct → List Keyword → Bool
  | .nil, _, xs => xs.isEmpty
  | .cons e es, C, xs => (match xs with
    | y :: ys => okX T e C false y.value && okW T es C ys
    | [] => false)
def okO (T : Tab) : IO → Ct → Option Expr → Bool
  | .none, _, x => x.isNone
  | .some e, C, x => (match x with
    | some y => okX T e C false y
    | none => false)
def okK (T : Tab) : IO → Ct → List Expr → Bool
  | .none, _, x => x.isEmpty
  | .some e, C, x => (match x with
    | [y] => okX T e C true y
    | _ => false)
def okI (T : Tab) : II → Ct → Expr → Expr → Bool
  | .val e, C, _, x => okX T e C false x
  | .rng es, C, _, x => (match x with
    | .Call (.Name n _) (y :: ys) [] _ => decide (n = ("range" : Str)) && C.glo n && T.frees.contains n && Nat.ble (y :: ys).length 3 && okL T es C (y :: ys)
    | _ => false)
  | .enm e, C, tg, x => (match tg with
    | .Tuple _ _ _ => (match x with
      | .Call (.Name n _) [y] [] _ => decide (n = ("enumerate" : Str)) && C.glo n && T.frees.contains n && notStar y && okX T e C false y
      | _ => false)
    | _ => false)
  | .zip a b, C, tg, x => (match tg with
    | .Tuple _ _ _ => (match x with
      | .Call (.Name n _) [y, z] [] _ => decide (n = ("zip" : Str)) && C.glo n && T.frees.contains n && notStar y && notStar z && okX T a C false y && okX T b C false z
      | _ => false)
    | _ => false)
def okG (T : Tab) : Tg → Ct → Expr → Bool
  | .nm i, C, x => (match x with
    | .Name n _ => C.sto i n
    | _ => false)
  | .tp ts, C, x => (match x with
    | .Tuple xs _ _ => okGs T ts C xs
    | _ => false)
  | .sub o i, C, x => (match x with
    | .Subscript a b _ => plainIx b && okX T o C false a && okX T i C false b
    | _ => false)
def okGs (T : Tab) : Tgs → Ct → List Expr → Bool
  | .nil, _, xs => xs.isEmpty
  | .cons t ts, C, xs => (match xs with
    | y :: ys => notStar y && okG T t C y && okGs T ts C ys
    | [] => false)
end
/-- what the check gives -/
def Claim (t : Bool) (X : Cx) (g : GS) (W : WX) (c : CC) (e : IE) (x : Expr) : Prop :=
  (t = false → PE X x (rdE g W (evE c e))) ∧ (t = true → PT X x (rdB g W (tE (evE c e))) ∧ ((∃ op xs p, x = .BoolOp op xs p) → PW X x (rdB g W (tE (evE c e)))))
section
variable {T : Tab} {g : GS} {c : CC} {lv : Nat} {C : Ct} {W : WX} {X : Cx}
theorem claim_pl {t : Bool} {e : IE} {x : Expr} (G : Good T g c lv C W X) (hp : plainT x = true) (h : PE X x (rdE g W (evE c e))) : Claim t X g W c e x :=
  ⟨fun _ => h, fun _ => ⟨pt_plain G.hK h (plainT_ok hp X.env), fun ⟨op, xs, p, e⟩ => by rw [e] at hp; cases hp⟩⟩
theorem pn {n : Str} (h : plainName n = true) : (n == ("__debug__" : Str)) = false ∧ (n == ("__classdict__" : Str)) = false := by
  unfold plainName at h
  obtain ⟨h1, h2⟩ := Bool.and_eq_true_iff.mp h
  exact ⟨by simpa using h1, by simpa using h2⟩
/-- IEs, their number -/
def esLen : IEs → Nat
  | .nil => 0
  | .cons _ es => esLen es + 1
theorem len_ev : ∀ (es : IEs), Len (evL c es) (esLen es)
  | .nil => fun ρ h ss h' e => by
    rw [evL] at e
    cases e
    rfl
  | .cons e0 es => fun ρ h ss h' e => by
    rw [evL] at e
    unfold vCons at e
    cases e1 : sE (evE c e0) ρ h with
    | bad => rw [e1] at e; cases e
    | ex z h1 => rw [e1] at e; cases e
    | ok x h1 =>
      rw [e1] at e
      replace e : ((evL c es ρ h1).bind fun ss h => Rs.ok (x :: ss) h) = .ok ss h' := e
      cases e2 : evL c es ρ h1 with
      | bad => rw [e2] at e; cases e
      | ex z h1 => rw [e2] at e; cases e
      | ok ys h2 =>
        rw [e2] at e
        cases e
        show ys.length + 1 = _
        rw [len_ev es _ _ _ _ e2]
        rfl
theorem okL_len : ∀ (es : IEs) {C : Ct} {xs : List Expr}, okL T es C xs = true → esLen es = xs.length ∧ xs.all notStar = true ∧ (xs = [] → evL c es = vNil)
  | .nil, C, xs, h => by
    rw [okL] at h
    cases xs with
    | nil => exact ⟨rfl, rfl, fun _ => by rw [evL]⟩
    | cons _ _ => cases h
  | .cons e es, C, xs, h => by
    cases xs with
    | nil => rw [okL] at h; cases h
    | cons y ys =>
      rw [okL] at h
      simp only [Bool.and_eq_true] at h
      obtain ⟨i1, i2, _⟩ := okL_len es h.2
      refine ⟨by show esLen es + 1 = _; rw [i1]; rfl, ?_, fun q => by cases q⟩
      show (notStar y && ys.all notStar) = true
      rw [h.1.1, i2]
      rfl
theorem okW_len : ∀ (es : IEs) {C : Ct} {xs : List Keyword}, okW T es C xs = true → esLen es = xs.length ∧ (xs = [] → evL c es = vNil)
  | .nil, C, xs, h => by
    rw [okW] at h
    cases xs with
    | nil => exact ⟨rfl, fun _ => by rw [evL]⟩
    | cons _ _ => cases h
  | .cons e es, C, xs, h => by
    cases xs with
    | nil => rw [okW] at h; cases h
    | cons y ys =>
      rw [okW] at h
      simp only [Bool.and_eq_true] at h
      obtain ⟨i1, _⟩ := okW_len es h.2
      exact ⟨by show esLen es + 1 = _; rw [i1]; rfl, fun q => by cases q⟩
theorem okTys_ok (G : Good T g c lv C W X) : ∀ {ts : List Ty} {zs : List Expr}, okTys C T ts zs = true → ∃ ns ps, tyNms ts = some ns ∧ zs = names ts ps ∧ ps.length = ts.length ∧ (∀ t ∈ ts, Gl X (tyNm t) ∧ X.mg (tyNm t) = none) ∧ ns.length = ts.length
  | [], zs, h => by
    cases zs with
    | nil => exact ⟨[], [], rfl, rfl, rfl, (fun _ h => absurd h List.not_mem_nil), rfl⟩
    | cons _ _ => cases h
  | t :: ts, zs, h => by
    cases zs with
    | nil => cases h
    | cons z zs =>
      unfold okTys at h
      obtain ⟨h1, h2⟩ := Bool.and_eq_true_iff.mp h
      obtain ⟨ns, ps, e1, e2, e3, e4, e5⟩ := okTys_ok G h2
      unfold okTy at h1
      split at h1
      · rename_i n p
        simp only [Bool.and_eq_true] at h1
        obtain ⟨⟨⟨q1, q2⟩, q3⟩, q4⟩ := h1
        have hn : n = tyNm t := by simpa using q1
        subst hn
        obtain ⟨m, hm⟩ := Option.isSome_iff_exists.mp q4
        refine ⟨m :: ns, p :: ps, by unfold tyNms; rw [hm, e1], by rw [e2]; rfl, by simp [e3], fun t' ht => ?_, by simp [e5]⟩
        rcases List.mem_cons.mp ht with rfl | ht
        · exact ⟨G.gl q2, G.frees _ (by simpa using q3)⟩
        · exact e4 t' ht
      · cases h1
theorem pw_tail {W : WX} {e : IE} {l r : Expr} {rs : List Expr} {p : Pos} (hb : Claim true X g W c e (tailE .And p (r :: rs))) : PW X (.BoolOp .And (r :: rs) p) (rdB g W (tE (evE c e))) := by
  cases rs with
  | nil => exact pw_and1 (hb.2 rfl).1
  | cons s rs => exact (hb.2 rfl).2 ⟨.And, r :: s :: rs, p, rfl⟩
theorem pw_tailO {W : WX} {e : IE} {l r : Expr} {rs : List Expr} {p : Pos} (hb : Claim true X g W c e (tailE .Or p (r :: rs))) : PW X (.BoolOp .Or (r :: rs) p) (rdB g W (tE (evE c e))) := by
  cases rs with
  | nil => exact pw_or1 (hb.2 rfl).1
  | cons s rs => exact (hb.2 rfl).2 ⟨.Or, r :: s :: rs, p, rfl⟩
theorem pe_tail {W : WX} {op : BoolOp} {e : IE} {r : Expr} {rs : List Expr} {p : Pos} (hb : PE X (tailE op p (r :: rs)) (rdE g W (evE c e))) : PE X (.BoolOp op (r :: rs) p) (rdE g W (evE c e)) := by
  cases rs with
  | nil => exact pe_one hb
  | cons s rs => exact hb
theorem fold_ns {e : Expr} {env : Env} (h : notSet e = true) : ∀ v, foldedSetIterable e env v = pure v := fun v => by
  unfold foldedSetIterable
  split
  · cases h
  · rfl
end
variable {T : Tab} {g : GS}
set_option maxHeartbeats 2000000 in
mutual
theorem okX_ok : ∀ (e : IE) {c : CC} {lv : Nat} {C : Ct} {W : WX} {X : Cx} {t : Bool} {x : Expr}, Good T g c lv C W X → okX T e C t x = true → Claim t X g W c e x
  | .xx, c, lv, C, W, X, t, x, G, h => by
    refine ⟨fun _ => ⟨fun _ _ _ _ _ _ ⟨_, _, _, _, _, _, cd⟩ => by rw [evE] at cd; exact cd.elim⟩, fun _ => ⟨⟨fun _ _ _ _ _ _ ⟨_, _, _, _, _, _, cd⟩ => by rw [evE] at cd; exact cd.elim⟩, fun _ => ⟨fun _ _ _ _ _ _ _ ⟨_, _, _, _, _, _, cd⟩ => by rw [evE] at cd; exact cd.elim⟩⟩⟩
  | .var i, c, lv, C, W, X, t, x, G, h => by
    rw [okX.eq_def] at h
    dsimp only at h
    split at h
    · simp only [Bool.and_eq_true, decide_eq_true_eq] at h
      obtain ⟨⟨h1, h2⟩, h3⟩ := h
      refine claim_pl G rfl ?_
      rw [evE]
      exact pe_vv (pe_var (by rw [G.hN]; exact h1) (G.vs h2) (pn h3).1 (pn h3).2)
    · cases h
  | .c u, c, lv, C, W, X, t, x, G, h => by
    rw [okX.eq_def] at h
    dsimp only at h
    split at h
    · rename_i k j p
      refine claim_pl G rfl ?_
      rw [evE]
      cases u with
      | non => cases k <;> first | (cases h; done) | exact pe_lit pe_non fun _ _ => rfl
      | bl b =>
        cases k <;> first | (cases h; done) | skip
        rename_i b'
        have : b = b' := by simpa [okC] using h
        subst this
        exact pe_lit pe_bl fun _ _ => rfl
      | int i =>
        cases k <;> first | (cases h; done) | skip
        rename_i b'
        have : i = b' := by simpa [okC] using h
        subst this
        exact pe_lit pe_int fun _ _ => rfl
      | str z =>
        cases k <;> first | (cases h; done) | skip
        rename_i b'
        have : z = b' := by simpa [okC] using h
        subst this
        exact pe_lit pe_str fun _ _ => rfl
      | _ => cases h
    · cases h
  | .gl y u, c, lv, C, W, X, t, x, G, h => by
    rw [okX.eq_def] at h
    dsimp only at h
    split at h
    · rename_i n p
      simp only [Bool.and_eq_true, decide_eq_true_eq] at h
      obtain ⟨⟨⟨h1, h2⟩, h3⟩, h4⟩ := h
      refine claim_pl G rfl ?_
      rw [evE]
      cases u with
      | int i =>
        obtain ⟨u, e1, e2⟩ := G.nums n i (by simpa using h4)
        exact pe_lit (pe_glob (G.gl h2) e1 e2 (pn h3).1) fun _ _ => rfl
      | str z =>
        obtain ⟨u, e1, e2⟩ := G.txts n z (by simpa using h4)
        exact pe_lit (pe_glob (G.gl h2) e1 e2 (pn h3).1) fun _ _ => rfl
      | _ => cases h4
    · cases h
  | .fn y f, c, lv, C, W, X, t, x, G, h => by
    rw [okX.eq_def] at h
    dsimp only at h
    split at h
    · rename_i n p
      simp only [Bool.and_eq_true, decide_eq_true_eq] at h
      obtain ⟨⟨⟨h1, h2⟩, h3⟩, h4⟩ := h
      refine claim_pl G rfl ?_
      rw [evE]
      exact pe_lit (pe_glob (G.gl h2) (G.fns n f (by simpa using h4)) (v := .ref (g.fa f)) rfl (pn h3).1) fun _ _ => rfl
    · cases h
  | .bin o a b, c, lv, C, W, X, t, x, G, h => by
    rw [okX.eq_def] at h
    dsimp only at h
    split at h
    · simp only [Bool.and_eq_true, decide_eq_true_eq] at h
      obtain ⟨⟨rfl, h2⟩, h3⟩ := h
      refine claim_pl G rfl ?_
      rw [evE]
      exact pe_bin2 G.hK o ((okX_ok a G h2).1 rfl) ((okX_ok b G h3).1 rfl)
    · cases h
  | .neg a, c, lv, C, W, X, t, x, G, h => by
    rw [okX.eq_def] at h
    dsimp only at h
    split at h
    · refine claim_pl G rfl ?_
      rw [evE]
      exact pe_neg2 ((okX_ok a G h).1 rfl)
    · cases h
  | .nt a, c, lv, C, W, X, t, x, G, h => by
    rw [okX.eq_def] at h
    dsimp only at h
    split at h
    · have ih := okX_ok a G h
      refine ⟨fun e => ?_, fun e => ⟨?_, fun ⟨op, xs, p, e⟩ => by cases e⟩⟩
      · rw [evE]; exact pe_not2 G.hK (ih.1 e)
      · rw [evE]; exact pt_not2 (ih.2 e).1
    · cases h
  | .cmp o a b, c, lv, C, W, X, t, x, G, h => by
    rw [okX.eq_def] at h
    dsimp only at h
    split at h
    · simp only [Bool.and_eq_true, decide_eq_true_eq] at h
      obtain ⟨⟨⟨rfl, h1⟩, h2⟩, h3⟩ := h
      have ia := (okX_ok a G h2).1 rfl
      have ib := (okX_ok b G h3).1 rfl
      refine ⟨fun e => ?_, fun e => ⟨?_, fun ⟨op, xs, p, e⟩ => by cases e⟩⟩
      · rw [evE]; exact pe_cmp2 G.hK G.u o ia ib (by simpa using h1)
      · rw [evE]; exact pt_cmp2 G.hK G.u o ia ib (by simpa using h1)
    · cases h
  | .ch o o' a b d, c, lv, C, W, X, t, x, G, h => by
    rw [okX.eq_def] at h
    dsimp only at h
    split at h
    · simp only [Bool.and_eq_true, decide_eq_true_eq] at h
      obtain ⟨⟨⟨⟨⟨rfl, rfl⟩, h1⟩, h2⟩, h3⟩, h4⟩ := h
      have ia := (okX_ok a G h2).1 rfl
      have ib := (okX_ok b G h3).1 rfl
      have id := (okX_ok d G h4).1 rfl
      refine ⟨fun e => ?_, fun e => ⟨?_, fun ⟨op, xs, p, e⟩ => by cases e⟩⟩
      · rw [evE]; exact pe_ch2 G.hK G.u o o' ia ib id (by simpa using h1)
      · rw [evE]; exact pt_ch2 G.hK G.u o o' ia ib id (by simpa using h1)
    · cases h
  | .and a b, c, lv, C, W, X, t, x, G, h => by
    rw [okX.eq_def] at h
    dsimp only at h
    split at h
    · rename_i l r rs p
      simp only [Bool.and_eq_true] at h
      have ia := okX_ok a G h.1
      have ib := okX_ok b G h.2
      cases t with
      | false => exact ⟨fun _ => by rw [evE]; exact pe_and2 G.hK (ia.1 rfl) (pe_tail (ib.1 rfl)), fun e => by cases e⟩
      | true =>
        have pw : PW X (.BoolOp .And (l :: r :: rs) p) (rdB g W (tE (evE c (.and a b)))) := by rw [evE]; exact pw_and2 (ia.2 rfl).1 (pw_tail (l := l) ib)
        exact ⟨(fun e => by cases e), fun _ => ⟨pw.pt, fun _ => pw⟩⟩
    · cases h
  | .or a b, c, lv, C, W, X, t, x, G, h => by
    rw [okX.eq_def] at h
    dsimp only at h
    split at h
    · rename_i l r rs p
      simp only [Bool.and_eq_true] at h
      have ia := okX_ok a G h.1
      have ib := okX_ok b G h.2
      cases t with
      | false => exact ⟨fun _ => by rw [evE]; exact pe_or2 G.hK (ia.1 rfl) (pe_tail (ib.1 rfl)), fun e => by cases e⟩
      | true =>
        have pw : PW X (.BoolOp .Or (l :: r :: rs) p) (rdB g W (tE (evE c (.or a b)))) := by rw [evE]; exact pw_or2 (ia.2 rfl).1 (pw_tailO (l := l) ib)
        exact ⟨(fun e => by cases e), fun _ => ⟨pw.pt, fun _ => pw⟩⟩
    · cases h
  | .ife q a b, c, lv, C, W, X, t, x, G, h => by
    rw [okX.eq_def] at h
    dsimp only at h
    split at h
    · simp only [Bool.and_eq_true] at h
      obtain ⟨⟨h1, h2⟩, h3⟩ := h
      have iq := ((okX_ok q G h1).2 rfl).1
      have ia := okX_ok a G h2
      have ib := okX_ok b G h3
      refine ⟨fun e => ?_, fun e => ⟨?_, fun ⟨op, xs, p, e⟩ => by cases e⟩⟩
      · rw [evE]; exact pe_ife2 iq (ia.1 e) (ib.1 e)
      · rw [evE]; exact pt_ife2 iq (ia.2 e).1 (ib.2 e).1
    · cases h
  | .tup es, c, lv, C, W, X, t, x, G, h => by
    rw [okX.eq_def] at h
    dsimp only at h
    split at h
    · refine claim_pl G rfl ?_
      rw [evE]
      exact pe_tup2 (okL_ok es G h)
    · cases h
  | .lst es, c, lv, C, W, X, t, x, G, h => by
    rw [okX.eq_def] at h
    dsimp only at h
    split at h
    · refine claim_pl G rfl ?_
      rw [evE]
      exact pe_lst2 (okL_ok es G h)
    · cases h
  | .idx a b, c, lv, C, W, X, t, x, G, h => by
    rw [okX.eq_def] at h
    dsimp only at h
    split at h
    · simp only [Bool.and_eq_true] at h
      obtain ⟨⟨h1, h2⟩, h3⟩ := h
      refine claim_pl G rfl ?_
      rw [evE]
      exact pe_idx2 G.hK ((okX_ok a G h2).1 rfl) ((okX_ok b G h3).1 rfl) (plainIx_ok h1)
    · cases h
  | .slc a lo hi, c, lv, C, W, X, t, x, G, h => by
    rw [okX.eq_def] at h
    dsimp only at h
    split at h
    · simp only [Bool.and_eq_true] at h
      obtain ⟨⟨h1, h2⟩, h3⟩ := h
      refine claim_pl G rfl ?_
      rw [evE]
      exact pe_slc2 G.hK ((okX_ok a G h1).1 rfl) (okO_ok lo G h2) (okO_ok hi G h3)
    · cases h
  | .rev a, c, lv, C, W, X, t, x, G, h => by
    rw [okX.eq_def] at h
    dsimp only at h
    split at h
    · refine claim_pl G rfl ?_
      rw [evE]
      exact pe_rev2 G.hK ((okX_ok a G h).1 rfl)
    · cases h
  | .nr a, c, lv, C, W, X, t, x, G, h => by
    rw [okX.eq_def] at h
    dsimp only at h
    simp only [Bool.and_eq_true] at h
    have t0 : t = false := by simpa using h.1
    subst t0
    exact ⟨fun _ => by rw [evE]; exact pe_nr ((okX_ok a G h.2).1 rfl), fun e => by cases e⟩
  | .call f es ks kes, c, lv, C, W, X, t, x, G, h => by
    rw [okX.eq_def] at h
    dsimp only at h
    split at h
    · rename_i n p xs kws pos
      simp only [Bool.and_eq_true, decide_eq_true_eq] at h
      obtain ⟨⟨⟨⟨⟨⟨h1, h2⟩, h3⟩, h4⟩, h5⟩, h6⟩, h7⟩ := h
      obtain ⟨l1, l2, l3⟩ := okL_len (c := c) es h4
      obtain ⟨m1, m2⟩ := okW_len (c := c) kes h6
      have hk : kws.length = ks.length := by
        have := congrArg List.length h5
        simpa using this
      refine claim_pl G rfl ?_
      rw [evE]
      exact pe_call2 G.tk (G.pats f xs.length ks (by simpa using h7)) G.room (G.gl h1) (G.fns n f (by simpa using h3)) (pn h2).1 l2 h5 (by rw [← l1]; exact len_ev es) (by rw [← hk, ← m1]; exact len_ev kes) l3 m2 (okL_ok es G h4) (okW_ok kes G h6)
    · cases h
  | .cv i es, c, lv, C, W, X, t, x, G, h => by
    rw [okX.eq_def] at h
    dsimp only at h
    split at h
    · rename_i n p y ys pos
      simp only [Bool.and_eq_true, decide_eq_true_eq] at h
      obtain ⟨⟨⟨h1, h2⟩, h3⟩, h4⟩ := h
      obtain ⟨l1, l2, l3⟩ := okL_len (c := c) es h4
      refine claim_pl G rfl ?_
      rw [evE]
      exact pe_cv2 G.tk G.any G.room (by rw [G.hN]; exact h1) (G.vs h2) (pn h3).1 (pn h3).2 l2 (by rw [← l1]; exact len_ev es) (okL_ok es G h4)
    · cases h
  | .bi b es, c, lv, C, W, X, t, x, G, h => by
    rw [okX.eq_def] at h
    dsimp only at h
    split at h
    · simp only [Bool.and_eq_true, decide_eq_true_eq] at h
      obtain ⟨⟨⟨⟨rfl, h2⟩, h3⟩, h4⟩, h5⟩ := h
      obtain ⟨l1, l2, l3⟩ := okL_len (c := c) es h4
      refine claim_pl G rfl ?_
      rw [evE]
      exact pe_bi2 G.hK G.calm b (fun e => G.dig (okB_ok h5 e)) (G.gl h2) (G.frees _ (by simpa using h3)) l2 (okL_ok es G h4)
    · cases h
  | .isi a ts, c, lv, C, W, X, t, x, G, h => by
    rw [okX.eq_def] at h
    dsimp only at h
    split at h
    · rename_i n p y z pos
      simp only [Bool.and_eq_true, decide_eq_true_eq] at h
      obtain ⟨⟨⟨⟨⟨rfl, h2⟩, h3⟩, h4⟩, h5⟩, h6⟩ := h
      have ia := (okX_ok a G h5).1 rfl
      refine claim_pl G rfl ?_
      rw [evE]
      split at h6
      · rename_i zs kk tp
        obtain ⟨h6, h7⟩ := Bool.and_eq_true_iff.mp h6
        obtain ⟨ns, ps, e1, e2, e3, e4, e5⟩ := okTys_ok G h6
        subst e2
        exact pe_isiN G.hK e1 e3 e4 (by rw [e5]; have := Nat.le_of_ble_eq_true h7; unfold lim; omega) (G.gl h2) (G.frees _ (by simpa using h3)) h4 ia
      · split at h6
        · rename_i t1
          unfold okTy at h6
          split at h6
          · rename_i m q _
            simp only [Bool.and_eq_true] at h6
            obtain ⟨⟨⟨q1, q2⟩, q3⟩, q4⟩ := h6
            have hm : m = tyNm t1 := by simpa using q1
            subst hm
            obtain ⟨mm, hmm⟩ := Option.isSome_iff_exists.mp q4
            exact pe_isi1 G.hK hmm (G.gl q2) (G.frees _ (by simpa using q3)) (G.gl h2) (G.frees _ (by simpa using h3)) h4 ia
          · cases h6
        · cases h6
    · cases h
  | .met m o es, c, lv, C, W, X, t, x, G, h => by
    rw [okX.eq_def] at h
    dsimp only at h
    split at h
    · rename_i y n ap xs cp
      simp only [Bool.and_eq_true, decide_eq_true_eq] at h
      obtain ⟨⟨⟨⟨⟨rfl, h2⟩, h3⟩, h4⟩, h5⟩, h6⟩ := h
      obtain ⟨l1, l2, l3⟩ := okL_len (c := c) es h5
      have io := (okX_ok o G h4).1 rfl
      have ie := okL_ok es G h5
      refine claim_pl G rfl ?_
      rw [evE]
      cases xs with
      | nil =>
        rw [l3 rfl]
        exact pe_met20 G.hK G.u m h2 h3 io
      | cons z zs => exact pe_met2 G.hK G.u m h2 h3 l2 (Nat.le_of_ble_eq_true h6) io ie
    · cases h
  | .lc tt it k e own, c, lv, C, W, X, t, x, G, h => by
    rw [okX.eq_def] at h
    dsimp only at h
    split at h
    · rename_i elt tg iter ifs a scope pos
      simp only [Bool.and_eq_true, decide_eq_true_eq] at h
      obtain ⟨⟨⟨⟨⟨⟨⟨⟨rfl, h1⟩, h2⟩, h3⟩, h4⟩, h5⟩, h6⟩, h7⟩, h8⟩ := h
      refine claim_pl G rfl ?_
      rw [evE]
      refine pe_lc2' G.calm G.nd (okI_ok it G h5) (by rw [G.hN, G.sc]; exact blkOk_by h1) (fun i hi => ?_) (fun s H A cl fp => (okG_ok tt (G.blk s H scope A cl fp) h6).2 h2) (fun s H A cl fp => okK_ok k (G.blk s H scope A cl fp) h7) (fun s H A cl fp => (okX_ok e (G.blk s H scope A cl fp) h8).1 rfl) (fold_ns h4)
      have := List.all_eq_true.mp h3 i hi
      simpa using this
    · cases h
  | .lc2 tt it k t1 it1 k1 e own, c, lv, C, W, X, t, x, G, h => by
    rw [okX.eq_def] at h
    dsimp only at h
    split at h
    · rename_i elt tg iter ifs a tg1 iter1 ifs1 a1 scope pos
      simp only [Bool.and_eq_true, decide_eq_true_eq] at h
      obtain ⟨⟨⟨⟨⟨⟨⟨⟨⟨⟨⟨⟨⟨⟨⟨rfl, rfl⟩, h1⟩, h2⟩, h2'⟩, h3⟩, h3'⟩, h4⟩, h4'⟩, h5⟩, h6⟩, h7⟩, h8⟩, h9⟩, h10⟩, h11⟩ := h
      refine claim_pl G rfl ?_
      rw [evE]
      exact pe_lc22 G.calm G.nd (okI_ok it G h5) (by rw [G.hN, G.sc]; exact blkOk_by h1) (fun i hi => by simpa using List.all_eq_true.mp h3 i hi) (fun i hi => hi) (fun i hi => by simpa using List.all_eq_true.mp h3' i hi)
        (fun s H A cl fp => (okG_ok tt (G.blk s H scope A cl fp) h6).2 h2) (fun s H A cl fp => okK_ok k (G.blk s H scope A cl fp) h7) (fun s H A cl fp => okI_ok it1 (G.blk s H scope A cl fp) h8) (fun s H A cl fp => (okG_ok t1 (G.blk s H scope A cl fp) h9).2 h2') (fun s H A cl fp => okK_ok k1 (G.blk s H scope A cl fp) h10)
        (fun s H A cl fp => (okX_ok e (G.blk s H scope A cl fp) h11).1 rfl) (fold_ns h4) fun env => fold_ns h4'
    · cases h
  | .srt d e, c, lv, C, W, X, t, x, G, h => by
    rw [okX.eq_def] at h
    dsimp only at h
    split at h
    · simp only [Bool.and_eq_true, decide_eq_true_eq] at h
      obtain ⟨⟨⟨⟨⟨rfl, h2⟩, h3⟩, h4⟩, h5⟩, h6⟩ := h
      refine claim_pl G rfl ?_
      rw [evE]
      exact pe_srt2 G.hK (Nat.le_of_ble_eq_true h4) (G.gl h2) (G.frees _ (by simpa using h3)) h5 ((okX_ok e G h6).1 rfl)
    · cases h
  | .fld cl o y, c, lv, C, W, X, t, x, G, h => by
    rw [okX.eq_def] at h
    dsimp only at h
    split at h
    · simp only [Bool.and_eq_true, decide_eq_true_eq] at h
      obtain ⟨⟨⟨rfl, h2⟩, h3⟩, h4⟩ := h
      obtain ⟨c1, c2⟩ := G.flds cl _ (by simpa using h3)
      refine claim_pl G rfl ?_
      rw [evE]
      exact pe_fld2 c1 c2 h2 ((okX_ok o G h4).1 rfl)
    · cases h
  | .kin cl b k o y, c, lv, C, W, X, t, x, G, h => by
    rw [okX.eq_def] at h
    dsimp only at h
    split at h
    · rename_i l p e n ap pos
      simp only [Bool.and_eq_true, decide_eq_true_eq] at h
      obtain ⟨⟨⟨⟨⟨⟨rfl, rfl⟩, h2⟩, h3⟩, h4⟩, h5⟩, h6⟩ := h
      obtain ⟨c1, c2⟩ := G.flds cl _ (by simpa using h4)
      have hu : X.A.units + 1 < cLine := by have := G.u; omega
      have pc := pc_kin2 (p2 := ap) b hu c1 c2 h2 ((okX_ok o G h6).1 rfl) ((okX_ok k G h5).1 rfl)
      refine ⟨fun e => ?_, fun e => ⟨?_, fun ⟨op, xs, p, e⟩ => by cases e⟩⟩
      · rw [evE]; exact pe_cmp pc (by simpa using h3)
      · rw [evE]
        exact PT.imp (pt_cmp pc (by simpa using h3)) fun _ _ _ q => (test_rd (fun _ _ _ _ e => vKin_bl e) q : rdE g W (vKin cl b n (evE c k) (evE c o)) _ _ _)
    · cases h
  | .kget cl o y k, c, lv, C, W, X, t, x, G, h => by
    rw [okX.eq_def] at h
    dsimp only at h
    split at h
    · simp only [Bool.and_eq_true, decide_eq_true_eq] at h
      obtain ⟨⟨⟨⟨⟨h1, rfl⟩, h2⟩, h3⟩, h4⟩, h5⟩ := h
      obtain ⟨c1, c2⟩ := G.flds cl _ (by simpa using h3)
      have hu : X.A.units + 1 < cLine := by have := G.u; omega
      refine claim_pl G rfl ?_
      rw [evE]
      exact pe_kget2 hu c1 c2 h2 (noSl_ok h1) ((okX_ok o G h4).1 rfl) ((okX_ok k G h5).1 rfl)
    · cases h
  | .mth cl m f o es, c, lv, C, W, X, t, x, G, h => by
    rw [okX.eq_def] at h
    dsimp only at h
    split at h
    · rename_i e n ap xs pos
      simp only [Bool.and_eq_true, decide_eq_true_eq] at h
      obtain ⟨⟨⟨⟨⟨⟨⟨rfl, h2⟩, h3⟩, h4⟩, h5⟩, h6⟩, h7⟩, h8⟩ := h
      obtain ⟨l1, l2, l3⟩ := okL_len (c := c) es h5
      obtain ⟨c1, c2⟩ := G.mths cl _ f (by simpa using h2)
      refine claim_pl G rfl ?_
      rw [evE]
      exact pe_mth2 G.tk c1 c2 (G.pats f (xs.length + 1) [] (by simpa using h3)) G.room l2 (by rw [← l1]; exact len_ev es) l3 ((okX_ok o G h4).1 rfl) (okL_ok es G h5) (mth_eval h6 h7 l2 (Nat.le_of_ble_eq_true h8))
    · cases h
  | .mk y cl f e, c, lv, C, W, X, t, x, G, h => by
    rw [okX.eq_def] at h
    dsimp only at h
    split at h
    · simp only [Bool.and_eq_true, decide_eq_true_eq] at h
      obtain ⟨⟨⟨⟨⟨rfl, h2⟩, h3⟩, h4⟩, h5⟩, h6⟩ := h
      refine claim_pl G rfl ?_
      rw [evE]
      exact pe_mk2 G.lvc (G.mks _ cl f (by simpa using h4)) G.room (G.gl h2) (pn h3).1 h5 ((okX_ok e G h6).1 rfl)
    · cases h
  | .ktup es, c, lv, C, W, X, t, x, G, h => by
    rw [okX.eq_def] at h
    dsimp only at h
    split at h
    · refine claim_pl G rfl ?_
      rw [evE]
      exact pe_ktup2 (okL_ok es G h)
    · cases h
theorem okL_ok : ∀ (es : IEs) {c : CC} {lv : Nat} {C : Ct} {W : WX} {X : Cx} {xs : List Expr}, Good T g c lv C W X → okL T es C xs = true → PA X xs (rdL g W (evL c es))
  | .nil, c, lv, C, W, X, xs, G, h => by
    cases xs with
    | nil => rw [evL]; exact pa_nil2
    | cons _ _ => rw [okL] at h; cases h
  | .cons e es, c, lv, C, W, X, xs, G, h => by
    cases xs with
    | nil => rw [okL] at h; cases h
    | cons y ys =>
      rw [okL] at h
      simp only [Bool.and_eq_true] at h
      rw [evL]
      exact pa_cons2 h.1.1 ((okX_ok e G h.1.2).1 rfl) (okL_ok es G h.2)
theorem okW_ok : ∀ (es : IEs) {c : CC} {lv : Nat} {C : Ct} {W : WX} {X : Cx} {xs : List Keyword}, Good T g c lv C W X → okW T es C xs = true → PKr X g W xs (evL c es)
  | .nil, c, lv, C, W, X, xs, G, h => by
    cases xs with
    | nil => rw [evL]; exact pk_nil2
    | cons _ _ => rw [okW] at h; cases h
  | .cons e es, c, lv, C, W, X, xs, G, h => by
    cases xs with
    | nil => rw [okW] at h; cases h
    | cons y ys =>
      rw [okW] at h
      simp only [Bool.and_eq_true] at h
      rw [evL]
      obtain ⟨n, v, p⟩ := y
      exact pk_cons2 ((okX_ok e G h.1).1 rfl) (okW_ok es G h.2)
theorem okO_ok : ∀ (o : IO) {c : CC} {lv : Nat} {C : Ct} {W : WX} {X : Cx} {x : Option Expr}, Good T g c lv C W X → okO T o C x = true → PO X x (rdO g W (evO c o))
  | .none, c, lv, C, W, X, x, G, h => by
    cases x with
    | none => rw [evO]; exact po_none2
    | some y => rw [okO] at h; cases h
  | .some e, c, lv, C, W, X, x, G, h => by
    cases x with
    | none => rw [okO] at h; cases h
    | some y =>
      rw [okO] at h
      rw [evO]
      exact po_some2 ((okX_ok e G h).1 rfl)
theorem okK_ok : ∀ (o : IO) {c : CC} {lv : Nat} {C : Ct} {W : WX} {X : Cx} {x : List Expr}, Good T g c lv C W X → okK T o C x = true → PTs X x (rdB g W (evK c o))
  | .none, c, lv, C, W, X, x, G, h => by
    cases x with
    | nil =>
      rw [evK]
      exact ⟨fun pins s σ H Q I ⟨y, φ, ρ, h, rs, rep, cd⟩ => pts_nil.run pins s σ H Q I (cd φ true H Step.refl rep rfl)⟩
    | cons _ _ => rw [okK] at h; cases h
  | .some e, c, lv, C, W, X, x, G, h => by
    rw [okK.eq_def] at h
    dsimp only at h
    split at h
    · rw [evK]
      exact pts_one ((okX_ok e G h).2 rfl).1
    · cases h
theorem okI_ok : ∀ (it : II) {c : CC} {lv : Nat} {C : Ct} {W : WX} {X : Cx} {tg x : Expr}, Good T g c lv C W X → okI T it C tg x = true → PI X tg x (rdI g W (evI c it))
  | .val e, c, lv, C, W, X, tg, x, G, h => by
    rw [okI] at h
    rw [evI]
    exact pi_val2 G.hK ((okX_ok e G h).1 rfl)
  | .rng es, c, lv, C, W, X, tg, x, G, h => by
    rw [okI.eq_def] at h
    dsimp only at h
    split at h
    · simp only [Bool.and_eq_true, decide_eq_true_eq] at h
      obtain ⟨⟨⟨⟨rfl, h2⟩, h3⟩, h4⟩, h5⟩ := h
      obtain ⟨l1, l2, l3⟩ := okL_len (c := c) es h5
      rw [evI]
      exact pi_rng2 (G.gl h2) (G.frees _ (by simpa using h3)) l2 (by simp) (Nat.le_of_ble_eq_true h4) (by rw [← l1]; exact len_ev es) (okL_ok es G h5)
    · cases h
  | .enm e, c, lv, C, W, X, tg, x, G, h => by
    rw [okI.eq_def] at h
    dsimp only at h
    split at h
    · split at h
      · simp only [Bool.and_eq_true, decide_eq_true_eq] at h
        obtain ⟨⟨⟨⟨rfl, h2⟩, h3⟩, h4⟩, h5⟩ := h
        rw [evI]
        exact pi_enm2 G.hK (G.gl h2) (G.frees _ (by simpa using h3)) h4 ((okX_ok e G h5).1 rfl)
      · cases h
    · cases h
  | .zip a b, c, lv, C, W, X, tg, x, G, h => by
    rw [okI.eq_def] at h
    dsimp only at h
    split at h
    · split at h
      · simp only [Bool.and_eq_true, decide_eq_true_eq] at h
        obtain ⟨⟨⟨⟨⟨⟨rfl, h2⟩, h3⟩, h4⟩, h5⟩, h6⟩, h7⟩ := h
        rw [evI]
        exact pi_zip2 G.hK (G.gl h2) (G.frees _ (by simpa using h3)) h4 h5 ((okX_ok a G h6).1 rfl) ((okX_ok b G h7).1 rfl)
      · cases h
    · cases h
theorem okG_ok : ∀ (tt : Tg) {c : CC} {lv : Nat} {C : Ct} {W : WX} {X : Cx} {x : Expr}, Good T g c lv C W X → okG T tt C x = true → PG X x (GD g (tgN tt) (evG c tt)) ∧ (loopT tt = true → PG X x (GD1 g (tgN tt) (evT1 c tt)))
  | .nm i, c, lv, C, W, X, x, G, h => by
    rw [okG.eq_def] at h
    dsimp only at h
    split at h
    · rw [tgN]
      exact ⟨by rw [evG]; exact pg_nm G.nd (G.st h), fun _ => pg_nm1 G.nd (G.st h)⟩
    · cases h
  | .tp ts, c, lv, C, W, X, x, G, h => by
    rw [okG.eq_def] at h
    dsimp only at h
    split at h
    · obtain ⟨i1, i2, i3⟩ := okGs_ok ts G h
      rw [tgN]
      exact ⟨by rw [evG]; exact pg_tp G.hK G.calm i2 i3 i1, fun _ => pg_tp1 G.hK G.calm i2 i3 i1⟩
    · cases h
  | .sub o i, c, lv, C, W, X, x, G, h => by
    rw [okG.eq_def] at h
    dsimp only at h
    split at h
    · simp only [Bool.and_eq_true] at h
      obtain ⟨⟨h1, h2⟩, h3⟩ := h
      rw [tgN]
      exact ⟨by rw [evG]; exact pg_sub2 G.hK ((okX_ok o G h2).1 rfl) ((okX_ok i G h3).1 rfl) (sub_assign h1), fun e => by cases e⟩
    · cases h
theorem okGs_ok : ∀ (ts : Tgs) {c : CC} {lv : Nat} {C : Ct} {W : WX} {X : Cx} {xs : List Expr}, Good T g c lv C W X → okGs T ts C xs = true → PGs X xs (GDs g (tgsN ts) (evTs c ts)) ∧ xs.all notStar = true ∧ xs.length = tgLen ts
  | .nil, c, lv, C, W, X, xs, G, h => by
    cases xs with
    | nil => rw [tgsN]; exact ⟨pgs_nil2, rfl, rfl⟩
    | cons _ _ => rw [okGs] at h; cases h
  | .cons t ts, c, lv, C, W, X, xs, G, h => by
    cases xs with
    | nil => rw [okGs] at h; cases h
    | cons y ys =>
      rw [okGs] at h
      simp only [Bool.and_eq_true] at h
      obtain ⟨i1, i2, i3⟩ := okGs_ok ts G h.2
      rw [tgsN]
      refine ⟨pgs_cons2 h.1.1 (okG_ok t G h.1.2).1 i1, ?_, by simp [i3, tgLen]⟩
      show (notStar y && ys.all notStar) = true
      rw [h.1.1, i2]
      rfl
end
end VM

/-! The checker of statements, its soundness. -/
namespace VM
open PySem PySem.Spec PyProof.Rows L2 RZ
theorem bk_fn {env : Env} (hk : env.scope.kind = .function) : env.blockKind = .function := by unfold Env.blockKind; rw [hk]; rfl
theorem dups2 {x y : Str} (h : x ≠ y) : [x, y].eraseDups = [x, y] := by
  have h2 : ¬ y = x := fun e => h e.symm
  simp [List.eraseDups_cons, h2]
theorem dups3 {x y z : Str} (h : x ≠ y) (h2 : x ≠ z) (h3 : y ≠ z) : [x, y, z].eraseDups = [x, y, z] := by
  have e1 : ¬ y = x := fun e => h e.symm
  have e2 : ¬ z = x := fun e => h2 e.symm
  have e3 : ¬ z = y := fun e => h3 e.symm
  simp [List.eraseDups_cons, e1, e2, e3]
theorem star2 {es : List Expr} (h : es.all notStar = true) : (es.any fun | .Starred .. => true | _ => false) = false := by
  rw [List.any_eq_false]
  intro e he
  have := List.all_eq_true.mp h e he
  cases e <;> first | (cases this; done) | simp
theorem sw_par2 {env : Env} {x y : Str} {px py kt pt a b k2 p2} (hk : env.scope.kind = .function) (hx : env.scope.names.lookup x = some .local) (hy : env.scope.names.lookup y = some .local) (hl : py.line = px.line) (hxy : x ≠ y) (hs : [a, b].all notStar = true)
    (hf : ([a, b].all (foldedForSure 8)) = false) (hc : [a, b].all (constantsAlone 8) = false) : swappedStores [.Tuple [.Name x px, .Name y py] kt pt] (.Tuple [a, b] k2 p2) env = pure (some [x, y]) := by
  have kx : env.kindOf x = some .local := hx
  have ky : env.kindOf y = some .local := hy
  have hnames : ([Expr.Name x px, Expr.Name y py].filterMap fun
    | .Name id pos => if env.kindOf id == some .local && pos.line == (([Expr.Name x px, Expr.Name y py].head?.map (·.pos.line)).getD 0) then some id else none
    | _ => none) = [x, y] := by
    simp [kx, ky, hl, Expr.pos]
  unfold swappedStores
  simp only [List.length_cons, List.length_nil, bk_fn hk]
  rw [if_neg (by decide), if_neg (fun h => absurd (h.symm.trans (star2 hs)) (by decide))]
  generalize hN : List.filterMap _ _ = nms
  have e : nms = [x, y] := hN.symm.trans hnames
  subst e
  rw [dups2 hxy, if_neg (by simp), if_neg (by rw [hf]; decide), if_neg (by rw [hc]; decide)]
theorem sw_par3 {env : Env} {x y z : Str} {px py pz kt pt a b c k2 p2} (hk : env.scope.kind = .function) (hx : env.scope.names.lookup x = some .local) (hy : env.scope.names.lookup y = some .local) (hz : env.scope.names.lookup z = some .local) (hl : py.line = px.line) (hl2 : pz.line = px.line) (hxy : x ≠ y) (hxz : x ≠ z) (hyz : y ≠ z) (hs : [a, b, c].all notStar = true)
    (hf : ([a, b, c].all (foldedForSure 8)) = false) (hc : [a, b, c].all (constantsAlone 8) = false) : swappedStores [.Tuple [.Name x px, .Name y py, .Name z pz] kt pt] (.Tuple [a, b, c] k2 p2) env = pure (some [x, y, z]) := by
  have kx : env.kindOf x = some .local := hx
  have ky : env.kindOf y = some .local := hy
  have kz : env.kindOf z = some .local := hz
  have hnames : ([Expr.Name x px, Expr.Name y py, Expr.Name z pz].filterMap fun
    | .Name id pos => if env.kindOf id == some .local && pos.line == (([Expr.Name x px, Expr.Name y py, Expr.Name z pz].head?.map (·.pos.line)).getD 0) then some id else none
    | _ => none) = [x, y, z] := by
    simp [kx, ky, kz, hl, hl2, Expr.pos]
  unfold swappedStores
  simp only [List.length_cons, List.length_nil, bk_fn hk]
  rw [if_neg (by decide), if_neg (fun h => absurd (h.symm.trans (star2 hs)) (by decide))]
  generalize hN : List.filterMap _ _ = nms
  have e : nms = [x, y, z] := hN.symm.trans hnames
  subst e
  rw [dups3 hxy hxz hyz, if_neg (by simp), if_neg (by rw [hf]; decide), if_neg (by rw [hc]; decide)]
def sw0 : Expr → Bool
  | .ListComp _ _ _ _ => false
  | .SetComp _ _ _ _ => false
  | .DictComp _ _ _ _ _ => false
  | _ => true
theorem sw0_ok {e : Expr} (h : sw0 e = true) (t : Option Expr) (l : Nat) (env : Env) : swapsWith e t l env = pure false := by
  cases e <;> first | (cases h; done) | rfl
def swB (sc : Scope) (n : Str) (px : Pos) : Expr → Bool
  | .ListComp _ _ s p => (sc.names.lookup n == some .local) && px.line == p.line && !(s.names.any fun (m, k) => m == n && (k == .local || k == .cell))
  | _ => false
theorem swB_ok {elt : Expr} {gs : List Comprehension} {s : Scope} {p px : Pos} {n : Str} {l : Nat} {env : Env} (hk : env.scope.kind = .function) : swapsWith (.ListComp elt gs s p) (some (.Name n px)) l env = pure (swB env.scope n px (.ListComp elt gs s p)) := by
  unfold swapsWith
  simp only [bk_fn hk]
  rfl

section
variable {X : Cx} {g : GS} {W : WX} {e ea eb ec : Expr} {es : List Expr} {f k l : EvE} {fs : EvL} {pos p : Pos}
theorem nr_rd {σ : L2.St} {H : Hp} {Q : VK} (hh : rdE g W (vNr f) σ H Q) : rdE g W f σ H Q := by
  obtain ⟨x, φ, ρ, h, rs, rep, c⟩ := hh
  simp only [vNr] at c
  refine ⟨x, φ, ρ, h, rs, rep, ?_⟩
  cases e1 : f ρ h with
  | bad => rw [e1] at c; exact c
  | ex z h1 => rw [e1] at c; exact c
  | ok r h1 =>
    rw [e1] at c
    intro φ' v H' st rep' p
    cases r with
    | v u => exact c.elim
    | r n => exact c φ' v H' st rep' p
    | nw ob =>
      obtain ⟨l, rp, hv, hl⟩ := p
      have hlen : φ'.length = h1.length := rep'.len
      exact c (φ' ++ [some l]) v H' (st.skip hl) rp ⟨by rw [List.length_append, hlen]; simp, fun m hm => by
        rw [← hlen] at hm
        simp at hm
        rw [← hm]
        exact hv⟩
def sPar (is : List Nat) (fs : EvL) : EvS := fun ρ h => SR.ofRs ρ (fs ρ h) fun ss h => match setMany ρ is ss with
    | some ρ => .nx ρ h
    | none => .bad
theorem setMany_len : ∀ {is : List Nat} {ss : List S} {ρ ρ' : Rho}, setMany ρ is ss = some ρ' → is.length = ss.length
  | [], [], _, _, _ => rfl
  | [], _ :: _, _, _, h => by cases h
  | _ :: _, [], _, _, h => by cases h
  | i :: is, s :: ss, ρ, ρ', h => by
    show is.length + 1 = ss.length + 1
    rw [setMany_len (ρ := ρ.set i (some s)) h]
theorem par_rd2 {i j : Nat} {σ : L2.St} {H : Hp} {D : Ends} (hh : RDS g W (sPar [i, j] fs) D σ H) : tPar i j (rdL g W fs) D σ H := by
  obtain ⟨x, φ, ρ, h, rs, rep, c⟩ := hh
  refine head_rd (k := fun ρ ss h => match setMany ρ [i, j] ss with
    | some ρ => .nx ρ h
    | none => .bad) rs rep c fun vs H1 φ1 h1 ss st1 rs1 rep1 p c1 => ?_
  cases e : setMany ρ [i, j] ss with
  | none =>
    simp only [e] at c1
    exact c1.elim
  | some ρ' =>
    simp only [e] at c1
    have hl := setMany_len e
    cases ss with
    | nil => cases hl
    | cons s ss =>
      cases ss with
      | nil => cases hl
      | cons t ss =>
        cases ss with
        | cons _ _ => cases hl
        | nil =>
          cases e
          obtain ⟨v, w, rfl, d1, d2⟩ := ss2 p
          exact ⟨v, w, rfl, c1 φ1 _ H1 Step.refl ((rs1.set d1).set d2) rep1⟩
theorem par_rd3 {i j m : Nat} {σ : L2.St} {H : Hp} {D : Ends} (hh : RDS g W (sPar [i, j, m] fs) D σ H) : tPar3 i j m (rdL g W fs) D σ H := by
  obtain ⟨x, φ, ρ, h, rs, rep, c⟩ := hh
  refine head_rd (k := fun ρ ss h => match setMany ρ [i, j, m] ss with
    | some ρ => .nx ρ h
    | none => .bad) rs rep c fun vs H1 φ1 h1 ss st1 rs1 rep1 p c1 => ?_
  cases e : setMany ρ [i, j, m] ss with
  | none =>
    simp only [e] at c1
    exact c1.elim
  | some ρ' =>
    simp only [e] at c1
    have hl := setMany_len e
    cases ss with
    | nil => cases hl
    | cons s ss =>
      cases ss with
      | nil => cases hl
      | cons t ss =>
        cases ss with
        | nil => cases hl
        | cons q ss =>
          cases ss with
          | cons _ _ => cases hl
          | nil =>
            cases e
            obtain ⟨v1, r1, rfl, d1, v2, r2, rfl, d2, v3, r3, rfl, d3, d4⟩ := p
            cases (show r3 = [] from d4)
            exact ⟨v1, v2, v3, rfl, c1 φ1 _ H1 Step.refl (((rs1.set d1).set d2).set d3) rep1⟩
def augK (i : Nat) (o : BO) (x : S) (ρ : Rho) (y : S) (h : Hs) : SR := match x, y with
  | .v (.int _), .v (.int _) => match (binS o h x y).bind RV.s with
    | some s => .nx (ρ.set i (some s)) h
    | none => .bad
  | _, _ => .bad
def sAug (i : Nat) (o : BO) (f : EvE) : EvS := fun ρ h => match ρ[i]? with
    | some (some x) => SR.ofRs ρ (sE f ρ h) (augK i o x ρ)
    | _ => .bad
theorem aug_rd {i : Nat} {o : BO} {F : Int → Int → Int} (hF : ∀ h a b, binS o h (.v (.int a)) (.v (.int b)) = some (.v (.int (F a b)))) {σ : L2.St} {H : Hp} {D : Ends} (hh : RDS g W (sAug i o f) D σ H) : tAug i (rdS g W (sE f)) (ipI F) D σ H := by
  obtain ⟨x, φ, ρ, h, rs, rep, c⟩ := hh
  unfold sAug at c
  cases e1 : ρ[i]? with
  | none => rw [e1] at c; exact c.elim
  | some ox =>
    cases ox with
    | none => rw [e1] at c; exact c.elim
    | some s0 =>
      rw [e1] at c
      dsimp only at c
      obtain ⟨v, e2, d⟩ := rs.at_ i s0 e1
      refine ⟨v, e2, head_rd (k := fun ρ => augK i o s0 ρ) rs rep c fun w H1 φ1 h1 y st1 rs1 rep1 p c1 => ?_⟩
      unfold augK at c1
      split at c1
      · rename_i a b
        rw [hF] at c1
        have c1 : CondS g x W D φ1 H1 (.nx (ρ.set i (some (.v (.int (F a b))))) h1) := c1
        exact ⟨a, b, d, p, c1 φ1 _ H1 Step.refl (rs1.set (s := .v (.int (F a b))) rfl) rep1⟩
      · exact c1.elim
end
structure GoodS (T : Tab) (g : GS) (c : CC) (lv : Nat) (C : Ct) (W : WX) (X : Cx) : Prop extends Good T g c lv C W X where
  hp : PassesOwn (model X.prog X.w) X.A X.env X.xe
  hk : C.sc.kind = .function
  stk : X.stack = X.env :: X.outer
  frm : X.env.frame = some X.env.locals
theorem GoodS.tr {T : Tab} {g : GS} {c : CC} {lv : Nat} {C : Ct} {W : WX} {X : Cx} (G : GoodS T g c lv C W X) {W' : WX} {pn : List (Addr × Obj)} {xe : Value → Shared → Prop} (tk : Takes (X.tr pn xe) W') (hp : PassesOwn (model X.prog X.w) X.A X.env xe) : GoodS T g c lv C W' (X.tr pn xe) :=
  { toGood := G.toGood.tr tk, hp := hp, hk := G.hk, stk := G.stk, frm := G.frm }
def notTup : Expr → Bool
  | .Tuple _ _ _ => false
  | _ => true
theorem swN_tup {ts : List Expr} {kk : Nat} {tp : Pos} {v : Expr} {env : Env} (h : notTup v = true) : swappedStores [.Tuple ts kk tp] v env = pure none := by
  cases v <;> first | (cases h; done) | rfl
theorem sole_ok {v t : Expr} {l : Nat} {env : Env} (h : sw0 v = true) : swapsWithSole [t] v l env = pure false := sw0_ok h _ _ _
def notName : Expr → Bool
  | .Name _ _ => false
  | _ => true
def notLoc (sc : Scope) : Expr → Bool
  | .Name n _ => !(sc.names.lookup n == some .local)
  | _ => true
def swOk (sc : Scope) (ts : List Expr) : Expr → Bool
  | .Tuple vs _ _ => ts.any (notLoc sc) || vs.all (foldedForSure 8) || !(ts.length == 2 || ts.length == 3)
  | _ => true
theorem filt_lt {α β : Type} {f : α → Option β} : ∀ {l : List α}, (∃ a ∈ l, f a = none) → (l.filterMap f).length < l.length
  | [], ⟨_, h, _⟩ => by cases h
  | a :: l, ⟨b, hb, hf⟩ => by
    have hle := List.length_filterMap_le f l
    rcases List.mem_cons.mp hb with rfl | hb
    · rw [List.filterMap_cons_none hf]
      exact Nat.lt_succ_of_le hle
    · have ih := filt_lt (f := f) ⟨b, hb, hf⟩
      cases e : f a with
      | none => rw [List.filterMap_cons_none e]; exact Nat.lt_succ_of_le hle
      | some c => rw [List.filterMap_cons_some e]; simpa using ih
theorem swOk_ok {ts : List Expr} {kk : Nat} {tp : Pos} {v : Expr} {env : Env} (h : swOk env.scope ts v = true) : swappedStores [.Tuple ts kk tp] v env = pure none := by
  cases v with
  | Tuple vs k2 p2 =>
    have h : (ts.any (notLoc env.scope) || vs.all (foldedForSure 8) || !(ts.length == 2 || ts.length == 3)) = true := h
    unfold swappedStores
    simp only
    split
    · rfl
    · rename_i h1
      split
      · rfl
      · split
        · rfl
        · rename_i h3
          split
          · rfl
          · rename_i h4
            exfalso
            rcases Bool.or_eq_true_iff.mp h with h | h
            · rcases Bool.or_eq_true_iff.mp h with h | h
              · obtain ⟨t, ht, hn⟩ := List.any_eq_true.mp h
                refine h3 ?_
                rw [Bool.or_eq_true_iff]
                left
                rw [bne_iff_ne]
                exact Nat.ne_of_lt (filt_lt ⟨t, ht, by
                  cases t with
                  | Name n px =>
                    have hn : (!(env.scope.names.lookup n == some .local)) = true := hn
                    have hk : (env.kindOf n == some .local) = false := by
                      have q : (env.scope.names.lookup n == some .local) = false := by simpa using hn
                      exact q
                    simp [hk]
                  | _ => rfl⟩)
              · exact h4 h
            · refine h1 ?_
              rw [h]
              simp
  | _ => rfl
theorem swN_sub {a b : Expr} {tp : Pos} {v : Expr} {env : Env} : swappedStores [.Subscript a b tp] v env = pure none := by
  cases v <;> rfl
def isLc : IE → Bool
  | .lc _ _ _ _ _ => true
  | .nr (.lc _ _ _ _ _) => true
  | .lc2 _ _ _ _ _ _ _ _ => true
  | .nr (.lc2 _ _ _ _ _ _ _ _) => true
  | _ => false
def isN2 : Expr → Bool
  | .Constant .none _ _ => true
  | _ => false
def kindF (C : Ct) : Bool := match C.sc.kind with
  | .function => true
  | _ => false
def locOk (C : Ct) (i : Nat) (n : Str) : Bool := decide (C.N[i]? = some n) && decide (C.sc.names.lookup n = some .local)
/-- isinstance of n, as written -/
def okIsi (C : Ct) (T : Tab) (n : Str) : Expr → Bool
  | .Call (.Name f _) [.Name m _, .Name t _] [] _ => decide (f = ("isinstance" : Str)) && decide (m = n) && decide (t = ("ValueError" : Str)) && C.glo "isinstance" && C.glo "ValueError" && T.frees.contains "isinstance" && T.frees.contains "ValueError"
  | _ => false
def okSu (C : Ct) (T : Tab) (n : Str) (j : Nat) : IH → Stmt → Bool
  | .isi, .Assign [.Name m _] e _ => C.sto j m && okIsi C T n e
  | .lst [some z, none], .Assign [.Name m _] (.List [.Constant (.str y) _ _, e] _) _ => C.sto j m && decide (y = z) && okIsi C T n e
  | .ife a b, .Assign [.Name m _] (.IfExp e (.Constant (.str y) _ _) (.Constant (.str z) _ _) _) _ => C.sto j m && decide (y = a) && decide (z = b) && okIsi C T n e
  | _, _ => false
def okH1 (C : Ct) (T : Tab) : Hx → ExceptHandler → Bool
  | (cl, i, j, x), .ExceptHandler (some (.Name cn _)) (some n) [st] _ => T.xcs.contains (cn, cl) && C.glo cn && plainName cn && locOk C i n && C.vis n && plainName n && decide (i ≠ j) && okSu C T n j x st
  | _, _ => false
def okHs (C : Ct) (T : Tab) : List Hx → List ExceptHandler → Bool
  | [], [] => true
  | h :: hs, e :: es => okH1 C T h e && okHs C T hs es
  | _, _ => false
mutual
def okS (T : Tab) : IS → Ct → Stmt → Bool
  | .xx, _, _ => true
  | .asg t e, C, st => (match st with
    | .Assign [tg] v _ => (match t with
      | .nm i => (match tg with
        | .Name n px => C.sto i n && okX T e C false v && (sw0 v || (match v with
          | .ListComp _ _ _ _ => !swB C.sc n px v || (isLc e && locOk C i n)
          | _ => false))
        | _ => false)
      | .tp ts => (match tg with
        | .Tuple xs kk tp => sw0 v && swOk C.sc xs v && okX T e C false v && okG T (.tp ts) C (.Tuple xs kk tp)
        | _ => false)
      | .sub o i => (match tg with
        | .Subscript a b tp => sw0 v && okX T e C false v && okG T (.sub o i) C (.Subscript a b tp)
        | _ => false))
    | _ => false)
  | .par is es, C, st => (match st with
    | .Assign [.Tuple [.Name x px, .Name y py] _ _] (.Tuple vs _ _) _ => (match is with
      | [i, j] => locOk C i x && locOk C j y && decide (x ≠ y) && decide (i ≠ j) && decide (py.line = px.line) && decide (vs.length = 2) && !(vs.all (foldedForSure 8)) && !(vs.all (constantsAlone 8)) && okL T es C vs
      | _ => false)
    | .Assign [.Tuple [.Name x px, .Name y py, .Name z pz] _ _] (.Tuple vs _ _) _ => (match is with
      | [i, j, m] => locOk C i x && locOk C j y && locOk C m z && decide (x ≠ y) && decide (x ≠ z) && decide (y ≠ z) && decide (i ≠ j) && decide (i ≠ m) && decide (j ≠ m) && decide (py.line = px.line) && decide (pz.line = px.line) && decide (vs.length = 3) && !(vs.all (foldedForSure 8)) && !(vs.all (constantsAlone 8)) && okL T es C vs
      | _ => false)
    | _ => false)
  | .aug i o e, C, st => (match st with
    | .AugAssign (.Name n _) op v _ => C.sto i n && okX T e C false v && (match o with
      | .add => decide (op = .Add)
      | .sub => decide (op = .Sub)
      | _ => false)
    | _ => false)
  | .ex e, C, st => (match st with
    | .Expr v _ => sw0 v && okX T e C false v
    | .Pass _ => (match e with
      | .c .non => true
      | _ => false)
    | _ => false)
  | .ifs c a b, C, st => (match st with
    | .If x ys zs _ => okX T c C true x && okSs T a C ys && okSs T b C zs
    | _ => false)
  | .fors t it b, C, st => (match st with
    | .For tg iter ys [] _ => loopT t && notSet iter && okI T it C tg iter && okG T t C tg && okSs T b C ys
    | _ => false)
  | .whl c b, C, st => (match st with
    | .While x ys [] _ => okX T c C true x && okSs T b C ys
    | _ => false)
  | .ret e, C, st => (match st with
    | .Return (some v) _ => okX T e C false v
    | .Return none _ => (match e with
      | .c .non => true
      | _ => false)
    | _ => false)
  | .brk, _, st => (match st with
    | .Break _ => true
    | _ => false)
  | .cnt, _, st => (match st with
    | .Continue _ => true
    | _ => false)
  | .rse i x es, C, st => (match es with
    | .nil => (match st with
      | .Raise (some (.Call (.Name n _) [] [] _)) none _ => decide (n = x) && T.xcs.contains (x, i) && C.glo n && plainName n
      | _ => false)
    | _ => false)
  | .tr ks b hs, C, st => (match st with
    | .Try body (e :: es) [] [] _ => okSs T b C body && okHs C T hs (e :: es) && (ks.all fun k => T.xcs.any fun q => q.2 == k)
    | _ => false)
  | .fz _, _, _ => false
  | .kput cl o y k e, C, st => (match st with
    | .Assign [.Subscript (.Attribute a n _) i _] v _ => sw0 v && decide (n = y) && noC0 a && T.flds.contains (cl, y) && okX T o C false a && okX T k C false i && okX T e C false v
    | _ => false)
def okSs (T : Tab) : ISs → Ct → List Stmt → Bool
  | .nil, _, sts => sts.isEmpty
  | .cons s ss, C, sts => (match s with
    | .fz _ => okSs T ss C sts
    | s => (match sts with
      | y :: ys => okS T s C y && okSs T ss C ys
      | [] => false))
end
section
variable {T : Tab} {g : GS} {c : CC} {lv : Nat} {C : Ct} {W : WX} {X : Cx}
theorem GoodS.lo (G : GoodS T g c lv C W X) {i : Nat} {n : Str} (h : locOk C i n = true) : X.N[i]? = some n ∧ X.env.scope.names.lookup n = some .local := by
  unfold locOk at h
  simp only [Bool.and_eq_true, decide_eq_true_eq] at h
  rw [G.hN, G.sc]
  exact h
theorem lc_parts {t1 : Tg} {it : II} {k : IO} {e : IE} {own : List (Str × Nat)} {b : Bool} {v : Expr} (h : okX T (.lc t1 it k e own) C b v = true) : ∃ elt tg iter ifs scope pos, v = .ListComp elt [⟨tg, iter, ifs, 0⟩] scope pos ∧ blkC C.N C.sc scope own = true ∧ loopT t1 = true ∧ (∀ i ∈ tgN t1, i ∈ own.map (·.2)) ∧ notSet iter = true ∧ okI T it C tg iter = true ∧ okG T t1 (C.blk scope) tg = true ∧ okK T k (C.blk scope) ifs = true ∧ okX T e (C.blk scope) false elt = true := by
  rw [okX.eq_def] at h
  dsimp only at h
  split at h
  · rename_i elt tg iter ifs a scope pos
    simp only [Bool.and_eq_true, decide_eq_true_eq] at h
    obtain ⟨⟨⟨⟨⟨⟨⟨⟨rfl, h1⟩, h2⟩, h3⟩, h4⟩, h5⟩, h6⟩, h7⟩, h8⟩ := h
    exact ⟨_, _, _, _, _, _, rfl, h1, h2, fun i hi => by simpa using List.all_eq_true.mp h3 i hi, h4, h5, h6, h7, h8⟩
  · cases h
theorem set_lc (G : GoodS T g c lv C W X) {t1 : Tg} {it : II} {k : IO} {e : IE} {own : List (Str × Nat)} {v : Expr} (h : okX T (.lc t1 it k e own) C false v = true) {i : Nat} {n : Str} {px pos : Pos} (hl : locOk C i n = true) (hs : swB C.sc n px v = true) {f' : EvE} (hte : ∀ {σ H Q}, rdE g W f' σ H Q → rdE g W (evE c (.lc t1 it k e own)) σ H Q) :
    PS X (.Assign [.Name n px] v pos) (RDS g W (sAsg f' (gNm i))) := by
  obtain ⟨elt, tg, iter, ifs, scope, p2, rfl, h1, h2, h3, h4, h5, h6, h7, h8⟩ := lc_parts h
  obtain ⟨l1, l2⟩ := G.lo hl
  have hsw : swapsWith (.ListComp elt [⟨tg, iter, ifs, 0⟩] scope p2) (some (.Name n px)) pos.line X.env = pure true := by
    rw [swB_ok (by rw [G.sc]; exact G.hk), G.sc, hs]
  rw [evE] at hte
  refine PS.imp (ps_setLc (g := GD1 g (tgN t1) (evT1 c t1)) (tt := rdB g W0 (evK c k)) (te := rdS g W0 (sE (evE c e))) (wi := rdI g W (evI c it)) G.calm G.nd l1 l2 hsw (okI_ok it G.toGood h5) (by rw [G.hN, G.sc]; exact blkOk_by h1) (fun s H A cl fp => (okG_ok t1 (G.toGood.blk s H scope A cl fp) h6).2 h2) (fun s H A cl fp => okK_ok k (G.toGood.blk s H scope A cl fp) h7) (fun s H A cl fp => pe_s ((okX_ok e (G.toGood.blk s H scope A cl fp) h8).1 rfl)) (fold_ns h4)) fun D σ H q => set_rd (fun q => lc_rd h3 (hte q)) q
theorem set_lc2 (G : GoodS T g c lv C W X) {tt t1 : Tg} {it it1 : II} {k k1 : IO} {e : IE} {own : List (Str × Nat)} {v : Expr} (h : okX T (.lc2 tt it k t1 it1 k1 e own) C false v = true) {i : Nat} {n : Str} {px pos : Pos} (hl : locOk C i n = true) (hs : swB C.sc n px v = true) {f' : EvE} (hte : ∀ {σ H Q}, rdE g W f' σ H Q → rdE g W (evE c (.lc2 tt it k t1 it1 k1 e own)) σ H Q) :
    PS X (.Assign [.Name n px] v pos) (RDS g W (sAsg f' (gNm i))) := by
  rw [okX.eq_def] at h
  dsimp only at h
  split at h
  · rename_i elt tg iter ifs a tg1 iter1 ifs1 a1 scope p2
    simp only [Bool.and_eq_true, decide_eq_true_eq] at h
    obtain ⟨⟨⟨⟨⟨⟨⟨⟨⟨⟨⟨⟨⟨⟨⟨rfl, rfl⟩, h1⟩, h2⟩, h2'⟩, h3⟩, h3'⟩, h4⟩, h4'⟩, h5⟩, h6⟩, h7⟩, h8⟩, h9⟩, h10⟩, h11⟩ := h
    obtain ⟨l1, l2⟩ := G.lo hl
    have hsw : swapsWith (.ListComp elt [⟨tg, iter, ifs, 0⟩, ⟨tg1, iter1, ifs1, 0⟩] scope p2) (some (.Name n px)) pos.line X.env = pure true := by
      rw [swB_ok (by rw [G.sc]; exact G.hk), G.sc, hs]
    have Gt := G.toGood
    rw [evE] at hte
    exact ps_setLc22 Gt.calm Gt.nd l1 l2 hsw (okI_ok it Gt h5) (by rw [Gt.hN, Gt.sc]; exact blkOk_by h1) (fun i hi => by simpa using List.all_eq_true.mp h3 i hi) (fun i hi => hi) (fun i hi => by simpa using List.all_eq_true.mp h3' i hi)
      (fun s H A cl fp => (okG_ok tt (Gt.blk s H scope A cl fp) h6).2 h2) (fun s H A cl fp => okK_ok k (Gt.blk s H scope A cl fp) h7) (fun s H A cl fp => okI_ok it1 (Gt.blk s H scope A cl fp) h8) (fun s H A cl fp => (okG_ok t1 (Gt.blk s H scope A cl fp) h9).2 h2') (fun s H A cl fp => okK_ok k1 (Gt.blk s H scope A cl fp) h10)
      (fun s H A cl fp => (okX_ok e (Gt.blk s H scope A cl fp) h11).1 rfl) (fold_ns h4) (fun env => fold_ns h4') hte
  · cases h
theorem okIsi_ok {n : Str} {e : Expr} (h : okIsi C T n e = true) : ∃ p p1 p2 pos, e = eIsi n p p1 p2 pos ∧ C.glo "isinstance" = true ∧ C.glo "ValueError" = true ∧ ("isinstance" : Str) ∈ T.frees ∧ ("ValueError" : Str) ∈ T.frees := by
  unfold okIsi at h
  split at h
  · rename_i f p m p1 t p2 pos
    simp only [Bool.and_eq_true, decide_eq_true_eq] at h
    obtain ⟨⟨⟨⟨⟨⟨rfl, rfl⟩, rfl⟩, h4⟩, h5⟩, h6⟩, h7⟩ := h
    exact ⟨p, p1, p2, pos, rfl, h4, h5, by simpa using h6, by simpa using h7⟩
  · cases h
theorem okH1_ok (G : GoodS T g c lv C W X) {h : Hx} {e : ExceptHandler} (ok : okH1 C T h e = true) : Cls1 X g h e ∧ ∃ cn, (cn, h.1) ∈ T.xcs := by
  obtain ⟨cl, i, j, x⟩ := h
  unfold okH1 at ok
  split at ok
  · rename_i cl' i' j' x' cn np n st p3 heq
    cases heq
    simp only [Bool.and_eq_true, decide_eq_true_eq] at ok
    obtain ⟨⟨⟨⟨⟨⟨⟨h1, h2⟩, h3⟩, h4⟩, h5⟩, h6⟩, h7⟩, h8⟩ := ok
    have m1 : (cn, cl) ∈ T.xcs := by simpa using h1
    obtain ⟨q1, _, q3⟩ := G.xcs cn cl m1
    obtain ⟨l1, l2⟩ := G.lo h4
    have nm : Names X cn (.ref (g.ca cl)) := ⟨G.gl h2, (pn h3).1, .inl q1⟩
    have su : ∀ {m : Str}, C.sto j m = true → C.glo "isinstance" = true → C.glo "ValueError" = true → ("isinstance" : Str) ∈ T.frees → ("ValueError" : Str) ∈ T.frees → SuOk X n m i j := fun s1 s2 s3 s4 s5 =>
      ⟨G.nd, l1, G.vs h5, (pn h6).1, (pn h6).2, G.gl s2, G.frees _ s4, G.gl s3, G.frees _ s5, G.st s1⟩
    refine ⟨?_, cn, m1⟩
    unfold okSu at h8
    split at h8
    · obtain ⟨s0, s1⟩ := Bool.and_eq_true_iff.mp h8
      obtain ⟨p, p1, p2, pos, rfl, t1, t2, t3, t4⟩ := okIsi_ok s1
      exact .a nm l2 h7 (su s0 t1 t2 t3 t4) q3
    · simp only [Bool.and_eq_true, decide_eq_true_eq] at h8
      obtain ⟨⟨s0, rfl⟩, s1⟩ := h8
      obtain ⟨p, p1, p2, pos, rfl, t1, t2, t3, t4⟩ := okIsi_ok s1
      exact .b nm l2 h7 (su s0 t1 t2 t3 t4) q3
    · simp only [Bool.and_eq_true, decide_eq_true_eq] at h8
      obtain ⟨⟨⟨s0, rfl⟩, rfl⟩, s1⟩ := h8
      obtain ⟨p, p1, p2, pos, rfl, t1, t2, t3, t4⟩ := okIsi_ok s1
      exact .c nm l2 h7 (su s0 t1 t2 t3 t4) q3
    · cases h8
  · cases ok
theorem okHs_ok (G : GoodS T g c lv C W X) : ∀ {hs : List Hx} {es : List ExceptHandler}, okHs C T hs es = true → Clss X g hs es
  | [], [], _ => .nil
  | [], _ :: _, h => by cases h
  | _ :: _, [], h => by cases h
  | h :: hs, e :: es, ok => by
    obtain ⟨o1, o2⟩ := Bool.and_eq_true_iff.mp (show (okH1 C T h e && okHs C T hs es) = true from ok)
    exact .cons (okH1_ok G o1).1 (okHs_ok G o2)
theorem okH1_in {h : Hx} {e : ExceptHandler} (ok : okH1 C T h e = true) : ∃ cn, (cn, h.1) ∈ T.xcs := by
  obtain ⟨cl, i, j, x⟩ := h
  unfold okH1 at ok
  split at ok
  · rename_i cl' i' j' x' cn np n st p3 heq
    cases heq
    simp only [Bool.and_eq_true, decide_eq_true_eq] at ok
    exact ⟨cn, by simpa using ok.1.1.1.1.1.1.1⟩
  · cases ok
theorem okHs_in : ∀ {hs : List Hx} {es : List ExceptHandler}, okHs C T hs es = true → ∀ h ∈ hs, ∃ cn, (cn, h.1) ∈ T.xcs
  | [], _, _, h, hm => by cases hm
  | _ :: _, [], ok, _, _ => by cases ok
  | h0 :: hs, e :: es, ok, h, hm => by
    obtain ⟨o1, o2⟩ := Bool.and_eq_true_iff.mp (show (okH1 C T h0 e && okHs C T hs es) = true from ok)
    rcases List.mem_cons.mp hm with rfl | hm
    · exact okH1_in o1
    · exact okHs_in o2 h hm
end
variable {T : Tab} {g : GS}
set_option maxHeartbeats 2000000 in
mutual
theorem okS_ok : ∀ (s : IS) {c : CC} {lv : Nat} {C : Ct} {W : WX} {X : Cx} {st : Stmt} (n : Nat), GoodS T g c lv C W X → okS T s C st = true → PS X st (RDS g W (evS c n s))
  | .xx, c, lv, C, W, X, st, n, G, h => ⟨fun _ _ _ _ _ _ ⟨_, _, _, _, _, _, cd⟩ => by rw [evS] at cd; exact cd.elim⟩
  | .asg t e, c, lv, C, W, X, st, n, G, h => by
    rw [okS.eq_def] at h
    dsimp only at h
    split at h
    · rename_i tg v pos
      split at h
      · rename_i i
        split at h
        · rename_i nm px
          simp only [Bool.and_eq_true] at h
          obtain ⟨⟨h1, h2⟩, h3⟩ := h
          have he := (okX_ok e G.toGood h2).1 rfl
          have st := G.st h1
          rw [evS, evG]
          rcases Bool.or_eq_true_iff.mp h3 with h3 | h3
          · exact ps_set2 G.nd st he (sw0_ok h3 _ _ _)
          · split at h3
            · rename_i elt gs scope p2 _
              rcases Bool.or_eq_true_iff.mp h3 with h3 | h3
              · refine ps_set2 G.nd st he ?_
                rw [swB_ok (by rw [G.sc]; exact G.hk), G.sc]
                rw [show swB C.sc nm px (.ListComp elt gs scope p2) = false by simpa using h3]
              · cases hsw : swB C.sc nm px (.ListComp elt gs scope p2) with
                | false =>
                  refine ps_set2 G.nd st he ?_
                  rw [swB_ok (by rw [G.sc]; exact G.hk), G.sc, hsw]
                | true =>
                  obtain ⟨h4, h5⟩ := Bool.and_eq_true_iff.mp h3
                  unfold isLc at h4
                  split at h4
                  · exact set_lc G h2 h5 hsw fun q => q
                  · rename_i a b cc dd ee _ _
                    have h6 : okX T (.lc a b cc dd ee) C false (.ListComp elt gs scope p2) = true := by
                      have := h2
                      rw [okX.eq_def] at this
                      simp only [Bool.and_eq_true] at this
                      exact this.2
                    exact set_lc G h6 h5 hsw (f' := evE c (.nr (.lc a b cc dd ee))) fun q => by
                      rw [evE.eq_def] at q
                      exact nr_rd q
                  · exact set_lc2 G h2 h5 hsw fun q => q
                  · rename_i a0 b0 c0 d0 e0 f0 g0 k0 _ _
                    have h6 : okX T (.lc2 a0 b0 c0 d0 e0 f0 g0 k0) C false (.ListComp elt gs scope p2) = true := by
                      have := h2
                      rw [okX.eq_def] at this
                      simp only [Bool.and_eq_true] at this
                      exact this.2
                    exact set_lc2 G h6 h5 hsw (f' := evE c (.nr (.lc2 a0 b0 c0 d0 e0 f0 g0 k0))) fun q => by
                      rw [evE.eq_def] at q
                      exact nr_rd q
                  · cases h4
            · cases h3
        · cases h
      · rename_i ts
        split at h
        · rename_i xs kk tp
          simp only [Bool.and_eq_true] at h
          obtain ⟨⟨⟨h1, h2⟩, h3⟩, h4⟩ := h
          rw [evS]
          exact ps_asg2' ((okX_ok e G.toGood h3).1 rfl) (okG_ok (.tp ts) G.toGood h4).1 (sole_ok h1) (swOk_ok (by rw [G.sc]; exact h2)) rfl
        · cases h
      · rename_i o i
        split at h
        · rename_i a b tp
          simp only [Bool.and_eq_true] at h
          obtain ⟨⟨h1, h2⟩, h3⟩ := h
          rw [evS]
          exact ps_asg2' ((okX_ok e G.toGood h2).1 rfl) (okG_ok (.sub o i) G.toGood h3).1 (sole_ok h1) swN_sub rfl
        · cases h
    · cases h
  | .par is es, c, lv, C, W, X, st, n, G, h => by
    rw [okS.eq_def] at h
    dsimp only at h
    split at h
    · rename_i x px y py kk tp vs k2 p2 pos
      split at h
      · rename_i i j
        simp only [Bool.and_eq_true, decide_eq_true_eq] at h
        obtain ⟨⟨⟨⟨⟨⟨⟨⟨h1, h2⟩, h3⟩, h4⟩, h5⟩, h6⟩, h7⟩, h8⟩, h9⟩ := h
        rw [Bool.not_eq_true'] at h7 h8
        obtain ⟨a1, a2⟩ := G.lo h1
        obtain ⟨b1, b2⟩ := G.lo h2
        obtain ⟨l1, l2, l3⟩ := okL_len (c := c) es h9
        have hl := okL_ok es G.toGood h9
        have hkf : X.env.scope.kind = .function := by rw [G.sc]; exact G.hk
        cases vs with
        | nil => cases h6
        | cons a vs =>
          cases vs with
          | nil => cases h6
          | cons b vs =>
            cases vs with
            | cons _ _ => simp at h6
            | nil =>
              rw [evS]
              exact PS.imp (ps_par G.calm G.nd a1 b1 h4 a2 b2 hl (sw_par2 hkf a2 b2 h5 h3 l2 h7 h8) (sole_ok (v := .Tuple _ _ _) rfl)) fun D σ H q => par_rd2 q
      · cases h
    · rename_i x px y py z pz kk tp vs k2 p2 pos
      split at h
      · rename_i i j m
        simp only [Bool.and_eq_true, decide_eq_true_eq] at h
        obtain ⟨⟨⟨⟨⟨⟨⟨⟨⟨⟨⟨⟨⟨⟨h1, h2⟩, h3⟩, d1⟩, d2⟩, d3⟩, d4⟩, d5⟩, d6⟩, h4⟩, h5⟩, h6⟩, h7⟩, h8⟩, h9⟩ := h
        rw [Bool.not_eq_true'] at h7 h8
        obtain ⟨a1, a2⟩ := G.lo h1
        obtain ⟨b1, b2⟩ := G.lo h2
        obtain ⟨c1, c2⟩ := G.lo h3
        obtain ⟨l1, l2, l3⟩ := okL_len (c := c) es h9
        have hl := okL_ok es G.toGood h9
        have hkf : X.env.scope.kind = .function := by rw [G.sc]; exact G.hk
        cases vs with
        | nil => cases h6
        | cons a vs =>
          cases vs with
          | nil => cases h6
          | cons b vs =>
            cases vs with
            | nil => cases h6
            | cons cc vs =>
              cases vs with
              | cons _ _ => simp at h6
              | nil =>
                rw [evS]
                exact PS.imp (L2.ps_par3 G.calm G.nd a1 b1 c1 d4 d5 d6 a2 b2 c2 hl (sw_par3 hkf a2 b2 c2 h4 h5 d1 d2 d3 l2 h7 h8) (sole_ok (v := .Tuple _ _ _) rfl)) fun D σ H q => par_rd3 q
      · cases h
    · cases h
  | .aug i o e, c, lv, C, W, X, st, n, G, h => by
    rw [okS.eq_def] at h
    dsimp only at h
    split at h
    · rename_i nm px op v pos
      simp only [Bool.and_eq_true] at h
      obtain ⟨⟨h1, h2⟩, h3⟩ := h
      have he := (okX_ok e G.toGood h2).1 rfl
      have st := G.st h1
      rw [evS]
      split at h3
      · have : op = .Add := by simpa using h3
        subst this
        exact PS.imp (ps_aug G.nd st.at_ st.loc (pe_s he) ip_add st.fn) fun D σ H q => aug_rd (fun _ _ _ => rfl) q
      · have : op = .Sub := by simpa using h3
        subst this
        exact PS.imp (ps_aug G.nd st.at_ st.loc (pe_s he) ip_sub st.fn) fun D σ H q => aug_rd (fun _ _ _ => rfl) q
      · cases h3
    · cases h
  | .ex e, c, lv, C, W, X, st, n, G, h => by
    rw [okS.eq_def] at h
    dsimp only at h
    split at h
    · obtain ⟨h1, h2⟩ := Bool.and_eq_true_iff.mp h
      rw [evS]
      exact ps_expr2 ((okX_ok e G.toGood h2).1 rfl) (sw0_ok h1 _ _ _)
    · split at h
      · rw [evS, evE]
        exact ps_pass2
      · cases h
    · cases h
  | .ifs q a b, c, lv, C, W, X, st, n, G, h => by
    rw [okS.eq_def] at h
    dsimp only at h
    split at h
    · simp only [Bool.and_eq_true] at h
      obtain ⟨⟨h1, h2⟩, h3⟩ := h
      rw [evS]
      exact ps_if2 ((okX_ok q G.toGood h1).2 rfl).1 (okSs_ok a n G h2) (okSs_ok b n G h3)
    · cases h
  | .fors t it b, c, lv, C, W, X, st, n, G, h => by
    rw [okS.eq_def] at h
    dsimp only at h
    split at h
    · simp only [Bool.and_eq_true] at h
      obtain ⟨⟨⟨⟨h1, h2⟩, h3⟩, h4⟩, h5⟩ := h
      rw [evS]
      exact ps_for2 G.hp G.calm (okI_ok it G.toGood h3) ((okG_ok t G.toGood h4).2 h1) (okSs_ok b n G h5) (fold_ns h2)
    · cases h
  | .whl q b, c, lv, C, W, X, st, n, G, h => by
    rw [okS.eq_def] at h
    dsimp only at h
    split at h
    · simp only [Bool.and_eq_true] at h
      rw [evS]
      exact ps_whl2 G.hp ((okX_ok q G.toGood h.1).2 rfl).1 (okSs_ok b n G h.2) n
    · cases h
  | .ret e, c, lv, C, W, X, st, n, G, h => by
    rw [okS.eq_def] at h
    dsimp only at h
    split at h
    · rw [evS]
      exact ps_ret2 ((okX_ok e G.toGood h).1 rfl)
    · split at h
      · rw [evS, evE]
        exact ps_retN2
      · cases h
    · cases h
  | .brk, c, lv, C, W, X, st, n, G, h => by
    rw [okS.eq_def] at h
    dsimp only at h
    split at h
    · rw [evS]; exact ps_brk2
    · cases h
  | .cnt, c, lv, C, W, X, st, n, G, h => by
    rw [okS.eq_def] at h
    dsimp only at h
    split at h
    · rw [evS]; exact ps_cnt2
    · cases h
  | .rse i x es, c, lv, C, W, X, st, n, G, h => by
    rw [okS.eq_def] at h
    dsimp only at h
    split at h
    · split at h
      · simp only [Bool.and_eq_true, decide_eq_true_eq] at h
        obtain ⟨⟨⟨rfl, h2⟩, h3⟩, h4⟩ := h
        obtain ⟨q1, q2, _⟩ := G.xcs _ i (by simpa using h2)
        rw [evS, evL]
        exact ps_rse q2 q1 (G.gl h3) (pn h4).1 G.calm G.tk
      · cases h
    · cases h
  | .tr ks b hs, c, lv, C, W, X, st, n, G, h => by
    rw [okS.eq_def] at h
    dsimp only at h
    split at h
    · simp only [Bool.and_eq_true] at h
      obtain ⟨⟨h1, h2⟩, h3⟩ := h
      rw [evS]
      refine ps_tr2 G.stk G.frm G.nd G.tk (fun W' pn xe tk hp => okSs_ok b n (G.tr tk hp) h1) (okHs_ok G h2) fun k hk hh hm => ?_
      obtain ⟨q, q1, q2⟩ := List.any_eq_true.mp (List.all_eq_true.mp h3 k hk)
      obtain ⟨cn, m1⟩ := okHs_in h2 hh hm
      have : q.2 = k := by simpa using q2
      subst this
      exact G.xms q.1 q.2 cn hh.1 q1 m1
    · cases h
  | .fz _, c, lv, C, W, X, st, n, G, h => by rw [okS] at h; cases h
  | .kput cl o y k e, c, lv, C, W, X, st, n, G, h => by
    rw [okS.eq_def] at h
    dsimp only at h
    split at h
    · simp only [Bool.and_eq_true, decide_eq_true_eq] at h
      obtain ⟨⟨⟨⟨⟨⟨h1, rfl⟩, h2⟩, h3⟩, h4⟩, h5⟩, h6⟩ := h
      obtain ⟨c1, c2⟩ := G.flds cl _ (by simpa using h3)
      have hu : X.A.units + 1 < cLine := by have := G.u; omega
      rw [evS]
      exact ps_kput2 hu c1 c2 h2 ((okX_ok e G.toGood h6).1 rfl) ((okX_ok o G.toGood h4).1 rfl) ((okX_ok k G.toGood h5).1 rfl) (sw0_ok h1 _ _ _)
    · cases h
theorem okSs_ok : ∀ (ss : ISs) {c : CC} {lv : Nat} {C : Ct} {W : WX} {X : Cx} {sts : List Stmt} (n : Nat), GoodS T g c lv C W X → okSs T ss C sts = true → PSs X sts (RDS g W (evSs c n ss))
  | .nil, c, lv, C, W, X, sts, n, G, h => by
    rw [okSs.eq_def] at h
    dsimp only at h
    cases sts with
    | nil => rw [evSs]; exact pss_nil2
    | cons _ _ => cases h
  | .cons s ss, c, lv, C, W, X, sts, n, G, h => by
    rw [okSs.eq_def] at h
    dsimp only at h
    split at h
    · rename_i i
      rw [evSs, evS]
      exact pss_fz (i := i) (okSs_ok ss n G h)
    · split at h
      · simp only [Bool.and_eq_true] at h
        rw [evSs]
        exact pss_cons2 (okS_ok s n G h.1) (okSs_ok ss n G h.2)
      · cases h
end
end VM

namespace VM
open PySem
/-! The evaluator step by step: first-order equations, what is behind a dot waits for what is ahead. -/
def rdV : Option (Option S) → Hs → Rs RV
  | some (some (.v u)), h => .ok (.v u) h
  | some (some (.r n)), h => .ok (.r n) h
  | _, _ => .bad
def item : Rs RV → Rs S
  | .ok r h => oneS h r
  | .ex e h => .ex e h
  | .bad => .bad
def tst : Rs S → Rs Bool
  | .ok x h => ofO h (truS h x)
  | .ex e h => .ex e h
  | .bad => .bad
def ofB (h : Hs) : Option Bool → Rs RV
  | some b => .ok (.v (.bl b)) h
  | none => .bad
def bin2 (o : BO) (x : S) : Rs S → Rs RV
  | .ok y h => ofO h (binS o h x y)
  | .ex e h => .ex e h
  | .bad => .bad
def bin1 (o : BO) (g : EvE) (ρ : Rho) : Rs S → Rs RV
  | .ok x h => bin2 o x (sE g ρ h)
  | .ex e h => .ex e h
  | .bad => .bad
def cmp2 (o : CO) (x : S) : Rs S → Rs RV
  | .ok y h => ofB h (cmpS o h x y)
  | .ex e h => .ex e h
  | .bad => .bad
def cmp1 (o : CO) (g : EvE) (ρ : Rho) : Rs S → Rs RV
  | .ok x h => cmp2 o x (sE g ρ h)
  | .ex e h => .ex e h
  | .bad => .bad
def ch4 (p : CO) (y : S) : Rs S → Rs RV
  | .ok z h => ofB h (cmpS p h y z)
  | .ex e h => .ex e h
  | .bad => .bad
def ch3 (p : CO) (y : S) (k : EvE) (ρ : Rho) (h : Hs) : Option Bool → Rs RV
  | some true => ch4 p y (sE k ρ h)
  | some false => .ok (.v (.bl false)) h
  | none => .bad
def ch2 (o p : CO) (x : S) (k : EvE) (ρ : Rho) : Rs S → Rs RV
  | .ok y h => ch3 p y k ρ h (cmpS o h x y)
  | .ex e h => .ex e h
  | .bad => .bad
def ch1 (o p : CO) (g k : EvE) (ρ : Rho) : Rs S → Rs RV
  | .ok x h => ch2 o p x k ρ (sE g ρ h)
  | .ex e h => .ex e h
  | .bad => .bad
def nt1 : Rs Bool → Rs RV
  | .ok b h => .ok (.v (.bl !b)) h
  | .ex e h => .ex e h
  | .bad => .bad
def truR (h : Hs) (r : RV) : Option Bool := match r.s with
  | some x => truS h x
  | none => none
def and2 (g : EvE) (ρ : Rho) (r : RV) (h : Hs) : Option Bool → Rs RV
  | some true => g ρ h
  | some false => .ok r h
  | none => .bad
def and1 (g : EvE) (ρ : Rho) : Rs RV → Rs RV
  | .ok r h => and2 g ρ r h (truR h r)
  | .ex e h => .ex e h
  | .bad => .bad
def or2 (g : EvE) (ρ : Rho) (r : RV) (h : Hs) : Option Bool → Rs RV
  | some true => .ok r h
  | some false => g ρ h
  | none => .bad
def or1 (g : EvE) (ρ : Rho) : Rs RV → Rs RV
  | .ok r h => or2 g ρ r h (truR h r)
  | .ex e h => .ex e h
  | .bad => .bad
def ife1 (f g : EvE) (ρ : Rho) : Rs Bool → Rs RV
  | .ok true h => f ρ h
  | .ok false h => g ρ h
  | .ex e h => .ex e h
  | .bad => .bad
def tup2 (h : Hs) : Option (List U) → Rs RV
  | some us => if us.length ≤ lim then .ok (.v (.tup us)) h else .bad
  | none => .bad
def tup1 : Rs (List S) → Rs RV
  | .ok ss h => tup2 h (allU ss)
  | .ex e h => .ex e h
  | .bad => .bad
def lst2 (h : Hs) : Option (List U) → Rs RV
  | some us => if us.length ≤ lim then .ok (.nw (.lst us)) h else .bad
  | none => .bad
def lst1 : Rs (List S) → Rs RV
  | .ok ss h => lst2 h (allU ss)
  | .ex e h => .ex e h
  | .bad => .bad
def neg1 : Rs S → Rs RV
  | .ok (.v (.int i)) h => .ok (.v (.int (-i))) h
  | .ok _ _ => .bad
  | .ex e h => .ex e h
  | .bad => .bad
def idx2 (x : S) : Rs S → Rs RV
  | .ok y h => ofO h (idxS h x y)
  | .ex e h => .ex e h
  | .bad => .bad
def idx1 (g : EvE) (ρ : Rho) : Rs S → Rs RV
  | .ok x h => idx2 x (sE g ρ h)
  | .ex e h => .ex e h
  | .bad => .bad
def slc3 (x : S) (l : Option Int) : Rs (Option Int) → Rs RV
  | .ok u h => ofO h (slcS h x l u)
  | .ex e h => .ex e h
  | .bad => .bad
def slc2 (x : S) (hi : EvO) (ρ : Rho) : Rs (Option Int) → Rs RV
  | .ok l h => slc3 x l (hi ρ h)
  | .ex e h => .ex e h
  | .bad => .bad
def slc1 (lo hi : EvO) (ρ : Rho) : Rs S → Rs RV
  | .ok x h => slc2 x hi ρ (lo ρ h)
  | .ex e h => .ex e h
  | .bad => .bad
def opt1 : Rs S → Rs (Option Int)
  | .ok x h => ofO h (intO x)
  | .ex e h => .ex e h
  | .bad => .bad
def rev1 : Rs S → Rs RV
  | .ok x h => ofO h (revS h x)
  | .ex e h => .ex e h
  | .bad => .bad
def nr1 : Rs RV → Rs RV
  | .ok (.nw o) h => .ok (.r h.length) (h ++ [o])
  | .ok (.r n) h => .ok (.r n) h
  | .ok (.v _) _ => .bad
  | .ex e h => .ex e h
  | .bad => .bad
def cons2 (s : S) : Rs (List S) → Rs (List S)
  | .ok ss h => .ok (s :: ss) h
  | .ex e h => .ex e h
  | .bad => .bad
def cons1 (g : EvL) (ρ : Rho) : Rs S → Rs (List S)
  | .ok s h => cons2 s (g ρ h)
  | .ex e h => .ex e h
  | .bad => .bad
def call3 (c : CC) (f : Nat) (h : Hs) : Option (List S) → Rs RV
  | some as => doCall c f as h
  | none => .bad
def call2 (c : CC) (f : Nat) (ki : List Nat) (ss : List S) : Rs (List S) → Rs RV
  | .ok kss h => call3 c f h (argsOf c f ss ki kss)
  | .ex e h => .ex e h
  | .bad => .bad
def call1 (c : CC) (f : Nat) (ki : List Nat) (g : EvL) (ρ : Rho) : Rs (List S) → Rs RV
  | .ok ss h => call2 c f ki ss (g ρ h)
  | .ex e h => .ex e h
  | .bad => .bad
def bi1 (b : BI) : Rs (List S) → Rs RV
  | .ok ss h => ofO h (bltS b h ss)
  | .ex e h => .ex e h
  | .bad => .bad
def isi2 (h : Hs) (ts : List Ty) : Option Nat → Rs RV
  | some t => .ok (.v (.bl (ts.any (isTy t)))) h
  | none => .bad
def isi1 (ts : List Ty) : Rs S → Rs RV
  | .ok x h => isi2 h ts (tyS h x)
  | .ex e h => .ex e h
  | .bad => .bad
def met2 (m : ME) (x : S) : Rs (List S) → Rs RV
  | .ok ss h => ofP (metS m h x ss)
  | .ex e h => .ex e h
  | .bad => .bad
def metG (m : ME) (x : S) (g : EvL) (ρ : Rho) (h : Hs) : Bool → Rs RV
  | true => met2 m x (g ρ h)
  | false => .bad
def met1 (m : ME) (g : EvL) (ρ : Rho) : Rs S → Rs RV
  | .ok x h => metG m x g ρ h (metT m h x)
  | .ex e h => .ex e h
  | .bad => .bad
def lc2 : Rs (List U) → Rs RV
  | .ok us h => .ok (.nw (.lst us)) h
  | _ => .bad
def lc1 (g : EvGs) (k : Rho → Hs → Rs Bool) (f : EvE) (own : List Nat) (ρ : Rho) : Rs (Src × Nat) → Rs RV
  | .ok p h => lc2 (compL p.1 g k f (wipeR ρ own) p.2 0 [] h)
  | .ex e h => .ex e h
  | .bad => .bad
section
variable (c : CC) (ρ : Rho) (h : Hs)
theorem e_s (f : EvE) : sE f ρ h = item (f ρ h) := by unfold sE; cases f ρ h <;> rfl
theorem e_t (f : EvE) : tE f ρ h = tst (sE f ρ h) := by unfold tE; cases sE f ρ h <;> rfl
theorem e_var (i : Nat) : evE c (.var i) ρ h = rdV ρ[i]? h := by
  rw [evE]; unfold vVar rdV
  split <;> simp_all
theorem e_c (u : U) : evE c (.c u) ρ h = .ok (.v u) h := by rw [evE]
theorem e_gl (x : Str) (u : U) : evE c (.gl x u) ρ h = .ok (.v u) h := by rw [evE]
theorem e_fn (x : Str) (f : Nat) : evE c (.fn x f) ρ h = .ok (.v (.fn f)) h := by rw [evE]
theorem e_bin (o : BO) (a b : IE) : evE c (.bin o a b) ρ h = bin1 o (evE c b) ρ (sE (evE c a) ρ h) := by
  rw [evE]; unfold vBin
  cases sE (evE c a) ρ h with
  | ok x h => show (sE (evE c b) ρ h).bind _ = bin2 o x (sE (evE c b) ρ h); cases sE (evE c b) ρ h <;> rfl
  | _ => rfl
theorem e_cmp (o : CO) (a b : IE) : evE c (.cmp o a b) ρ h = cmp1 o (evE c b) ρ (sE (evE c a) ρ h) := by
  rw [evE]; unfold vCmp
  cases sE (evE c a) ρ h with
  | ok x h =>
    show (sE (evE c b) ρ h).bind _ = cmp2 o x (sE (evE c b) ρ h)
    cases sE (evE c b) ρ h with
    | ok y h => show ofO h ((cmpS o h x y).map _) = ofB h (cmpS o h x y); cases cmpS o h x y <;> rfl
    | _ => rfl
  | _ => rfl
theorem e_ch (o p : CO) (a b d : IE) : evE c (.ch o p a b d) ρ h = ch1 o p (evE c b) (evE c d) ρ (sE (evE c a) ρ h) := by
  rw [evE]; unfold vCh
  cases sE (evE c a) ρ h with
  | ok x h =>
    show (sE (evE c b) ρ h).bind _ = ch2 o p x (evE c d) ρ (sE (evE c b) ρ h)
    cases sE (evE c b) ρ h with
    | ok y h =>
      show (match cmpS o h x y with
        | some true => (sE (evE c d) ρ h).bind fun z h => ofO h ((cmpS p h y z).map fun b => .v (.bl b))
        | some false => .ok (.v (.bl false)) h
        | none => .bad) = ch3 p y (evE c d) ρ h (cmpS o h x y)
      cases cmpS o h x y with
      | none => rfl
      | some b =>
        cases b with
        | false => rfl
        | true =>
          show (sE (evE c d) ρ h).bind _ = ch4 p y (sE (evE c d) ρ h)
          cases sE (evE c d) ρ h with
          | ok z h => show ofO h ((cmpS p h y z).map _) = ofB h (cmpS p h y z); cases cmpS p h y z <;> rfl
          | _ => rfl
    | _ => rfl
  | _ => rfl
theorem e_nt (a : IE) : evE c (.nt a) ρ h = nt1 (tE (evE c a) ρ h) := by rw [evE]; unfold vNt; cases tE (evE c a) ρ h <;> rfl
theorem e_and (a b : IE) : evE c (.and a b) ρ h = and1 (evE c b) ρ (evE c a ρ h) := by
  rw [evE]; unfold vAnd
  cases evE c a ρ h with
  | ok r h =>
    show (match r.s with
      | some x => match truS h x with
        | some true => evE c b ρ h
        | some false => .ok r h
        | none => .bad
      | none => .bad) = and2 (evE c b) ρ r h (truR h r)
    unfold truR
    cases r.s with
    | none => rfl
    | some x => dsimp only; cases truS h x with
      | none => rfl
      | some b => cases b <;> rfl
  | _ => rfl
theorem e_or (a b : IE) : evE c (.or a b) ρ h = or1 (evE c b) ρ (evE c a ρ h) := by
  rw [evE]; unfold vOr
  cases evE c a ρ h with
  | ok r h =>
    show (match r.s with
      | some x => match truS h x with
        | some true => .ok r h
        | some false => evE c b ρ h
        | none => .bad
      | none => .bad) = or2 (evE c b) ρ r h (truR h r)
    unfold truR
    cases r.s with
    | none => rfl
    | some x => dsimp only; cases truS h x with
      | none => rfl
      | some b => cases b <;> rfl
  | _ => rfl
theorem e_ife (t a b : IE) : evE c (.ife t a b) ρ h = ife1 (evE c a) (evE c b) ρ (tE (evE c t) ρ h) := by
  rw [evE]; unfold vIf
  cases tE (evE c t) ρ h with
  | ok d h => cases d <;> rfl
  | _ => rfl
theorem e_tup (es : IEs) : evE c (.tup es) ρ h = tup1 (evL c es ρ h) := by
  rw [evE]; unfold vTup usE
  cases evL c es ρ h with
  | ok ss h => show (ofO h (allU ss)).bind _ = tup2 h (allU ss); cases allU ss <;> rfl
  | _ => rfl
theorem e_lst (es : IEs) : evE c (.lst es) ρ h = lst1 (evL c es ρ h) := by
  rw [evE]; unfold vLst usE
  cases evL c es ρ h with
  | ok ss h => show (ofO h (allU ss)).bind _ = lst2 h (allU ss); cases allU ss <;> rfl
  | _ => rfl
theorem e_neg (a : IE) : evE c (.neg a) ρ h = neg1 (sE (evE c a) ρ h) := by
  rw [evE]; unfold vNeg
  cases sE (evE c a) ρ h with
  | ok x h => cases x with
    | r n => rfl
    | v u => cases u <;> rfl
  | _ => rfl
theorem e_idx (a b : IE) : evE c (.idx a b) ρ h = idx1 (evE c b) ρ (sE (evE c a) ρ h) := by
  rw [evE]; unfold vIdx
  cases sE (evE c a) ρ h with
  | ok x h => show (sE (evE c b) ρ h).bind _ = idx2 x (sE (evE c b) ρ h); cases sE (evE c b) ρ h <;> rfl
  | _ => rfl
theorem e_slc (a : IE) (lo hi : IO) : evE c (.slc a lo hi) ρ h = slc1 (evO c lo) (evO c hi) ρ (sE (evE c a) ρ h) := by
  rw [evE]; unfold vSlc
  cases sE (evE c a) ρ h with
  | ok x h =>
    show (evO c lo ρ h).bind _ = slc2 x (evO c hi) ρ (evO c lo ρ h)
    cases evO c lo ρ h with
    | ok l h => show (evO c hi ρ h).bind _ = slc3 x l (evO c hi ρ h); cases evO c hi ρ h <;> rfl
    | _ => rfl
  | _ => rfl
theorem e_on : evO c .none ρ h = .ok none h := by rw [evO]
theorem e_os (e : IE) : evO c (.some e) ρ h = opt1 (sE (evE c e) ρ h) := by rw [evO]; unfold vO; cases sE (evE c e) ρ h <;> rfl
theorem e_rev (a : IE) : evE c (.rev a) ρ h = rev1 (sE (evE c a) ρ h) := by rw [evE]; unfold vRev; cases sE (evE c a) ρ h <;> rfl
theorem e_nr (a : IE) : evE c (.nr a) ρ h = nr1 (evE c a ρ h) := by
  rw [evE]; unfold vNr
  cases evE c a ρ h with
  | ok r h => cases r <;> rfl
  | _ => rfl
theorem e_nil : evL c .nil ρ h = .ok [] h := by rw [evL]; rfl
theorem e_cons (e : IE) (es : IEs) : evL c (.cons e es) ρ h = cons1 (evL c es) ρ (sE (evE c e) ρ h) := by
  rw [evL]; unfold vCons
  cases sE (evE c e) ρ h with
  | ok s h => show (evL c es ρ h).bind _ = cons2 s (evL c es ρ h); cases evL c es ρ h <;> rfl
  | _ => rfl
theorem e_call (f : Nat) (es : IEs) (ks : List (Str × Nat)) (kes : IEs) : evE c (.call f es ks kes) ρ h = call1 c f (ks.map (·.2)) (evL c kes) ρ (evL c es ρ h) := by
  rw [evE]; unfold vCall
  cases evL c es ρ h with
  | ok ss h =>
    show (evL c kes ρ h).bind _ = call2 c f (ks.map (·.2)) ss (evL c kes ρ h)
    cases evL c kes ρ h with
    | ok kss h => show (match argsOf c f ss (ks.map (·.2)) kss with
        | some as => doCall c f as h
        | none => .bad) = call3 c f h (argsOf c f ss (ks.map (·.2)) kss); cases argsOf c f ss (ks.map (·.2)) kss <;> rfl
    | _ => rfl
  | _ => rfl
theorem e_bi (b : BI) (es : IEs) : evE c (.bi b es) ρ h = bi1 b (evL c es ρ h) := by rw [evE]; unfold vBi; cases evL c es ρ h <;> rfl
theorem e_isi (a : IE) (ts : List Ty) : evE c (.isi a ts) ρ h = isi1 ts (sE (evE c a) ρ h) := by
  rw [evE]; unfold vIsi
  cases sE (evE c a) ρ h with
  | ok x h => show ofO h ((tyS h x).map _) = isi2 h ts (tyS h x); cases tyS h x <;> rfl
  | _ => rfl
theorem e_met (m : ME) (o : IE) (es : IEs) : evE c (.met m o es) ρ h = met1 m (evL c es) ρ (sE (evE c o) ρ h) := by
  rw [evE]; unfold vMet
  cases sE (evE c o) ρ h with
  | ok x h =>
    show (if metT m h x = true then (evL c es ρ h).bind fun ss h => ofP (metS m h x ss) else .bad) = metG m x (evL c es) ρ h (metT m h x)
    cases metT m h x with
    | false => rfl
    | true => show (evL c es ρ h).bind _ = met2 m x (evL c es ρ h); cases evL c es ρ h <;> rfl
  | _ => rfl
theorem e_lc (t : Tg) (it : II) (k : IO) (e : IE) (own : List (Str × Nat)) : evE c (.lc t it k e own) ρ h = lc1 (evT1 c t) (evK c k) (evE c e) (own.map (·.2)) ρ (evI c it ρ h) := by
  rw [evE]; unfold vLc
  cases evI c it ρ h with
  | ok p h =>
    show (match compL p.1 (evT1 c t) (evK c k) (evE c e) (wipeR ρ (own.map (·.2))) p.2 0 [] h with
      | .ok us h => Rs.ok (RV.nw (.lst us)) h
      | _ => .bad) = lc2 (compL p.1 (evT1 c t) (evK c k) (evE c e) (wipeR ρ (own.map (·.2))) p.2 0 [] h)
    cases compL p.1 (evT1 c t) (evK c k) (evE c e) (wipeR ρ (own.map (·.2))) p.2 0 [] h <;> rfl
  | _ => rfl
end
/-! on what is there -/
section
variable (h : Hs) (ρ : Rho)
theorem r_v (u : U) : rdV (some (some (.v u))) h = .ok (.v u) h := rfl
theorem r_r (n : Nat) : rdV (some (some (.r n))) h = .ok (.r n) h := rfl
theorem i_v (u : U) : item (.ok (.v u) h) = .ok (.v u) h := rfl
theorem i_r (n : Nat) : item (.ok (.r n) h) = .ok (.r n) h := rfl
theorem i_l (us : List U) : item (.ok (.nw (.lst us)) h) = .ok (.v (.lst us)) h := rfl
theorem t_ok (x : S) : tst (.ok x h) = ofO h (truS h x) := rfl
theorem b1_ok (o : BO) (g : EvE) (x : S) : bin1 o g ρ (.ok x h) = bin2 o x (sE g ρ h) := rfl
theorem b2_ok (o : BO) (x y : S) : bin2 o x (.ok y h) = ofO h (binS o h x y) := rfl
theorem c1_ok (o : CO) (g : EvE) (x : S) : cmp1 o g ρ (.ok x h) = cmp2 o x (sE g ρ h) := rfl
theorem c2_ok (o : CO) (x y : S) : cmp2 o x (.ok y h) = ofB h (cmpS o h x y) := rfl
theorem oB_ok (b : Bool) : ofB h (some b) = .ok (.v (.bl b)) h := rfl
theorem h1_ok (o p : CO) (g k : EvE) (x : S) : ch1 o p g k ρ (.ok x h) = ch2 o p x k ρ (sE g ρ h) := rfl
theorem h2_ok (o p : CO) (x y : S) (k : EvE) : ch2 o p x k ρ (.ok y h) = ch3 p y k ρ h (cmpS o h x y) := rfl
theorem h3_t (p : CO) (y : S) (k : EvE) : ch3 p y k ρ h (some true) = ch4 p y (sE k ρ h) := rfl
theorem h3_f (p : CO) (y : S) (k : EvE) : ch3 p y k ρ h (some false) = .ok (.v (.bl false)) h := rfl
theorem h4_ok (p : CO) (y z : S) : ch4 p y (.ok z h) = ofB h (cmpS p h y z) := rfl
theorem n1_ok (b : Bool) : nt1 (.ok b h) = .ok (.v (.bl !b)) h := rfl
theorem a1_ok (g : EvE) (r : RV) : and1 g ρ (.ok r h) = and2 g ρ r h (truR h r) := rfl
theorem a2_t (g : EvE) (r : RV) : and2 g ρ r h (some true) = g ρ h := rfl
theorem a2_f (g : EvE) (r : RV) : and2 g ρ r h (some false) = .ok r h := rfl
theorem o1_ok (g : EvE) (r : RV) : or1 g ρ (.ok r h) = or2 g ρ r h (truR h r) := rfl
theorem o2_t (g : EvE) (r : RV) : or2 g ρ r h (some true) = .ok r h := rfl
theorem o2_f (g : EvE) (r : RV) : or2 g ρ r h (some false) = g ρ h := rfl
theorem tr_v (u : U) : truR h (.v u) = truU u := rfl
theorem tr_l (us : List U) : truR h (.nw (.lst us)) = some (!us.isEmpty) := rfl
theorem tr_r (n : Nat) : truR h (.r n) = truS h (.r n) := rfl
theorem ts_v (u : U) : truS h (.v u) = truU u := rfl
theorem f1_t (f g : EvE) : ife1 f g ρ (.ok true h) = f ρ h := rfl
theorem f1_f (f g : EvE) : ife1 f g ρ (.ok false h) = g ρ h := rfl
theorem p1_ok (ss : List S) : tup1 (.ok ss h) = tup2 h (allU ss) := rfl
theorem l1_ok (ss : List S) : lst1 (.ok ss h) = lst2 h (allU ss) := rfl
theorem p2_ok (us : List U) (hl : us.length ≤ lim) : tup2 h (some us) = .ok (.v (.tup us)) h := if_pos hl
theorem l2_ok (us : List U) (hl : us.length ≤ lim) : lst2 h (some us) = .ok (.nw (.lst us)) h := if_pos hl
theorem au_n : allU [] = some [] := rfl
theorem au_c (u : U) (ss : List S) : allU (.v u :: ss) = (allU ss).map (u :: ·) := by show (match some u, allU ss with | some u, some us => some (u :: us) | _, _ => none) = _; cases allU ss <;> rfl
theorem om_s {α β : Type} (f : α → β) (a : α) : (some a).map f = some (f a) := rfl
theorem g1_ok (i : Int) : neg1 (.ok (.v (.int i)) h) = .ok (.v (.int (-i))) h := rfl
theorem x1_ok (g : EvE) (x : S) : idx1 g ρ (.ok x h) = idx2 x (sE g ρ h) := rfl
theorem x2_ok (x y : S) : idx2 x (.ok y h) = ofO h (idxS h x y) := rfl
theorem s1_ok (lo hi : EvO) (x : S) : slc1 lo hi ρ (.ok x h) = slc2 x hi ρ (lo ρ h) := rfl
theorem s2_ok (x : S) (hi : EvO) (l : Option Int) : slc2 x hi ρ (.ok l h) = slc3 x l (hi ρ h) := rfl
theorem s3_ok (x : S) (l u : Option Int) : slc3 x l (.ok u h) = ofO h (slcS h x l u) := rfl
theorem q1_ok (i : Int) : opt1 (.ok (.v (.int i)) h) = .ok (some i) h := rfl
theorem v1_ok (x : S) : rev1 (.ok x h) = ofO h (revS h x) := rfl
theorem w1_n (o : MO) : nr1 (.ok (.nw o) h) = .ok (.r h.length) (h ++ [o]) := rfl
theorem w1_r (n : Nat) : nr1 (.ok (.r n) h) = .ok (.r n) h := rfl
theorem k1_ok (g : EvL) (s : S) : cons1 g ρ (.ok s h) = cons2 s (g ρ h) := rfl
theorem k2_ok (s : S) (ss : List S) : cons2 s (.ok ss h) = .ok (s :: ss) h := rfl
theorem d1_ok (c : CC) (f : Nat) (ki : List Nat) (g : EvL) (ss : List S) : call1 c f ki g ρ (.ok ss h) = call2 c f ki ss (g ρ h) := rfl
theorem d2_ok (c : CC) (f : Nat) (ki : List Nat) (ss kss : List S) : call2 c f ki ss (.ok kss h) = call3 c f h (argsOf c f ss ki kss) := rfl
theorem d3_ok (c : CC) (f : Nat) (as : List S) : call3 c f h (some as) = doCall c f as h := rfl
theorem y1_ok (b : BI) (ss : List S) : bi1 b (.ok ss h) = ofO h (bltS b h ss) := rfl
theorem z1_ok (ts : List Ty) (x : S) : isi1 ts (.ok x h) = isi2 h ts (tyS h x) := rfl
theorem z2_ok (ts : List Ty) (t : Nat) : isi2 h ts (some t) = .ok (.v (.bl (ts.any (isTy t)))) h := rfl
theorem m1_ok (m : ME) (g : EvL) (x : S) : met1 m g ρ (.ok x h) = metG m x g ρ h (metT m h x) := rfl
theorem mG_ok (m : ME) (x : S) (g : EvL) : metG m x g ρ h true = met2 m x (g ρ h) := rfl
theorem m2_ok (m : ME) (x : S) (ss : List S) : met2 m x (.ok ss h) = ofP (metS m h x ss) := rfl
theorem lc1_ok (g : EvGs) (k : Rho → Hs → Rs Bool) (f : EvE) (own : List Nat) (p : Src × Nat) : lc1 g k f own ρ (.ok p h) = lc2 (compL p.1 g k f (wipeR ρ own) p.2 0 [] h) := rfl
theorem lc2_ok (us : List U) : lc2 (.ok us h) = .ok (.nw (.lst us)) h := rfl
theorem ofO_s {α : Type} (a : α) : ofO h (some a) = .ok a h := rfl
theorem ofP_s {α : Type} (a : α) (h' : Hs) : ofP (some (a, h')) = .ok a h' := rfl
end
/-! statements -/
def asg1 (g : EvG) (ρ : Rho) : Rs RV → SR
  | .ok r h => SR.ofRs ρ (noEx (g r ρ h)) .nx
  | .ex e h => .ex e ρ h
  | .bad => .bad
def ifs1 (a b : EvS) (ρ : Rho) : Rs Bool → SR
  | .ok true h => a ρ h
  | .ok false h => b ρ h
  | .ex e h => .ex e ρ h
  | .bad => .bad
def for1 (g : EvGs) (b : EvS) (ρ : Rho) : Rs (Src × Nat) → SR
  | .ok p h => forL p.1 g b p.2 0 ρ h
  | .ex e h => .ex e ρ h
  | .bad => .bad
def ret1 (ρ : Rho) : Rs RV → SR
  | .ok r h => .rt r h
  | .ex e h => .ex e ρ h
  | .bad => .bad
def ex1 (ρ : Rho) : Rs RV → SR
  | .ok _ h => .nx ρ h
  | .ex e h => .ex e ρ h
  | .bad => .bad
def nm1 (i : Nat) (ρ : Rho) (h : Hs) : Option S → Rs Rho
  | some s => .ok (ρ.set i (some s)) h
  | none => .bad
def sub3 (ρ : Rho) : Option Hs → Rs Rho
  | some h => .ok ρ h
  | none => .bad
def sub2 (u : U) (o : S) (ρ : Rho) : Rs S → Rs Rho
  | .ok i h => sub3 ρ (gSubS h o i u)
  | _ => .bad
def sub1 (u : U) (i : EvE) (ρ : Rho) : Rs S → Rs Rho
  | .ok o h => sub2 u o ρ (sE i ρ h)
  | _ => .bad
def sub0 (o i : EvE) (ρ : Rho) (h : Hs) : Option U → Rs Rho
  | some u => sub1 u i ρ (sE o ρ h)
  | none => .bad
section
variable (c : CC) (k : Nat) (ρ : Rho) (h : Hs)
theorem s_cons (s : IS) (ss : ISs) : evSs c k (.cons s ss) ρ h = (evS c k s ρ h).andThen (evSs c k ss) := by rw [evSs]
theorem s_nil : evSs c k .nil ρ h = .nx ρ h := by rw [evSs]
theorem s_asg (t : Tg) (e : IE) : evS c k (.asg t e) ρ h = asg1 (evG c t) ρ (evE c e ρ h) := by rw [evS]; dsimp only; cases evE c e ρ h <;> rfl
theorem s_ifs (t : IE) (a b : ISs) : evS c k (.ifs t a b) ρ h = ifs1 (evSs c k a) (evSs c k b) ρ (tE (evE c t) ρ h) := by
  rw [evS]
  dsimp only
  cases tE (evE c t) ρ h with
  | ok d h => cases d <;> rfl
  | _ => rfl
theorem s_for (t : Tg) (it : II) (b : ISs) : evS c k (.fors t it b) ρ h = for1 (evT1 c t) (evSs c k b) ρ (evI c it ρ h) := by rw [evS]; dsimp only; cases evI c it ρ h <;> rfl
theorem s_ret (e : IE) : evS c k (.ret e) ρ h = ret1 ρ (evE c e ρ h) := by rw [evS]; dsimp only; cases evE c e ρ h <;> rfl
theorem s_ex (e : IE) : evS c k (.ex e) ρ h = ex1 ρ (evE c e ρ h) := by rw [evS]; dsimp only; cases evE c e ρ h <;> rfl
theorem g_nm (i : Nat) (r : RV) : evG c (.nm i) r ρ h = nm1 i ρ h r.s := by rw [evG]; unfold gNm; cases r.s <;> rfl
theorem g_sub (o i : IE) (r : RV) : noEx (evG c (.sub o i) r ρ h) = sub0 (evE c o) (evE c i) ρ h r.u := by
  rw [evG]; unfold gSub
  cases r.u with
  | none => rfl
  | some u =>
    show noEx (noEx ((sE (evE c o) ρ h).bind _)) = sub1 u (evE c i) ρ (sE (evE c o) ρ h)
    cases sE (evE c o) ρ h with
    | ok x h =>
      show noEx (noEx ((sE (evE c i) ρ h).bind _)) = sub2 u x ρ (sE (evE c i) ρ h)
      cases sE (evE c i) ρ h with
      | ok y h => show noEx (noEx (match gSubS h x y u with | some h => .ok ρ h | none => .bad)) = sub3 ρ (gSubS h x y u); cases gSubS h x y u <;> rfl
      | _ => rfl
    | _ => rfl
theorem S1_ok (g : EvG) (r : RV) : asg1 g ρ (.ok r h) = SR.ofRs ρ (noEx (g r ρ h)) .nx := rfl
theorem nE_ok {α : Type} (a : α) : noEx (.ok a h) = .ok a h := rfl
theorem N1_ok (i : Nat) (s : S) : nm1 i ρ h (some s) = .ok (ρ.set i (some s)) h := rfl
theorem R_ok {α : Type} (a : α) (f : α → Hs → SR) : SR.ofRs ρ (.ok a h) f = f a h := rfl
theorem I1_t (a b : EvS) : ifs1 a b ρ (.ok true h) = a ρ h := rfl
theorem I1_f (a b : EvS) : ifs1 a b ρ (.ok false h) = b ρ h := rfl
theorem F1_ok (g : EvGs) (b : EvS) (p : Src × Nat) : for1 g b ρ (.ok p h) = forL p.1 g b p.2 0 ρ h := rfl
theorem T1_ok (r : RV) : ret1 ρ (.ok r h) = .rt r h := rfl
theorem E1_ok (r : RV) : ex1 ρ (.ok r h) = .nx ρ h := rfl
theorem B0_ok (o i : EvE) (u : U) : sub0 o i ρ h (some u) = sub1 u i ρ (sE o ρ h) := rfl
theorem B1_ok (u : U) (i : EvE) (o : S) : sub1 u i ρ (.ok o h) = sub2 u o ρ (sE i ρ h) := rfl
theorem B2_ok (u : U) (o i : S) : sub2 u o ρ (.ok i h) = sub3 ρ (gSubS h o i u) := rfl
theorem B3_ok : sub3 ρ (some h) = .ok ρ h := rfl
theorem A_nx (f : Rho → Hs → SR) : (SR.nx ρ h).andThen f = f ρ h := rfl
theorem A_rt (r : RV) (f : Rho → Hs → SR) : (SR.rt r h).andThen f = .rt r h := rfl
theorem V_v (u : U) : RV.s (.v u) = some (.v u) := rfl
theorem V_r (n : Nat) : RV.s (.r n) = some (.r n) := rfl
theorem V_l (us : List U) : RV.s (.nw (.lst us)) = some (.v (.lst us)) := rfl
theorem W_v (u : U) : RV.u (.v u) = some u := rfl
theorem W_l (us : List U) : RV.u (.nw (.lst us)) = some (.lst us) := rfl
end
/-! operations -/
section
variable (h : Hs)
theorem B_add (i j : Int) : binS .add h (.v (.int i)) (.v (.int j)) = some (.v (.int (i + j))) := rfl
theorem B_adds (a b : Str) (q : a.length + b.length ≤ lim) : binS .add h (.v (.str a)) (.v (.str b)) = some (.v (.str (a ++ b))) := if_pos q
theorem B_sub (i j : Int) : binS .sub h (.v (.int i)) (.v (.int j)) = some (.v (.int (i - j))) := rfl
theorem B_mul (i j : Int) (q : mulOk i j = true) : binS .mul h (.v (.int i)) (.v (.int j)) = some (.v (.int (i * j))) := if_pos q
theorem B_fdiv (i j : Int) (q : 0 < j ∧ j.natAbs.log2 < 8000) : binS .fdiv h (.v (.int i)) (.v (.int j)) = some (.v (.int (i / j))) := if_pos q
theorem B_mod (i j : Int) (q : 0 < j) : binS .mod h (.v (.int i)) (.v (.int j)) = some (.v (.int (i % j))) := if_pos q
theorem C_lt (i j : Int) : cmpS .lt h (.v (.int i)) (.v (.int j)) = some (decide (i < j)) := rfl
theorem C_le (i j : Int) : cmpS .le h (.v (.int i)) (.v (.int j)) = some (decide (i ≤ j)) := rfl
theorem C_gt (i j : Int) : cmpS .gt h (.v (.int i)) (.v (.int j)) = some (decide (j < i)) := rfl
theorem C_ge (i j : Int) : cmpS .ge h (.v (.int i)) (.v (.int j)) = some (decide (j ≤ i)) := rfl
theorem C_eq (i j : Int) : cmpS .eq h (.v (.int i)) (.v (.int j)) = some (decide (i = j)) := rfl
theorem C_ne (i j : Int) : cmpS .ne h (.v (.int i)) (.v (.int j)) = some (!decide (i = j)) := rfl
theorem C_eqs (i j : Str) : cmpS .eq h (.v (.str i)) (.v (.str j)) = some (decide (i = j)) := rfl
theorem C_nes (i j : Str) : cmpS .ne h (.v (.str i)) (.v (.str j)) = some (!decide (i = j)) := rfl
theorem L_int (i : Int) : bltS .int h [.v (.int i)] = some (.v (.int i)) := rfl
theorem L_intb (b : Bool) : bltS .int h [.v (.bl b)] = some (.v (.int (if b then 1 else 0))) := rfl
theorem L_abs (i : Int) : bltS .abs h [.v (.int i)] = some (.v (.int (if i < 0 then -i else i))) := rfl
theorem L_lenl (us : List U) : bltS .len h [.v (.lst us)] = some (.v (.int us.length)) := rfl
theorem L_lent (us : List U) : bltS .len h [.v (.tup us)] = some (.v (.int us.length)) := rfl
theorem L_lenf (us : List U) : bltS .len h [.v (.frz us)] = some (.v (.int us.length)) := rfl
theorem L_lens (x : Str) (q : x.length ≤ lim) : bltS .len h [.v (.str x)] = some (.v (.int x.length)) := if_pos q
theorem L_tup (us : List U) : bltS .tuple h [.v (.lst us)] = some (.v (.tup us)) := rfl
theorem X_r {n : Nat} {us : List U} {i : Int} {j : Nat} {u : U} (a : h[n]? = some (.lst us)) (b : ixU us.length i = some j) (e : us[j]? = some u) : idxS h (.r n) (.v (.int i)) = some (.v u) := by
  simp only [idxS, seqS, a, b, e]; rfl
theorem X_l {us : List U} {i : Int} {j : Nat} {u : U} (b : ixU us.length i = some j) (e : us[j]? = some u) : idxS h (.v (.lst us)) (.v (.int i)) = some (.v u) := by
  simp only [idxS, seqS, b, e]; rfl
theorem X_t {us : List U} {i : Int} {j : Nat} {u : U} (b : ixU us.length i = some j) (e : us[j]? = some u) : idxS h (.v (.tup us)) (.v (.int i)) = some (.v u) := by
  simp only [idxS, seqS, b, e]; rfl
theorem X_f {us : List U} {i : Int} {j : Nat} {u : U} (b : ixU us.length i = some j) (e : us[j]? = some u) : idxS h (.v (.frz us)) (.v (.int i)) = some (.v u) := by
  simp only [idxS, b, e]; rfl
theorem G_r {n : Nat} {us : List U} {i : Int} {j : Nat} {u : U} (a : h[n]? = some (.lst us)) (b : ixU us.length i = some j) : gSubS h (.r n) (.v (.int i)) u = some (h.set n (.lst (us.set j u))) := by
  simp only [gSubS, a, b]
end
theorem runF_eq (c : CC) (k : Nat) (d : FD) (as : List S) (os : Hs) (hl : as.length = d.np) : runF c k d as os = match evSs c k d.body (as.map some ++ List.replicate (d.ns - d.np) none) os with
    | .nx _ h => .ok (.v .non) (h.take os.length)
    | .rt r h => leave os.length r h
    | .ex e _ h => .ex e (h.take os.length)
    | _ => .bad := by unfold runF; rw [if_pos hl] <;> rfl
theorem call_eq {P : Prog} {n f : Nat} {d : FD} (h : P[f]? = some d) (as : List S) (os : Hs) : (cc P (n + 1)).call f as os = runF (cc P n) 1000000 d as os := by
  show (match P[f]? with
    | some d => runF (cc P n) 1000000 d as os
    | none => .bad) = _
  rw [h]
end VM

namespace VM
open PySem
/-! calls, loops, in general -/
theorem refs_v : ∀ us : List U, refsOf (us.map S.v) = []
  | [] => rfl
  | _ :: us => refs_v us
theorem renum_v (k : Nat) : ∀ us : List U, renum k (us.map S.v) = us.map S.v
  | [] => rfl
  | u :: us => by show S.v u :: renum k (us.map S.v) = _; rw [renum_v k us]; rfl
/-- values alone -/
theorem doCall_v {c : CC} {f : Nat} {us : List U} {u : U} (h : Hs) (e : c.call f (us.map S.v) [] = .ok (.v u) []) : doCall c f (us.map S.v) h = .ok (.v u) h := by
  unfold doCall
  rw [refs_v, renum_v]
  show (match c.call f (us.map S.v) [] with
    | .ok rv os' => if os'.length = 0 then backR [] (putBack h [] os') rv else .bad
    | .ex e os' => if os'.length = 0 then .ex e (putBack h [] os') else .bad
    | .bad => .bad) = _
  rw [e]
  rfl
theorem doCall_vl {c : CC} {f : Nat} {us : List U} {xs : List U} (h : Hs) (e : c.call f (us.map S.v) [] = .ok (.nw (.lst xs)) []) : doCall c f (us.map S.v) h = .ok (.nw (.lst xs)) h := by
  unfold doCall
  rw [refs_v, renum_v]
  show (match c.call f (us.map S.v) [] with
    | .ok rv os' => if os'.length = 0 then backR [] (putBack h [] os') rv else .bad
    | .ex e os' => if os'.length = 0 then .ex e (putBack h [] os') else .bad
    | .bad => .bad) = _
  rw [e]
  rfl
/-- an own list ahead of values -/
theorem doCall_t {c : CC} {f : Nat} {i : Nat} {us : List U} {xs xs' : List U} {r : RV} {u : U} {h : Hs} (hi : h[i]? = some (.lst xs)) (e : c.call f (.r 0 :: us.map S.v) [.lst xs] = .ok (.v u) [.lst xs']) : doCall c f (.r i :: us.map S.v) h = .ok (.v u) (h.set i (.lst xs')) := by
  have e0 : refsOf (.r i :: us.map S.v) = [i] := by show i :: refsOf (us.map S.v) = _; rw [refs_v]
  have e1 : renum 0 (.r i :: us.map S.v) = .r 0 :: us.map S.v := by show S.r 0 :: renum 1 (us.map S.v) = _; rw [renum_v]
  have e2 : pick h [i] = some [.lst xs] := by unfold pick pick; rw [hi]
  unfold doCall
  rw [e0, e1, e2, if_pos (by simp [ndup])]
  show (match c.call f (.r 0 :: us.map S.v) [.lst xs] with
    | .ok rv os' => if os'.length = 1 then backR [i] (putBack h [i] os') rv else .bad
    | .ex e os' => if os'.length = 1 then .ex e (putBack h [i] os') else .bad
    | .bad => .bad) = _
  rw [e]
  rfl
theorem doCall_tl {c : CC} {f : Nat} {i : Nat} {us : List U} {xs xs' ys : List U} {h : Hs} (hi : h[i]? = some (.lst xs)) (e : c.call f (.r 0 :: us.map S.v) [.lst xs] = .ok (.nw (.lst ys)) [.lst xs']) : doCall c f (.r i :: us.map S.v) h = .ok (.nw (.lst ys)) (h.set i (.lst xs')) := by
  have e0 : refsOf (.r i :: us.map S.v) = [i] := by show i :: refsOf (us.map S.v) = _; rw [refs_v]
  have e1 : renum 0 (.r i :: us.map S.v) = .r 0 :: us.map S.v := by show S.r 0 :: renum 1 (us.map S.v) = _; rw [renum_v]
  have e2 : pick h [i] = some [.lst xs] := by unfold pick pick; rw [hi]
  unfold doCall
  rw [e0, e1, e2, if_pos (by simp [ndup])]
  show (match c.call f (.r 0 :: us.map S.v) [.lst xs] with
    | .ok rv os' => if os'.length = 1 then backR [i] (putBack h [i] os') rv else .bad
    | .ex e os' => if os'.length = 1 then .ex e (putBack h [i] os') else .bad
    | .bad => .bad) = _
  rw [e]
  rfl
/-- a comprehension that changes nothing, over things at hand -/
theorem comp_map {src : Src} {g : EvGs} {k : Rho → Hs → Rs Bool} {f : EvE} {ρ : Rho} {h : Hs} (xs : List U) (P : U → Bool) (F : U → U) (hat : ∀ i x, xs[i]? = some x → srcAt h src i = some x) (hend : srcEnd h src xs.length = true)
    (turn : ∀ x, x ∈ xs → ∃ ρ1, g [x] ρ h = .ok ρ1 h ∧ k ρ1 h = .ok (P x) h ∧ (P x = true → sE f ρ1 h = .ok (.v (F x)) h)) : ∀ n i acc, i + n = xs.length → acc.length + n ≤ lim → compL src g k f ρ n i acc h = .ok (acc ++ ((xs.drop i).filter P).map F) h
  | 0, i, acc, e, _ => by
    rw [compL, show i = xs.length by omega, if_pos hend, List.drop_length]
    simp
  | n + 1, i, acc, e, hl => by
    have hi : i < xs.length := by omega
    have ex : xs[i]? = some xs[i] := List.getElem?_eq_getElem hi
    obtain ⟨ρ1, e1, e2, e3⟩ := turn xs[i] (List.getElem_mem hi)
    rw [compL, hat i _ ex]
    dsimp only
    rw [e1]
    show ((k ρ1 h).bind fun b h => if b = true then _ else _) = _
    rw [e2]
    show (if P xs[i] = true then (sE f ρ1 h).bind fun s h => match s.u with
        | some u => if acc.length < lim then compL src g k f ρ n (i + 1) (acc ++ [u]) h else .bad
        | none => .bad
      else compL src g k f ρ n (i + 1) acc h) = _
    rw [List.drop_eq_getElem_cons hi]
    by_cases hp : P xs[i] = true
    · rw [if_pos hp, e3 hp]
      show (if acc.length < lim then compL src g k f ρ n (i + 1) (acc ++ [F xs[i]]) h else .bad) = _
      rw [if_pos (by omega), comp_map xs P F hat hend turn n (i + 1) (acc ++ [F xs[i]]) (by omega) (by simp; omega)]
      rw [List.filter_cons_of_pos hp]
      simp
    · rw [if_neg hp, comp_map xs P F hat hend turn n (i + 1) acc (by omega) (by omega), List.filter_cons_of_neg hp]
/-- .. that draws: each turn one item of a kind -/
theorem comp_ix {src : Src} {g : EvGs} {k : Rho → Hs → Rs Bool} {f : EvE} {ρ : Rho} {N : Nat} {Inv : Nat → Hs → Prop} {P : Nat → U → Prop} (hend : ∀ h, Inv N h → srcEnd h src N = true)
    (turn : ∀ i h, i < N → Inv i h → ∃ x ρ1, srcAt h src i = some x ∧ g [x] ρ h = .ok ρ1 h ∧ k ρ1 h = .ok true h ∧ ∃ u h', sE f ρ1 h = .ok (.v u) h' ∧ P i u ∧ Inv (i + 1) h') : ∀ n i acc h, i + n = N → Inv i h → acc.length + n ≤ lim →
    ∃ us h', compL src g k f ρ n i acc h = .ok (acc ++ us) h' ∧ us.length = n ∧ (∀ j u, us[j]? = some u → P (i + j) u) ∧ Inv N h'
  | 0, i, acc, h, e, hI, _ => by
    have : i = N := by omega
    subst this
    refine ⟨[], h, ?_, rfl, fun j u q => by simp at q, hI⟩
    rw [compL, if_pos (hend h hI), List.append_nil]
  | n + 1, i, acc, h, e, hI, hl => by
    obtain ⟨x, ρ1, e1, e2, e3, u, h', e4, hp, hI'⟩ := turn i h (by omega) hI
    obtain ⟨us, h2, e5, e6, e7, e8⟩ := comp_ix hend turn n (i + 1) (acc ++ [u]) h' (by omega) hI' (by simp; omega)
    refine ⟨u :: us, h2, ?_, by simp [e6], fun j w q => ?_, e8⟩
    · rw [compL, e1]
      dsimp only
      rw [e2]
      show ((k ρ1 h).bind fun b h => if b = true then _ else _) = _
      rw [e3]
      show ((sE f ρ1 h).bind fun s h => match s.u with
        | some u => if acc.length < lim then compL src g k f ρ n (i + 1) (acc ++ [u]) h else .bad
        | none => .bad) = _
      rw [e4]
      show (if acc.length < lim then compL src g k f ρ n (i + 1) (acc ++ [u]) h' else .bad) = _
      rw [if_pos (by omega), e5]
      simp
    · cases j with
      | zero => simp at q; subst q; exact hp
      | succ j =>
        have := e7 j w (by simpa using q)
        rw [show i + (j + 1) = i + 1 + j by omega]
        exact this
/-- a for whose body ends -/
theorem for_ex {src : Src} {g : EvGs} {b : EvS} {N : Nat} {Inv : Nat → Rho → Hs → Prop} (hend : ∀ ρ h, Inv N ρ h → srcEnd h src N = true)
    (turn : ∀ i ρ h, i < N → Inv i ρ h → ∃ x ρ1, srcAt h src i = some x ∧ g [x] ρ h = .ok ρ1 h ∧ ∃ ρ2 h2, b ρ1 h = .nx ρ2 h2 ∧ Inv (i + 1) ρ2 h2) : ∀ n i ρ h, i + n = N → Inv i ρ h → ∃ ρ' h', forL src g b n i ρ h = .nx ρ' h' ∧ Inv N ρ' h'
  | 0, i, ρ, h, e, hI => by
    have : i = N := by omega
    subst this
    exact ⟨ρ, h, by rw [forL]; exact if_pos (hend ρ h hI), hI⟩
  | n + 1, i, ρ, h, e, hI => by
    obtain ⟨x, ρ1, e1, e2, ρ2, h2, e3, hI2⟩ := turn i ρ h (by omega) hI
    obtain ⟨ρ', h', e4, e5⟩ := for_ex hend turn n (i + 1) ρ2 h2 (by omega) hI2
    refine ⟨ρ', h', ?_, e5⟩
    rw [forL]
    dsimp only
    rw [e1]
    dsimp only
    rw [e2]
    dsimp only
    rw [e3]
    exact e4
theorem rng_at (h : Hs) {lo st : Int} {n i : Nat} (hi : i < n) : srcAt h (.rng lo st n) i = some (.int (lo + i * st)) := if_pos hi
theorem rng_end (h : Hs) (lo st : Int) (n : Nat) : srcEnd h (.rng lo st n) n = true := Nat.ble_eq_true_of_le (Nat.le_refl n)
theorem lst_at (h : Hs) (us : List U) (i : Nat) : srcAt h (.seq (.v (.lst us))) i = us[i]? := rfl
theorem lst_end (h : Hs) (us : List U) : srcEnd h (.seq (.v (.lst us))) us.length = true := Nat.ble_eq_true_of_le (Nat.le_refl _)
theorem tup_at (h : Hs) (us : List U) (i : Nat) : srcAt h (.seq (.v (.tup us))) i = us[i]? := rfl
theorem tup_end (h : Hs) (us : List U) : srcEnd h (.seq (.v (.tup us))) us.length = true := Nat.ble_eq_true_of_le (Nat.le_refl _)
end VM

namespace VM
open PySem
/-! what is walked, targets, step by step -/
def iv1 : Rs S → Rs (Src × Nat)
  | .ok s h => match s with
    | .v (.str z) => .ok (.str z, z.cps.toList.length) h
    | s => match seqAll h s with
      | some (_, us) => .ok (.seq s, us.length) h
      | none => .bad
  | .ex e h => .ex e h
  | .bad => .bad
def ir1 : Rs (List S) → Rs (Src × Nat)
  | .ok ss h => match ss with
    | [.v (.int n)] => ofO h ((rngN 0 n 1).map fun k => (.rng 0 1 k, k))
    | [.v (.int a), .v (.int b)] => ofO h ((rngN a b 1).map fun k => (.rng a 1 k, k))
    | [.v (.int a), .v (.int b), .v (.int d)] => ofO h ((rngN a b d).map fun k => (.rng a d k, k))
    | _ => .bad
  | .ex e h => .ex e h
  | .bad => .bad
def ie1 : Rs S → Rs (Src × Nat)
  | .ok s h => match seqAll h s with
    | some (_, us) => .ok (.enm s, us.length) h
    | none => .bad
  | .ex e h => .ex e h
  | .bad => .bad
def iz2 (s : S) : Rs S → Rs (Src × Nat)
  | .ok t h => match seqAll h s, seqAll h t with
    | some (_, us), some (_, ws) => .ok (.zip s t, min us.length ws.length) h
    | _, _ => .bad
  | .ex e h => .ex e h
  | .bad => .bad
def iz1 (k : EvE) (ρ : Rho) : Rs S → Rs (Src × Nat)
  | .ok s h => iz2 s (sE k ρ h)
  | .ex e h => .ex e h
  | .bad => .bad
section
variable (c : CC) (ρ : Rho) (h : Hs)
theorem i_val (e : IE) : evI c (.val e) ρ h = iv1 (sE (evE c e) ρ h) := by rw [evI]; unfold iVal; cases sE (evE c e) ρ h <;> rfl
theorem i_rng (es : IEs) : evI c (.rng es) ρ h = ir1 (evL c es ρ h) := by rw [evI]; unfold iRng; cases evL c es ρ h <;> rfl
theorem i_enm (e : IE) : evI c (.enm e) ρ h = ie1 (sE (evE c e) ρ h) := by rw [evI]; unfold iEnm; cases sE (evE c e) ρ h <;> rfl
theorem i_zip (a b : IE) : evI c (.zip a b) ρ h = iz1 (evE c b) ρ (sE (evE c a) ρ h) := by
  rw [evI]; unfold iZp
  cases sE (evE c a) ρ h with
  | ok s h => show (sE (evE c b) ρ h).bind _ = iz2 s (sE (evE c b) ρ h); cases sE (evE c b) ρ h <;> rfl
  | _ => rfl
theorem iv_s (z : Str) : iv1 (.ok (.v (.str z)) h) = .ok (.str z, z.cps.toList.length) h := rfl
theorem iv_l (us : List U) : iv1 (.ok (.v (.lst us)) h) = .ok (.seq (.v (.lst us)), us.length) h := rfl
theorem iv_t (us : List U) : iv1 (.ok (.v (.tup us)) h) = .ok (.seq (.v (.tup us)), us.length) h := rfl
theorem iv_f (us : List U) : iv1 (.ok (.v (.frz us)) h) = .ok (.seq (.v (.frz us)), us.length) h := rfl
theorem ir_1 (n : Int) : ir1 (.ok [.v (.int n)] h) = ofO h ((rngN 0 n 1).map fun k => (.rng 0 1 k, k)) := rfl
theorem ir_2 (a b : Int) : ir1 (.ok [.v (.int a), .v (.int b)] h) = ofO h ((rngN a b 1).map fun k => (.rng a 1 k, k)) := rfl
theorem ie_l (us : List U) : ie1 (.ok (.v (.lst us)) h) = .ok (.enm (.v (.lst us)), us.length) h := rfl
theorem iz_1 (k : EvE) (s : S) : iz1 k ρ (.ok s h) = iz2 s (sE k ρ h) := rfl
theorem iz_l (us ws : List U) : iz2 (.v (.lst us)) (.ok (.v (.lst ws)) h) = .ok (.zip (.v (.lst us)) (.v (.lst ws)), min us.length ws.length) h := rfl
theorem iz_t (us ws : List U) : iz2 (.v (.tup us)) (.ok (.v (.tup ws)) h) = .ok (.zip (.v (.tup us)) (.v (.tup ws)), min us.length ws.length) h := rfl
theorem rN_up {b : Int} (h0 : 0 ≤ b) (h1 : b ≤ 16000000) : rngN 0 b 1 = some b.toNat := by
  unfold rngN
  rw [if_pos ⟨by omega, by omega, by omega, h1⟩, if_pos rfl, Int.sub_zero]
theorem t1_nm (i : Nat) (u : U) : evT1 c (.nm i) [u] ρ h = .ok (ρ.set i (some (.v u))) h := by rw [evT1]
theorem t1_tp (ts : Tgs) (xs : List U) : evT1 c (.tp ts) [.tup xs] ρ h = evTs c ts xs ρ h := by rw [evT1]
theorem ts_nil : evTs c .nil [] ρ h = .ok ρ h := by rw [evTs]
theorem ts_cons (i : Nat) (ts : Tgs) (u : U) (us : List U) : evTs c (.cons (.nm i) ts) (u :: us) ρ h = evTs c ts us (ρ.set i (some (.v u))) h := by
  rw [evTs]
  dsimp only
  rw [evG]
  rfl
theorem k_none : evK c .none ρ h = .ok true h := by rw [evK]
theorem k_some (e : IE) : evK c (.some e) ρ h = tE (evE c e) ρ h := by rw [evK]
end
end VM

/-! The class's __init__. -/
namespace VM
open PySem PySem.Spec PyProof.Rows L2 RZ
def nmB : Str := ⟨#[98, 111, 111, 107]⟩
def nmM : Str := ⟨#[109, 97, 110, 121]⟩
def nmO : Str := ⟨#[111, 110, 101]⟩
def nmK : Str := ⟨#[107, 101, 112, 116]⟩
def eLen : IE := .bi .len (.cons (.idx (.var 1) (.c (.int 0))) .nil)
def eZ : IE := .tup (.cons (.c (.int 0)) .nil)
def okInit (T : Tab) (C : Ct) : List Stmt → Bool
  | [.Assign [.Attribute s1 f1 _] v1 _, .Assign [.Attribute s2 f2 _] v2 _, .Assign [.Attribute s3 f3 _] (.BinOp z .Mult (.Attribute s5 f5 _) _) _, .Assign [.Attribute s4 f4 _] (.Dict [] [] _) _] =>
    decide (f1 = nmB) && decide (f2 = nmM) && decide (f3 = nmO) && decide (f5 = nmM) && decide (f4 = nmK) && okX T (.var 0) C false s1 && okX T (.var 0) C false s2 && okX T (.var 0) C false s3 && okX T (.var 0) C false s5 && okX T (.var 0) C false s4 &&
      okX T (.var 1) C false v1 && okX T eLen C false v2 && okX T eZ C false z && sw0 v1 && sw0 v2 && noC0 s5
  | _ => false
section
variable {T : Tab} {g : GS} {c : CC} {lv : Nat} {C : Ct} {W : WX} {X : Cx}
theorem var_pe {i : Nat} {x : Expr} (G : Good T g c lv C W X) (h : okX T (.var i) C false x = true) : PE X x (tVar i) := by
  rw [okX.eq_def] at h
  dsimp only at h
  split at h
  · simp only [Bool.and_eq_true, decide_eq_true_eq] at h
    obtain ⟨⟨h1, h2⟩, h3⟩ := h
    exact pe_var (by rw [G.hN]; exact h1) (G.vs h2) (pn h3).1 (pn h3).2
  · cases h
theorem hallO_eq {cl : Nat} {u : U} {fs : List (Str × U)} {kd : Option (Str × KD)} (e : hallO cl u = some (.ins cl fs kd)) : ∃ os r, u = .tup (.tup os :: r) ∧ os.length ≤ 1000 ∧ fs = [(nmB, u), (nmM, .int os.length), (nmO, .tup (List.replicate os.length (.int 0)))] ∧ kd = some (nmK, []) := by
  unfold hallO at e
  split at e
  · rename_i os r
    split at e
    · rename_i hl
      cases e
      exact ⟨os, r, rfl, hl, rfl, rfl⟩
    · cases e
  · cases e
theorem len_eval (c : CC) (os r : List U) : sE (evE c eLen) [none, some (.v (.tup (.tup os :: r)))] [] = .ok (.v (.int os.length)) [] := by
  have x1 : idxS [] (.v (.tup (.tup os :: r))) (.v (.int 0)) = some (.v (.tup os)) := X_t [] (j := 0) (by
    unfold ixU
    rw [if_pos (by decide), if_pos (by rw [List.length_cons]; omega)]
    rfl) rfl
  simp only [eLen]
  simp only [e_s, e_t, e_var, e_c, e_gl, e_fn, e_bin, e_cmp, e_ch, e_nt, e_and, e_or, e_ife, e_tup, e_lst, e_neg, e_idx, e_slc, e_on, e_os, e_rev, e_nr, e_nil, e_cons, e_call, e_bi, e_isi, e_met, e_lc, r_v, r_r, i_v, i_r, i_l, t_ok, b1_ok, b2_ok, c1_ok, c2_ok, oB_ok, h1_ok, h2_ok, h3_t, h3_f, h4_ok, n1_ok, a1_ok, a2_t, a2_f, o1_ok, o2_t, o2_f, tr_v, tr_l, tr_r, ts_v, f1_t, f1_f, p1_ok, l1_ok, au_n, au_c, om_s, g1_ok, x1_ok, x2_ok, s1_ok, s2_ok, s3_ok, q1_ok, v1_ok, w1_n, w1_r, k1_ok, k2_ok, d1_ok, d2_ok, d3_ok, y1_ok, z1_ok, z2_ok, m1_ok, mG_ok, m2_ok, lc1_ok, lc2_ok, ofO_s, ofP_s, s_cons, s_nil, s_asg, s_ifs, s_for, s_ret, s_ex, g_nm, g_sub, S1_ok, nE_ok, N1_ok, R_ok, I1_t, I1_f, F1_ok, T1_ok, E1_ok, B0_ok, B1_ok, B2_ok, B3_ok, A_nx, A_rt, V_v, V_r, V_l, W_v, W_l, i_val, i_rng, i_enm, i_zip, iv_s, iv_l, iv_t, iv_f, ir_1, ir_2, ie_l, iz_1, iz_l, iz_t, t1_nm, t1_tp, ts_nil, ts_cons, k_none, k_some, B_add, B_sub, C_lt, C_le, C_gt, C_ge, C_eq, C_ne, C_eqs, C_nes, L_int, L_intb, L_abs, L_lenl, L_lent, L_lenf, L_tup, truU, List.getElem?_cons_succ, List.getElem?_cons_zero, List.set_cons_succ, List.set_cons_zero, List.map_cons, List.map_nil, List.cons_append, List.nil_append, List.replicate_succ, List.replicate_zero, x1]
theorem z_eval (c : CC) (ρ : Rho) : sE (evE c eZ) ρ [] = .ok (.v (.tup [.int 0])) [] := by
  simp only [eZ]
  simp only [e_s, e_t, e_var, e_c, e_gl, e_fn, e_bin, e_cmp, e_ch, e_nt, e_and, e_or, e_ife, e_tup, e_lst, e_neg, e_idx, e_slc, e_on, e_os, e_rev, e_nr, e_nil, e_cons, e_call, e_bi, e_isi, e_met, e_lc, r_v, r_r, i_v, i_r, i_l, t_ok, b1_ok, b2_ok, c1_ok, c2_ok, oB_ok, h1_ok, h2_ok, h3_t, h3_f, h4_ok, n1_ok, a1_ok, a2_t, a2_f, o1_ok, o2_t, o2_f, tr_v, tr_l, tr_r, ts_v, f1_t, f1_f, p1_ok, l1_ok, au_n, au_c, om_s, g1_ok, x1_ok, x2_ok, s1_ok, s2_ok, s3_ok, q1_ok, v1_ok, w1_n, w1_r, k1_ok, k2_ok, d1_ok, d2_ok, d3_ok, y1_ok, z1_ok, z2_ok, m1_ok, mG_ok, m2_ok, lc1_ok, lc2_ok, ofO_s, ofP_s, s_cons, s_nil, s_asg, s_ifs, s_for, s_ret, s_ex, g_nm, g_sub, S1_ok, nE_ok, N1_ok, R_ok, I1_t, I1_f, F1_ok, T1_ok, E1_ok, B0_ok, B1_ok, B2_ok, B3_ok, A_nx, A_rt, V_v, V_r, V_l, W_v, W_l, i_val, i_rng, i_enm, i_zip, iv_s, iv_l, iv_t, iv_f, ir_1, ir_2, ie_l, iz_1, iz_l, iz_t, t1_nm, t1_tp, ts_nil, ts_cons, k_none, k_some, B_add, B_sub, C_lt, C_le, C_gt, C_ge, C_eq, C_ne, C_eqs, C_nes, L_int, L_intb, L_abs, L_lenl, L_lent, L_lenf, L_tup, truU, List.getElem?_cons_succ, List.getElem?_cons_zero, List.set_cons_succ, List.set_cons_zero, List.map_cons, List.map_nil, List.cons_append, List.nil_append, List.replicate_succ, List.replicate_zero, p2_ok _ [U.int 0] (by show 1 ≤ 16777216; decide)]
theorem rep_noughts : ∀ n : Nat, rep [U.int 0] (n : Int) = List.replicate n (.int 0) := fun n => by
  unfold rep
  rw [Int.toNat_natCast]
  induction n with
  | zero => rfl
  | succ n ih => rw [List.replicate_succ, List.flatten_cons, ih, List.replicate_succ]; rfl
theorem rep0 {o : Addr → Prop} {H : Hp} (on : ∀ b, o b → H b ≠ none) : RepH g o [] [] H := ⟨rfl, (fun n l e => by simp at e), (fun n e => by simp at e), by simp, (fun a ⟨l, hl, _⟩ => by cases hl), on⟩
theorem phi0 {o : Addr → Prop} {H : Hp} {φ : Phi} (r : RepH g o φ [] H) : φ = [] := List.eq_nil_of_length_eq_zero r.len
theorem not_own0 {a : Addr} : ¬ own [] a := fun ⟨l, hl, _⟩ => by cases hl
theorem kept0 {H H' : Hp} (st : Step [] H [] H') : ∀ b, H b ≠ none → H' b = H b := fun b hb => st.same b not_own0 hb
theorem ow0 {o : Addr → Prop} {b : Addr} : ow [] o b ↔ o b := ⟨fun q => q.elim (fun z => absurd z not_own0) id, .inr⟩
end
section
variable {T : Tab} {g : GS} {W : WX} {X : Cx} {C : Ct} {c : CC} {lv : Nat} {cl : Nat}
theorem init_run (G : Good T g c lv C W X) {body : List Stmt} (ok : okInit T C body = true) (hc : Cls X.K (g.ca cl)) (nB : NoAttr X.K (g.ca cl) nmB) (nM : NoAttr X.K (g.ca cl) nmM) (nO : NoAttr X.K (g.ca cl) nmO) (nK : NoAttr X.K (g.ca cl) nmK) :
    ∃ t, PSs X body t ∧ ∀ (a : Addr) (v : V) (D : Ends) (H : Hp) (o : Addr → Prop) (dx : Addr) (u : U) (fs : List (Str × U)) (kd : Option (Str × KD)), H a = some (.ins (g.ca cl) dx []) → Den g o H u v → o a → (∀ b, o b → H b ≠ none) → hallO cl u = some (.ins cl fs kd) →
      (∀ H' d fv, (∀ b, H b ≠ none → b ≠ a → H' b = H b) → H' a = some (.ins (g.ca cl) dx fv) → H d = none → H' d = some (.dT []) → RepI g (fun b => o b ∨ b = d) H' fs kd fv [d] → D.nx [some (.ref a), some v] H') → t D [some (.ref a), some v] H := by
  unfold okInit at ok
  split at ok
  · rename_i s1 f1 p1 v1 q1 s2 f2 p2 v2 q2 s3 f3 p3 z s5 f5 p5 r3 q3 s4 f4 p4 r4 q4
    simp only [Bool.and_eq_true, decide_eq_true_eq] at ok
    obtain ⟨⟨⟨⟨⟨⟨⟨⟨⟨⟨⟨⟨⟨⟨⟨rfl, rfl⟩, rfl⟩, rfl⟩, rfl⟩, o1⟩, o2⟩, o3⟩, o5⟩, o4⟩, w1⟩, w2⟩, w3⟩, b1⟩, b2⟩, b3⟩ := ok
    have L := (okX_ok eLen G w2).1 rfl
    have Z := (okX_ok eZ G w3).1 rfl
    refine ⟨_, pss_cons (ps_fld (var_pe G o1) (var_pe G w1) (sw0_ok b1 _ _ _)) (pss_cons (ps_fld (var_pe G o2) (pe_s L) (sw0_ok b2 _ _ _)) (pss_cons (ps_fld (var_pe G o3) (pe_op (bin_ok G.hK .mul) (pe_s Z) (pe_fld (var_pe G o5) (base_pl b3))) rfl) (pss_one (ps_fld (var_pe G o4) pe_dnewT rfl)))), ?_⟩
    intro a v D H o dx u fs kd ha hd oa on hO fin
    obtain ⟨os, r, rfl, hl, rfl, rfl⟩ := hallO_eq hO
    refine ⟨v, rfl, .ref a, rfl, a, _, dx, [], rfl, ha, hc, nB, by decide, ?_⟩
    have e1 : putF nmB v [] = [(nmB, v)] := rfl
    rw [e1]
    generalize hH1 : upd H a (.ins (g.ca cl) dx [(nmB, v)]) = H1
    have a1 : H1 a = some (.ins (g.ca cl) dx [(nmB, v)]) := by rw [← hH1]; exact upd_same
    have k1 : ∀ b, b ≠ a → H1 b = H b := fun b hb => by rw [← hH1]; exact upd_ne hb
    have on1 : ∀ b, o b → H1 b ≠ none := fun b hb => by
      by_cases z : b = a
      · rw [z, a1]; simp
      · rw [k1 b z]; exact on b hb
    have d1 : Den g (ow [] o) H1 (.tup (.tup os :: r)) v := Den.keep ⟨fun b nb _ => k1 b (fun z => nb (z ▸ oa)), fun b hb => by
      by_cases z : b = a
      · rw [z, a1]; simp
      · rw [k1 b z]; exact hb, fun b hb => .inl (ow0.mp hb)⟩ _ _ hd
    have rs1 : RelS g o [] H1 [none, some (.v (.tup (.tup os :: r)))] [some (.ref a), some v] := ⟨rfl, fun i s e => by
      match i, e with
      | 0, e => cases e
      | 1, e => cases e; exact ⟨v, rfl, d1⟩
      | i + 2, e => simp at e⟩
    refine ⟨o, [], _, [], rs1, rep0 on1, ?_⟩
    rw [len_eval]
    intro φ2 w2' H2 st2 rp2 p2'
    have := phi0 rp2
    subst this
    have hw : w2' = .int os.length := p2'
    subst hw
    have k2 := kept0 st2
    have a2 : H2 a = some (.ins (g.ca cl) dx [(nmB, v)]) := by rw [k2 a (by rw [a1]; simp), a1]
    refine ⟨.ref a, rfl, a, _, dx, _, rfl, a2, hc, nM, by simp, ?_⟩
    have e2 : putF nmM (.int os.length) [(nmB, v)] = [(nmB, v), (nmM, .int os.length)] := by
      show (if nmB = nmM then _ else _) = _
      rw [if_neg (by decide)]
      rfl
    rw [e2]
    generalize hH3 : upd H2 a (.ins (g.ca cl) dx [(nmB, v), (nmM, .int os.length)]) = H3
    have a3 : H3 a = some (.ins (g.ca cl) dx [(nmB, v), (nmM, .int os.length)]) := by rw [← hH3]; exact upd_same
    have k3 : ∀ b, b ≠ a → H3 b = H2 b := fun b hb => by rw [← hH3]; exact upd_ne hb
    have on3 : ∀ b, o b → H3 b ≠ none := fun b hb => by
      by_cases z : b = a
      · rw [z, a3]; simp
      · rw [k3 b z]; exact rp2.xs b hb
    refine ⟨o, [], [none, none], [], ⟨rfl, fun i s e => by
      match i, e with
      | 0, e => cases e
      | 1, e => cases e
      | i + 2, e => simp at e⟩, rep0 on3, ?_⟩
    rw [z_eval]
    intro φ4 z4 H4 st4 rp4 p4'
    have := phi0 rp4
    subst this
    have k4 := kept0 st4
    have a4 : H4 a = some (.ins (g.ca cl) dx [(nmB, v), (nmM, .int os.length)]) := by rw [k4 a (by rw [a3]; simp), a3]
    have l4 : ([(nmB, v), (nmM, V.int os.length)] : List (Str × V)).lookup nmM = some (.int os.length) := by
      have h1 : (nmM == nmB) = false := by decide
      have h2 : (nmM == nmM) = true := by decide
      simp only [List.lookup, h1, h2]
    refine ⟨.ref a, rfl, a, _, dx, _, .int os.length, rfl, a4, hc, nM, l4, ?_⟩
    have e4 : binS .mul [] (.v (.tup [.int 0])) (.v (.int os.length)) = some (.v (.tup (rep [.int 0] (os.length : Int)))) := if_pos ⟨by omega, by omega, by decide⟩
    refine ⟨o, [], [], .v (.tup [.int 0]), .v (.int os.length), rp4, p4', rfl, _, e4, ?_⟩
    intro φ5 w5 H5 st5 rp5 d5
    have := phi0 rp5
    subst this
    have d5 : Den g (ow [] o) H5 (.tup (rep [.int 0] (os.length : Int))) w5 := d5
    rw [rep_noughts] at d5
    have k5 := kept0 st5
    have a5 : H5 a = some (.ins (g.ca cl) dx [(nmB, v), (nmM, .int os.length)]) := by rw [k5 a (by rw [a4]; simp), a4]
    refine ⟨.ref a, rfl, a, _, dx, _, rfl, a5, hc, nO, by simp, ?_⟩
    have e5 : putF nmO w5 [(nmB, v), (nmM, .int os.length)] = [(nmB, v), (nmM, .int os.length), (nmO, w5)] := by
      show (if nmB = nmO then _ else _) = _
      rw [if_neg (by decide)]
      show _ :: (if nmM = nmO then _ else _) = _
      rw [if_neg (by decide)]
      rfl
    rw [e5]
    generalize hH6 : upd H5 a (.ins (g.ca cl) dx [(nmB, v), (nmM, .int os.length), (nmO, w5)]) = H6
    have a6 : H6 a = some (.ins (g.ca cl) dx [(nmB, v), (nmM, .int os.length), (nmO, w5)]) := by rw [← hH6]; exact upd_same
    have k6 : ∀ b, b ≠ a → H6 b = H5 b := fun b hb => by rw [← hH6]; exact upd_ne hb
    intro p hp
    have npa : p ≠ a := fun z => by rw [z, a6] at hp; cases hp
    have a7 : (upd H6 p (.dT [])) a = some (.ins (g.ca cl) dx [(nmB, v), (nmM, .int os.length), (nmO, w5)]) := by rw [upd_ne npa.symm]; exact a6
    refine ⟨.ref a, rfl, a, _, dx, _, rfl, a7, hc, nK, by simp, ?_⟩
    have e7 : putF nmK (.ref p) [(nmB, v), (nmM, .int os.length), (nmO, w5)] = [(nmB, v), (nmM, .int os.length), (nmO, w5), (nmK, .ref p)] := by
      show (if nmB = nmK then _ else _) = _
      rw [if_neg (by decide)]
      show _ :: (if nmM = nmK then _ else _) = _
      rw [if_neg (by decide)]
      show _ :: _ :: (if nmO = nmK then _ else _) = _
      rw [if_neg (by decide)]
      rfl
    rw [e7]
    generalize hH8 : upd (upd H6 p (.dT [])) a (.ins (g.ca cl) dx [(nmB, v), (nmM, .int os.length), (nmO, w5), (nmK, .ref p)]) = H8
    have a8 : H8 a = some (.ins (g.ca cl) dx [(nmB, v), (nmM, .int os.length), (nmO, w5), (nmK, .ref p)]) := by rw [← hH8]; exact upd_same
    have p8 : H8 p = some (.dT []) := by rw [← hH8, upd_ne npa]; exact upd_same
    have k8 : ∀ b, b ≠ a → b ≠ p → H8 b = H6 b := fun b hb hb2 => by rw [← hH8, upd_ne hb, upd_ne hb2]
    have n5 : ∀ b, H5 b ≠ none → b ≠ p := fun b hb z => by
      rw [z] at hb
      exact hb (by rw [← k6 p npa]; exact hp)
    have t5 : ∀ b, H b ≠ none → b ≠ a → H5 b = H b := fun b hb hn => by
      have h1 : H1 b = H b := k1 b hn
      have h2 : H2 b = H b := by rw [k2 b (by rw [h1]; exact hb), h1]
      have h3 : H3 b = H b := by rw [k3 b hn, h2]
      have h4 : H4 b = H b := by rw [k4 b (by rw [h3]; exact hb), h3]
      rw [k5 b (by rw [h4]; exact hb), h4]
    have t8 : ∀ b, H b ≠ none → b ≠ a → H8 b = H b := fun b hb hn => by
      have h5 := t5 b hb hn
      rw [k8 b hn (n5 b (by rw [h5]; exact hb)), k6 b hn, h5]
    have hpn : H p = none := Classical.byContradiction fun z => n5 p (by rw [t5 p z npa]; exact z) rfl
    have nn : ∀ b, H b ≠ none → H8 b ≠ none := fun b hb => by
      by_cases z : b = a
      · rw [z, a8]; simp
      · rw [t8 b hb z]; exact hb
    have n58 : ∀ b, ¬ o b → H5 b ≠ none → H8 b = H5 b := fun b nb hb => by
      have hn : b ≠ a := fun z => nb (z ▸ oa)
      rw [k8 b hn (n5 b hb), k6 b hn]
    refine fin H8 p _ t8 a8 hpn p8 ⟨fun zz uu q => ?_, fun zz q1 q2 => ?_, fun y r' hk => ?_, fun hk => by cases hk⟩
    · unfold flA at q
      by_cases h1 : nmB = zz
      · subst h1
        rw [if_pos rfl] at q
        cases q
        refine ⟨v, by simp [List.lookup], Den.keep ⟨fun b nb hb => t8 b hb (fun z => nb (z ▸ oa)), nn, fun b hb => hb.imp id fun z => by rw [z]; exact hpn⟩ _ _ hd⟩
      · rw [if_neg h1] at q
        unfold flA at q
        by_cases h2 : nmM = zz
        · subst h2
          rw [if_pos rfl] at q
          cases q
          refine ⟨.int os.length, ?_, rfl⟩
          have h1' : (nmM == nmB) = false := by decide
          have h2' : (nmM == nmM) = true := by decide
          simp only [List.lookup, h1', h2']
        · rw [if_neg h2] at q
          unfold flA at q
          by_cases h3 : nmO = zz
          · subst h3
            rw [if_pos rfl] at q
            cases q
            refine ⟨w5, ?_, Den.keep ⟨fun b nb hb => n58 b (fun z => nb (ow0.mpr z)) hb, fun b hb => ?_, fun b hb => ?_⟩ _ _ d5⟩
            · have h1' : (nmO == nmB) = false := by decide
              have h2' : (nmO == nmM) = false := by decide
              have h3' : (nmO == nmO) = true := by decide
              simp only [List.lookup, h1', h2', h3']
            · by_cases z : b = a
              · rw [z, a8]; simp
              · rw [k8 b z (n5 b hb), k6 b z]; exact hb
            · rcases hb with hb | hb
              · exact .inl (ow0.mpr hb)
              · exact .inr (by rw [hb, ← k6 p npa]; exact hp)
          · rw [if_neg h3] at q
            cases q
    · have e1 : ∀ k : Str, zz ≠ k → (zz == k) = false := fun k hk => by simpa using hk
      have f1 : zz ≠ nmB := fun z => by
        subst z
        unfold flA at q1
        rw [if_pos rfl] at q1
        cases q1
      have f2 : zz ≠ nmM := fun z => by
        subst z
        unfold flA at q1
        rw [if_neg (by decide)] at q1
        unfold flA at q1
        rw [if_pos rfl] at q1
        cases q1
      have f3 : zz ≠ nmO := fun z => by
        subst z
        unfold flA at q1
        rw [if_neg (by decide)] at q1
        unfold flA at q1
        rw [if_neg (by decide)] at q1
        unfold flA at q1
        rw [if_pos rfl] at q1
        cases q1
      have f4 : zz ≠ nmK := fun z => q2 nmK [] rfl z.symm
      simp only [List.lookup, e1 _ f1, e1 _ f2, e1 _ f3, e1 _ f4]
    · cases hk
      refine ⟨p, [], rfl, ?_, p8, rfl⟩
      have h1' : (nmK == nmB) = false := by decide
      have h2' : (nmK == nmM) = false := by decide
      have h3' : (nmK == nmO) = false := by decide
      have h4' : (nmK == nmK) = true := by decide
      simp only [List.lookup, h1', h2', h3', h4']
  · cases ok
end
end VM

/-! Defs: each keeps its promise, at every level. -/
namespace VM
open PySem PySem.Spec PyProof.Rows L2 RZ
section
variable {g : GS} {x : Addr → Prop} {φ φ' : Phi} {h : Hs} {H H' : Hp}
theorem take_at {n m : Nat} {o : Option OA} (e : (φ.take n)[m]? = some o) : φ[m]? = some o ∧ m < n := by
  by_cases hm : m < n
  · rw [List.getElem?_take_of_lt hm] at e
    exact ⟨e, hm⟩
  · rw [List.getElem?_take_eq_none (by omega)] at e
    cases e
theorem own_take {n : Nat} {a : Addr} (o : own (φ.take n) a) : own φ a := by
  obtain ⟨l, hl, ha⟩ := o
  exact ⟨l, List.mem_of_mem_take hl, ha⟩
theorem RepH.take (r : RepH g x φ h H) (n : Nat) : RepH g x (φ.take n) (h.take n) H := by
  refine ⟨by simp [r.len], fun m l e => ?_, fun m e => ?_, ?_, fun a o => r.apart a (own_take o), r.xs⟩
  · obtain ⟨e1, hm⟩ := take_at e
    obtain ⟨ob, e2, q⟩ := r.at_ m l e1
    exact ⟨ob, by rw [List.getElem?_take_of_lt hm]; exact e2, q.keep (Keep.weak fun a q => q.imp own_take id) fun _ _ => rfl⟩
  · obtain ⟨e1, hm⟩ := take_at e
    rw [List.getElem?_take_of_lt hm]
    exact r.dead m e1
  · have e : (φ.filterMap id).flatten = ((φ.take n).filterMap id).flatten ++ ((φ.drop n).filterMap id).flatten := by
      rw [← List.flatten_append, ← List.filterMap_append, List.take_append_drop]
    have := r.nd
    rw [e] at this
    exact (List.nodup_append.mp this).1
/-- the first n and one behind -/
theorem RepH.pick1 (r : RepH g x φ h H) {n k : Nat} {l : OA} {ob : MO} (hk : n ≤ k) (e : φ[k]? = some (some l)) (eo : h[k]? = some ob) : RepH g x (φ.take n ++ [some l]) (h.take n ++ [ob]) H := by
  have hkl : k < φ.length := (List.getElem?_eq_some_iff.mp e).1
  have w : ∀ a, own (φ.take n ++ [some l]) a → own φ a := fun a q => by
    rcases own_app.mp q with q | q
    · exact own_take q
    · exact own_at e q
  have wk := Keep.weak (H := H) (fun (a : Addr) (q : ow (φ.take n ++ [some l]) x a) => (q.imp (w a) id : ow φ x a))
  have ln : (φ.take n).length = n := by rw [List.length_take]; omega
  have ln' : (h.take n).length = n := by rw [List.length_take, ← r.len]; omega
  refine ⟨by simp [r.len], fun m l' e' => ?_, fun m e' => ?_, ?_, fun a o => r.apart a (w a o), r.xs⟩
  · by_cases hm : m < n
    · rw [List.getElem?_append_left (by omega)] at e'
      obtain ⟨ob', e2, q⟩ := r.at_ m l' (take_at e').1
      exact ⟨ob', by rw [List.getElem?_append_left (by omega), List.getElem?_take_of_lt hm]; exact e2, q.keep wk fun _ _ => rfl⟩
    · have hlt := (List.getElem?_eq_some_iff.mp e').1
      rw [List.length_append, ln] at hlt
      have : m = n := by simp at hlt; omega
      subst this
      rw [List.getElem?_append_right (by omega)] at e'
      rw [ln, Nat.sub_self] at e'
      simp at e'
      subst e'
      obtain ⟨ob', e2, q⟩ := r.at_ k l e
      rw [eo] at e2
      cases e2
      exact ⟨ob, by rw [List.getElem?_append_right (by omega), ln', Nat.sub_self]; rfl, q.keep wk fun _ _ => rfl⟩
  · by_cases hm : m < n
    · rw [List.getElem?_append_left (by omega)] at e'
      rw [List.getElem?_append_left (by omega), List.getElem?_take_of_lt hm]
      exact r.dead m (take_at e').1
    · have hlt := (List.getElem?_eq_some_iff.mp e').1
      rw [List.length_append, ln] at hlt
      have : m = n := by simp at hlt; omega
      subst this
      rw [List.getElem?_append_right (by omega), ln, Nat.sub_self] at e'
      simp at e'
  · rw [filt_app, List.nodup_append]
    have e1 : ((φ.take n).filterMap id).flatten.Nodup := (r.take n).nd
    have e2 : l.Nodup := (List.sublist_flatten_of_mem (List.mem_filterMap.mpr ⟨some l, List.mem_of_getElem? e, rfl⟩)).nodup r.nd
    refine ⟨e1, e2, fun a ha b hb z => ?_⟩
    subst z
    obtain ⟨l', hl', ha'⟩ := own_mem.mpr ha
    obtain ⟨m, hm⟩ := List.getElem?_of_mem hl'
    obtain ⟨e3, hm2⟩ := take_at hm
    have := disj r.nd e3 e ha' hb
    omega
theorem Step.take (st : Step φ H φ' H') : Step φ H (φ'.take φ.length) H' := by
  refine ⟨st.same, st.grow, fun a o => st.owns a (own_take o), by rw [List.length_take]; have := st.len; omega, fun n l hn e => st.back n l hn (take_at e).1, fresh_le (by rw [List.length_take]; omega)⟩
/-- what leaves a frame -/
theorem leave_ok {W : WX} {Q : VK} {r : RV} {h' : Hs} (c : Cond g x W KV [] Q φ H (leave φ.length r h')) {v : V} (st : Step φ H φ' H') (rep : RepH g x φ' h' H') (p : KV g x H r h' φ' v H') : Q v H' := by
  have rt := rep.take φ.length
  have s1 := st.take
  cases r with
  | v u => exact c _ v H' s1 rt (Den.weak (fun a q => q.imp own_take id) (show Den g _ H' u v from p))
  | nw ob =>
    obtain ⟨l, rp, hv, hf⟩ := p
    have hlen : φ'.length = h'.length := rep.len
    have e1 : (φ' ++ [some l])[φ'.length]? = some (some l) := by simp
    have e2 : (h' ++ [ob])[φ'.length]? = some ob := by rw [hlen]; simp
    have rp2 := rp.pick1 (n := φ.length) st.len e1 e2
    have t1 : (φ' ++ [some l]).take φ.length = φ'.take φ.length := by rw [List.take_append_of_le_length st.len]
    have t2 : (h' ++ [ob]).take φ.length = h'.take φ.length := by rw [List.take_append_of_le_length (by rw [← hlen]; exact st.len)]
    rw [t1, t2] at rp2
    exact c _ v H' s1 rt ⟨l, rp2, hv, hf⟩
  | r k =>
    obtain ⟨p1, p2⟩ : k < φ'.length ∧ ∀ l, φ'[k]? = some (some l) → v = .ref (hd l) := p
    have c : Cond g x W KV [] Q φ H (if k < φ.length then .ok (.r k) (h'.take φ.length) else match h'[k]? with
      | some (.lst xs) => .ok (.nw (.lst xs)) (h'.take φ.length)
      | some (.dct xs) => .ok (.nw (.dct xs)) (h'.take φ.length)
      | some (.ins c fs kd) => .ok (.nw (.ins c fs kd)) (h'.take φ.length)
      | _ => .bad) := c
    split at c
    · rename_i hk
      refine c _ v H' s1 rt ⟨by rw [List.length_take]; omega, fun l hl => p2 l (take_at hl).1⟩
    · rename_i hk
      have fin : ∀ {ob : MO}, h'[k]? = some ob → ob ≠ .dead → Cond g x W KV [] Q φ H (.ok (.nw ob) (h'.take φ.length)) → Q v H' := fun {ob} eo nd c => by
        obtain ⟨l, e1, q⟩ := rep.alive eo nd
        exact c _ v H' s1 rt ⟨l, rep.pick1 (by omega) e1 eo, p2 l e1, st.fresh k l (by omega) e1⟩
      split at c
      · rename_i xs eo
        exact fin eo (by simp) c
      · rename_i xs eo
        exact fin eo (by simp) c
      · rename_i cc fs kd eo
        exact fin eo (by simp) c
      · exact c.elim
end
/-! ### a def of the text -/
structure DefF (T : Tab) (g : GS) (K : PySem.W.Frag) (mg : Str → Option Value) (P : Prog) (f : Nat) (d : FD) (ps : List Str) : Prop where
  ex : ∃ (nm qual : Str) (params : Arguments) (body : List Stmt) (scope : Scope) (dvs : List V) (kws : List (Str × V)) (fd : FuncData) (N : List Str),
    FunD K nm qual params body scope dvs kws (g.fa f) fd ∧ FnScope N ps scope ∧ ps.length = d.np ∧ N.length = d.ns ∧ d.np ≤ d.ns ∧ okSs T d.body ⟨N, scope, none⟩ body = true ∧ Binds K fd ps [] ∧
    ∀ n ks, (f, n, ks) ∈ T.pats → ∃ (ds : List Value) (ws : List V), CallB K fd ps n (ks.map (·.1)) (ks.map (·.2)) ds ∧ Vals ws ds ∧ ∀ o H, DenL g o H d.df ws
/-- the class's __init__ in the text -/
def T0 (T : Tab) : Tab := ⟨[], [], [], T.frees, [], false, [], [], [], []⟩
structure InitF (T : Tab) (g : GS) (K : PySem.W.Frag) (f cl : Nat) : Prop where
  ex : ∃ (nm qual : Str) (params : Arguments) (body : List Stmt) (scope : Scope) (fd : FuncData) (N ps : List Str), FunD K nm qual params body scope [] [] (g.fa f) fd ∧ FnScope N ps scope ∧ ps.length = 2 ∧ N.length = 2 ∧ okInit (T0 T) ⟨N, scope, none⟩ body = true ∧ Binds K fd ps []
  cls : Cls K (g.ca cl)
  nB : NoAttr K (g.ca cl) nmB
  nM : NoAttr K (g.ca cl) nmM
  nO : NoAttr K (g.ca cl) nmO
  nK : NoAttr K (g.ca cl) nmK
/-- all that is known of a program -/
structure ProgF (T : Tab) (g : GS) (K : PySem.W.Frag) (mg : Str → Option Value) (P : Prog) (pss : List (List Str)) : Prop where
  defs : ∀ f d, P[f]? = some d → DefF T g K mg P f d (pss.getD f [])
  pats : ∀ f n ks, (f, n, ks) ∈ T.pats → ∃ d, P[f]? = some d
  gK : g.K = K
  fns : ∀ x f, (x, f) ∈ T.fns → mg x = some (.ref (g.fa f))
  nums : ∀ x i, (x, i) ∈ T.nums → ∃ u, mg x = some u ∧ L2.RelV (.int i) u
  txts : ∀ x z, (x, z) ∈ T.txts → ∃ u, mg x = some u ∧ L2.RelV (.str z) u
  frees : ∀ x, x ∈ T.frees → mg x = none
  dig : T.dig = true → PySem.W.nsIn K cStatics "sys.int_max_str_digits" = some none
  mths : ∀ cl m f, (cl, m, f) ∈ T.mths → Cls K (g.ca cl) ∧ Meth K (g.ca cl) m (g.fa f)
  flds : ∀ cl y, (cl, y) ∈ T.flds → Cls K (g.ca cl) ∧ NoAttr K (g.ca cl) y
  mks : ∀ x cl f, (x, cl, f) ∈ T.mks → mg x = some (.ref (g.ca cl)) ∧ Mk K (g.ca cl) (g.fa f) ∧ InitF T g K f cl
  xcs : ∀ x i, (x, i) ∈ T.xcs → mg x = some (.ref (g.ca i)) ∧ ExcOk K (g.ca i) ∧ ExI K (g.ca i)
  xms : ∀ x i y j, (x, i) ∈ T.xcs → (y, j) ∈ T.xcs → PySem.W.exmOne K (.ref (g.ca i)) (.ref (g.ca j)) = some (decide (i = j))
theorem cc_lv (P : Prog) (n : Nat) : (cc P n).lv = n := by cases n <;> rfl
theorem cc_np (P : Prog) (n f : Nat) : (cc P n).np f = (P[f]?.map FD.np).getD 0 := by cases n <;> rfl
theorem cc_df (P : Prog) (n f : Nat) : (cc P n).df f = (P[f]?.map FD.df).getD [] := by cases n <;> rfl
section
variable {T : Tab} {g : GS} {K : PySem.W.Frag} {mg : Str → Option Value} {Pg : Prog} {P : Program} {w : World} {base : Heap}
/-- at level n every def keeps its promise -/
def AtL (T : Tab) (g : GS) (K : PySem.W.Frag) (mg : Str → Option Value) (Pg : Prog) (pss : List (List Str)) (P : Program) (w : World) (base : Heap) (n : Nat) : Prop :=
  ∀ f d, Pg[f]? = some d → ∃ (fd : FuncData), FnOk P w K mg base (L2.CX P w) n (g.fa f) fd (pss.getD f []) (spV g (cc Pg n) f (pss.getD f []).length) ∧ (pss.getD f []).length = d.np ∧ PySem.W.keepIn K (.ref (g.fa f)) = true ∧ Binds K fd (pss.getD f []) [] ∧ (∃ oc od osl, K.lookup (g.fa f) = some ⟨oc, od, .func fd, osl⟩) ∧
    ∀ m ks, (f, m, ks) ∈ T.pats → ∃ (ds : List Value) (ws : List V), CallB K fd (pss.getD f []) m (ks.map (·.1)) (ks.map (·.2)) ds ∧ Vals ws ds ∧ ∀ o H, DenL g o H d.df ws
theorem start_rel {x : Addr → Prop} {φ : Phi} {H : Hp} {ss : List S} {vs : List V} {N : List Str} (d : DenSs g x φ H ss vs) : RelS g x φ H (ss.map some ++ List.replicate (N.length - ss.length) none) (L2.start N vs) := by
  have b := bes_dens d
  refine ⟨by unfold L2.start; simp [DenSs.len d], fun i s e => ?_⟩
  by_cases hi : i < ss.length
  · rw [List.getElem?_append_left (by simpa using hi), List.getElem?_map] at e
    cases e1 : ss[i]? with
    | none => rw [e1] at e; cases e
    | some s' =>
      rw [e1] at e
      cases e
      obtain ⟨v, e2, r⟩ := b.2 i s e1
      refine ⟨v, ?_, r⟩
      unfold L2.start
      rw [List.getElem?_append_left (by simp [DenSs.len d, hi]), List.getElem?_map, e2]
      rfl
  · rw [List.getElem?_append_right (by simpa using hi)] at e
    have := List.mem_of_getElem? e
    have := List.eq_of_mem_replicate this
    cases this
theorem FunD.at_ {nm qual : Str} {params : Arguments} {body : List Stmt} {scope : Scope} {dvs : List V} {kws : List (Str × V)} {f : Addr} {fd : FuncData} (F : FunD K nm qual params body scope dvs kws f fd) : ∃ oc od osl, K.lookup f = some ⟨oc, od, .func fd, osl⟩ := by
  obtain ⟨oc, od, dV, kV, doc, pm, an, cdv, ct, osl, _, lk, _⟩ := F.ex
  exact ⟨oc, od, osl, lk⟩
variable {pss : List (List Str)}
/-- with no exception wished for -/
theorem FnOk.calm {n : Nat} {f : Addr} {fd : FuncData} {ps : List Str} {sp : Sp} (F : FnOk P w K mg base (L2.CX P w) n f fd ps sp) : FnOk P w K mg base CX0 n f fd ps (fun vs H Q _ => sp vs H Q fun _ _ _ => False) :=
  ⟨fun vs H Q E q => F.len _ _ _ _ q, fun A outer s H args us vs Q E hr e0 hb hv q => codeAny_mono (F.run A outer s H args us vs Q _ hr e0 hb hv q) fun r s' hq => by
    cases r with
    | error e => obtain ⟨_, _, _, _, _, _, _, _, _, _, _, _, z⟩ := hq; exact z.elim
    | ok fl => cases fl <;> exact hq⟩
theorem init_fn (gK : g.K = K) (frees : ∀ x, x ∈ T.frees → mg x = none) {f cl : Nat} (I : InitF T g K f cl) : ∃ (fd : FuncData) (ps : List Str), FnOk P w K mg base CX0 1 (g.fa f) fd ps (spHall g cl) ∧ Binds K fd ps [] := by
  obtain ⟨nm, qual, params, body, scope, fd, N, ps, F, S, l1, l2, ok, bd⟩ := I.ex
  refine ⟨fd, ps, FnOk.calm (sp := spHall g cl) (F.ok S (fun vs H Q E q => by rw [l1]; exact q.1) fun cdv A outer s H vs Q E hr q => ?_), bd⟩
  obtain ⟨hl, o, a, dx, v, u, fs, kd, rfl, h1, h2, h3, h4, h5, fin⟩ := q
  have G : GoodS (T0 T) g (cc [] 0) 0 ⟨N, scope, none⟩ (fun cls d _ H => E cls d H) (cxOf (L2.CX P w) P w K mg base N qual scope (g.fa f) cdv A outer s H E) := {
    hK := gK.symm
    hN := rfl
    nd := S.nd
    sc := rfl
    fn := fun _ => rfl
    calm := rfl
    tk := takes_of rfl rfl rfl rfl
    room := hr
    fns := fun x f h => by cases h
    nums := fun x f h => by cases h
    txts := fun x f h => by cases h
    frees := frees
    pats := fun f n ks h => by cases h
    any := fun f hf => absurd (by rw [cc_np]; rfl) hf
    dig := fun h => by cases h
    lvc := rfl
    mths := fun _ _ _ h => by cases h
    flds := fun _ _ h => by cases h
    mks := fun _ _ _ h => by cases h
    xcs := fun _ _ h => by cases h
    xms := fun _ _ _ _ h => by cases h
    hp := passes_of rfl
    hk := S.kind
    stk := rfl
    frm := rfl }
  obtain ⟨t, ht, run⟩ := init_run G.toGood ok I.cls I.nB I.nM I.nO I.nK
  refine ⟨t, ht, ?_⟩
  have e0 : L2.start N [.ref a, v] = [some (.ref a), some v] := by unfold L2.start; rw [l2]; rfl
  rw [e0]
  exact run a v _ H o dx u fs kd h1 h2 h3 h4 h5 fin
theorem atL (PF : ProgF T g K mg Pg pss) : ∀ n, AtL T g K mg Pg pss P w base n
  | 0 => fun f d hd => by
    obtain ⟨nm, qual, params, body, scope, dvs, kws, fd, N, F, S, l1, l2, l3, ok, bd, cb⟩ := (PF.defs f d hd).ex
    refine ⟨fd, ⟨fun vs H Q E q => q.1, fun A outer s H args us vs Q E _ _ _ _ q => ?_⟩, l1, F.kp, bd, FunD.at_ F, fun m ks hm => cb m ks hm⟩
    obtain ⟨_, x, φ, ss, os, _, _, c⟩ := q
    exact c.elim
  | n + 1 => fun f d hd => by
    have ih := atL PF n
    obtain ⟨nm, qual, params, body, scope, dvs, kws, fd, N, F, S, l1, l2, l3, ok, bd, cb⟩ := (PF.defs f d hd).ex
    refine ⟨fd, F.ok S (fun vs H Q E q => q.1) fun cdv A outer s H vs Q E hr q => ?_, l1, F.kp, bd, FunD.at_ F, fun m ks hm => cb m ks hm⟩
    obtain ⟨hl, x, φ, ss, os, ds, rep, c⟩ := q
    have hany : ∀ m, FnA (cxOf (L2.CX P w) P w K mg base N qual scope (g.fa f) cdv A outer s H E) g (cc Pg n) n m ∨ (cc Pg n).np m = 0 := fun m => by
      cases e : Pg[m]? with
      | none => exact .inr (by rw [cc_np, e]; rfl)
      | some d' =>
        obtain ⟨fd', F', h1, h2, h3, _⟩ := ih m d' e
        exact .inl ⟨fd', _, F', by rw [cc_np, e]; exact h1, h2, h3⟩
    have G : GoodS T g (cc Pg n) n ⟨N, scope, none⟩ (fun cls d _ H => E cls d H) (cxOf (L2.CX P w) P w K mg base N qual scope (g.fa f) cdv A outer s H E) := {
      hK := PF.gK.symm
      hN := rfl
      nd := S.nd
      sc := rfl
      fn := fun _ => rfl
      calm := rfl
      tk := takes_of rfl rfl rfl rfl
      room := hr
      fns := PF.fns
      nums := PF.nums
      txts := PF.txts
      frees := PF.frees
      pats := fun f' m ks hm => by
        obtain ⟨d', e⟩ := PF.pats f' m ks hm
        obtain ⟨fd', F', h1, h2, h3, _, h4⟩ := ih f' d' e
        obtain ⟨ds', ws', q1, q2, q3⟩ := h4 m ks hm
        refine ⟨fd', _, ds', ws', F', by rw [cc_np, e]; exact h1, h2, q1, q2, fun o H => ?_⟩
        rw [cc_df, e]
        exact q3 o H
      any := fun m hm => (hany m).resolve_right hm
      dig := PF.dig
      lvc := cc_lv Pg n
      mths := PF.mths
      flds := PF.flds
      mks := fun x cl f' hm => let ⟨q1, q2, q3⟩ := PF.mks x cl f' hm; ⟨q1, q2, init_fn PF.gK PF.frees q3⟩
      xcs := PF.xcs
      xms := PF.xms
      hp := passes_of rfl
      hk := S.kind
      stk := rfl
      frm := rfl }
    refine ⟨RDS g (fun cls d _ H => E cls d H) (evSs (cc Pg n) 1000000 d.body), okSs_ok d.body 1000000 G ok, ?_⟩
    have sl := DenSs.len ds
    have c : Cond g x (fun cls d _ H' => E cls d H') KV [] Q φ H (match Pg[f]? with
      | some d => runF (cc Pg n) 1000000 d ss os
      | none => .bad) := c
    rw [hd] at c
    have c : Cond g x (fun cls d _ H' => E cls d H') KV [] Q φ H (if ss.length = d.np then match evSs (cc Pg n) 1000000 d.body (ss.map some ++ List.replicate (d.ns - d.np) none) os with
      | .nx _ h => .ok (.v .non) (h.take os.length)
      | .rt r h => leave os.length r h
      | .ex e _ h => .ex e (h.take os.length)
      | _ => .bad else .bad) := c
    rw [if_pos (by rw [← sl, hl, l1])] at c
    have hns : d.ns - d.np = N.length - ss.length := by rw [l2, ← sl, hl, l1]
    rw [hns] at c
    refine ⟨x, φ, _, os, start_rel ds, rep, ?_⟩
    have ol : os.length = φ.length := rep.len.symm
    rw [ol] at c
    cases e1 : evSs (cc Pg n) 1000000 d.body (ss.map some ++ List.replicate (N.length - ss.length) none) os with
    | bad => rw [e1] at c; exact c.elim
    | bk ρ h => rw [e1] at c; exact c.elim
    | ct ρ h => rw [e1] at c; exact c.elim
    | nx ρ h =>
      rw [e1] at c
      intro φ' σ' H' st rs' rep'
      exact c _ V.non H' st.take (rep'.take _) rfl
    | rt r h =>
      rw [e1] at c
      intro φ' v H' st rep' p
      exact leave_ok c st rep' p
    | ex z ρ h =>
      rw [e1] at c
      intro φ' σ' H' cls dd st rs' rep' ev
      exact c _ H' cls dd st.take (rep'.take _) ev
theorem law_sp {n f np : Nat} (hnp : np = 1) (hlaw : ∀ ns : List Int, ns.length ≤ 63 → ∃ h, (cc Pg n).call f [.v (.frz (ns.map .int))] [] = .ok (.v (.bl true)) h) {H : Hp} {a : Addr} {ns : List Int} (hl : ns.length ≤ 63) (hO : Only H) (hS : SqL g.K H a (ns.map V.int)) :
    spV g (cc Pg n) f np [.ref a] H (fun v _ => v = .bl true) fun _ _ _ => False := by
  obtain ⟨h, e⟩ := hlaw ns hl
  refine ⟨hnp.symm, fun _ => False, [], [.v (.frz (ns.map .int))], [], ⟨_, _, rfl, ?_, rfl⟩, ⟨rfl, (fun n l e => by simp at e), (fun n e => by simp at e), by simp, (fun a o => by obtain ⟨l, hl, _⟩ := o; cases hl), fun a o => False.elim o⟩, ?_⟩
  · refine ⟨a, ns.map V.int, rfl, ?_, ?_⟩
    · rcases hS with (hS | ⟨ob, hS⟩) | hS
      · rcases hO a with z | ⟨o, xs, z⟩ <;> rw [hS] at z <;> cases z
      · exact .inl ⟨ob, hS, fun q => q.elim (fun ⟨l, hl, _⟩ => by cases hl) id⟩
      · exact .inr hS
    · have : ∀ l : List Int, DenL g (ow [] fun _ => False) H (l.map U.int) (l.map V.int) := fun l => by
        induction l with
        | nil => rfl
        | cons i l ih => exact ⟨_, _, rfl, rfl, ih⟩
      exact this ns
  · rw [e]
    intro φ' v H' _ _ p
    exact p
end
end VM

/-! From the head's words to the program's facts. -/
namespace VM
open PySem PySem.Spec PyProof.Rows L2 RZ
/-- where the defs stand -/
abbrev Ats := List (Str × Option Str)
def gOf (ats : Ats) (cas : List Str) (K : PySem.W.Frag) : GS := ⟨K, fun f => He.fAd K (ats.getD f ("", none)), fun c => He.ga K (cas.getD c "")⟩
/-- what is asked of the classes -/
def faC (T : Tab) (cas : List Str) : List He.Fa :=
  T.mths.map (fun p => He.Fa.cls (cas.getD p.1 "")) ++ (T.mths.map (fun p => He.Fa.meth (cas.getD p.1 "") p.2.1) ++ (T.flds.map (fun p => He.Fa.cls (cas.getD p.1 "")) ++ (T.flds.map (fun p => He.Fa.noat (cas.getD p.1 "") p.2) ++
    (T.mks.map (fun p => He.Fa.glo p.1) ++ (T.mks.map (fun p => He.Fa.mkr p.1) ++ (T.mks.map (fun p => He.Fa.cls p.1) ++ (T.mks.map (fun p => He.Fa.noat p.1 nmB) ++ (T.mks.map (fun p => He.Fa.noat p.1 nmM) ++ (T.mks.map (fun p => He.Fa.noat p.1 nmO) ++ (T.mks.map (fun p => He.Fa.noat p.1 nmK) ++
    (T.xcs.map (fun p => He.Fa.glo p.1) ++ (T.xcs.map (fun p => He.Fa.exc p.1) ++ (T.xcs.map fun p => T.xcs.map fun q => He.Fa.exm p.1 q.1 (decide (p.2 = q.2))).flatten))))))))))))
def faOf (T : Tab) (cas : List Str) : List He.Fa := T.fns.map (fun p => He.Fa.glo p.1) ++ (T.frees.map He.Fa.free ++ (T.txts.map (fun p => He.Fa.str p.1 p.2) ++ (T.nums.map (fun p => He.Fa.int p.1 p.2) ++ faC T cas)))
/-- what isinstance asks, as a test -/
def exiB (K : PySem.W.Frag) (C : Addr) : Bool := (PySem.W.clsIn K C).isSome && (He.eqO (PySem.W.findIn K (.ref C) "__getattribute__") (some (some (.builtin "BaseException.__getattribute__"))) && (He.eqO (PySem.W.findIn K (.ref C) "__getattr__") (some none) &&
  (decide (PySem.W.subIn K (.ref C) (.type "BaseException") = some true) && (He.eqO (PySem.W.findIn K (.ref C) "__class__") (some (some (.builtin "object.__class__"))) && (He.eqO (PySem.W.specialIn K (.builtin "object.__class__") "__get__") (some (some (.builtin "getset_descriptor.__get__"))) &&
  (decide (PySem.W.takesIn K (.builtin "object.__class__") = some true) && (decide (PySem.W.mroIn K C (.type "object") = some true) && decide (PySem.W.kitOne K (.ref C) (.type "ValueError") = some true))))))))
theorem exiB_ok {K : PySem.W.Frag} {C : Addr} (h : exiB K C = true) : ExI K C := by
  unfold exiB at h
  obtain ⟨h1, h⟩ := Bool.and_eq_true_iff.mp h
  obtain ⟨h2, h⟩ := Bool.and_eq_true_iff.mp h
  obtain ⟨h3, h⟩ := Bool.and_eq_true_iff.mp h
  obtain ⟨h4, h⟩ := Bool.and_eq_true_iff.mp h
  obtain ⟨h5, h⟩ := Bool.and_eq_true_iff.mp h
  obtain ⟨h6, h⟩ := Bool.and_eq_true_iff.mp h
  obtain ⟨h7, h⟩ := Bool.and_eq_true_iff.mp h
  obtain ⟨h8, h9⟩ := Bool.and_eq_true_iff.mp h
  exact ⟨h1, He.eqO_ok h2, He.eqO_ok h3, of_decide_eq_true h4, He.eqO_ok h5, He.eqO_ok h6, of_decide_eq_true h7, of_decide_eq_true h8, of_decide_eq_true h9⟩
def exiA (K : PySem.W.Frag) (xs : List Str) : Bool := xs.all fun x => exiB K (He.ga K x)
/-! ### the head's hook, with the limit on digits -/
def frM (g : Addr → Option Obj) (n : Nat) : PySem.W.Frag := He.frG g (cStatics :: He.asD g n)
abbrev ObM := He.AlD × Option (Option Value) × Bool
def obsM (n : Nat) (xs : List Str) (fa : List He.Fa) (fn : List He.DefD) (g : Addr → Option Obj) : ObM := (He.obsD fa fn (frM g n), PySem.W.nsIn (frM g n) cStatics "sys.int_max_str_digits", exiA (frM g n) xs)
def hookM (n : Nat) (xs : List Str) (fa : List He.Fa) (fn : List He.DefD) : PySem.W.Hook where
  α := ObM
  obs := fun s => obsM n xs fa fn s.heap.get?
  val := fun _ => (He.valD fn, some none, true)
  says := fun _ h => ∃ K : PySem.W.Frag, K.In h ∧ He.SaysD fa fn K ∧ PySem.W.nsIn K cStatics "sys.int_max_str_digits" = some none ∧ exiA K xs = true
  of := fun _ _ e => ⟨_, He.frG_in, congrArg (fun q : ObM => q.1) e, congrArg (fun q : ObM => q.2.1) e, congrArg (fun q : ObM => q.2.2) e⟩
  keeps := fun _ _ _ ⟨K, hK, c⟩ k => ⟨K, PySem.W.Frag.In.keeps hK k, c⟩
theorem obsM_eq {n : Nat} {xs : List Str} {fa : List He.Fa} {fn : List He.DefD} {g : Addr → Option Obj} {s : Shared} (h : ∀ a, g a = s.heap.get? a) : obsM n xs fa fn g = (hookM n xs fa fn).obs s := by
  have e : g = s.heap.get? := funext h
  rw [e]
  rfl
/-! the head's run looked at in parts -/
def okFn (fn : List He.DefD) (K : PySem.W.Frag) : He.AlD := (fn.all fun d => d.ok K, fn.map fun d => He.fnW K d.at_)
theorem obs_join {n : Nat} {xs : List Str} {fa : List He.Fa} {fn : List He.DefD} {g : Addr → Option Obj} (a : Nat) (h1 : (fa.all fun f => f.ok (frM g n)) = true) (h2 : okFn (fn.take a) (frM g n) = (true, (fn.take a).map He.DefD.val))
    (h3 : okFn (fn.drop a) (frM g n) = (true, (fn.drop a).map He.DefD.val)) (h4 : PySem.W.nsIn (frM g n) cStatics "sys.int_max_str_digits" = some none) (h5 : exiA (frM g n) xs = true) : obsM n xs fa fn g = (He.valD fn, some none, true) := by
  unfold obsM He.obsD He.valD
  unfold okFn at h2 h3
  have a1 := congrArg (fun z : He.AlD => z.1) h2
  have a2 := congrArg (fun z : He.AlD => z.2) h2
  have b1 := congrArg (fun z : He.AlD => z.1) h3
  have b2 := congrArg (fun z : He.AlD => z.2) h3
  dsimp only at a1 a2 b1 b2
  have e : fn = fn.take a ++ fn.drop a := (List.take_append_drop a fn).symm
  have c1 : (fn.all fun d => d.ok (frM g n)) = true := by rw [e, List.all_append, a1, b1]; rfl
  have c2 : (fn.map fun d => He.fnW (frM g n) d.at_) = fn.map He.DefD.val := by
    rw [e, List.map_append, List.map_append, a2, b2]
  rw [h1, c1, c2, h4, h5]
  rfl
section
variable {T : Tab} {ats : Ats} {cas : List Str} {K : PySem.W.Frag} {mg : Str → Option Value} {Pg : Prog} {fn : List He.DefD} {h : Heap}
theorem fact_mem {fa : List He.Fa} (c : He.SaysD fa fn K) {f : He.Fa} (hf : f ∈ fa) : f.ok K = true := by
  obtain ⟨i, hi, e⟩ := List.mem_iff_getElem.mp hf
  exact c.fact i (f := f) (by rw [List.getElem?_eq_getElem hi, e])
/-- the binding of a pattern with names -/
def KwB (d : He.DefD) (ps : List Str) (n : Nat) (ks : List (Str × Nat)) : Prop := ∀ (kV doc pm : Value) (an : Option Addr) (cdv ct : Value) (us ws full : List Value), us.length = n → ws.length = ks.length → arrG ps.length us (ks.map (·.2)) ws [] = some full →
  bindArgs (PySem.W.fnOf d.name d.qual d.params d.body d.scope .none kV doc pm an cdv ct) ⟨us, (ks.map (·.1)).zip ws⟩ = pure (ps.zip full)
def PlB (d : He.DefD) (ps : List Str) : Prop := ∀ (kV doc pm : Value) (an : Option Addr) (cdv ct : Value) (us : List Value), us.length = ps.length → bindArgs (PySem.W.fnOf d.name d.qual d.params d.body d.scope .none kV doc pm an cdv ct) ⟨us, []⟩ = pure (ps.zip us)
theorem plainPat {i n : Nat} {ks : List (Str × Nat)} (h : (T.pats.all fun p => p.1 != i || p.2.2.isEmpty) = true) (hm : (i, n, ks) ∈ T.pats) : ks = [] := by
  have := List.all_eq_true.mp h _ hm
  simpa using this
theorem defF_of {fa : List He.Fa} (c : He.SaysD fa fn K) (i : Nat) {d : He.DefD} (hd : fn[i]? = some d) (hat : ats[i]? = some d.at_) (h0 : d.dfl = []) (h1 : d.kwd = []) {fdm : FD} (N ps : List Str) (S : FnScope N ps d.scope) (l1 : ps.length = fdm.np) (l2 : N.length = fdm.ns) (l3 : fdm.np ≤ fdm.ns) (hdf : fdm.df = [])
    (ok : okSs T fdm.body ⟨N, d.scope, none⟩ d.body = true) (hb : PlB d ps) (hp : ∀ n ks, (i, n, ks) ∈ T.pats → ks = [] ∨ KwB d ps n ks) : DefF T (gOf ats cas K) K mg Pg i fdm ps := by
  obtain ⟨fd, F⟩ := c.def_ i hd
  have e0 : d.dvs K = [] := by unfold He.DefD.dvs; rw [h0]; rfl
  have e1 : d.kws K = [] := by unfold He.DefD.kws; rw [h1]; rfl
  rw [e0, e1] at F
  have ea : He.fAd K d.at_ = (gOf ats cas K).fa i := by
    show _ = He.fAd K (ats.getD i ("", none))
    rw [List.getD_eq_getElem?_getD, hat]
    rfl
  rw [ea] at F
  have B : Binds K fd ps [] := F.bindsN hb
  refine ⟨d.name, d.qual, d.params, d.body, d.scope, [], [], fd, N, F, S, l1, l2, l3, ok, B, fun n ks hm => ?_⟩
  refine ⟨[], [], ?_, .nil, fun o H => by rw [hdf]; rfl⟩
  rcases hp n ks hm with rfl | hk
  · exact CallB.plain B
  · obtain ⟨oc, od, dV, kV, doc, pm, an, cdv, ct, osl, rfl, lk, hcd, hD, hK⟩ := F.ex
    rcases hD with ⟨_, rfl⟩ | ⟨e, _⟩
    · exact ⟨fun s us ws full _ q1 q2 q3 => .of_eq (hk kV doc pm an cdv ct us ws full q1 (by rw [q2, List.length_map]) q3)⟩
    · exact absurd rfl e
/-- with a whole number that stands by itself for the last of three -/
theorem defF_of1 {fa : List He.Fa} (c : He.SaysD fa fn K) (i : Nat) {d : He.DefD} {dv : Int} (hd : fn[i]? = some d) (hat : ats[i]? = some d.at_) (h0 : d.dvs K = [.int dv]) (h1 : d.kwd = []) {fdm : FD} (N ps : List Str) (S : FnScope N ps d.scope) (l1 : ps.length = fdm.np) (l2 : N.length = fdm.ns) (l3 : fdm.np ≤ fdm.ns) (hdf : fdm.df = [.int dv])
    (ok : okSs T fdm.body ⟨N, d.scope, none⟩ d.body = true) (hp3 : ps.length = 3)
    (hb : ∀ (t : Addr) (kV doc pm : Value) (an : Option Addr) (cdv ct : Value) (us its : List Value), us.length = 3 → its.length = 1 → ∃ k, bindArgs (PySem.W.fnOf d.name d.qual d.params d.body d.scope (.ref t) kV doc pm an cdv ct) ⟨us, []⟩ = seqItems? (.ref t) >>= k ∧ k (some its.toArray) = pure (ps.zip (us ++ its.drop 1)))
    (hb2 : ∀ (t : Addr) (kV doc pm : Value) (an : Option Addr) (cdv ct : Value) (us its : List Value), us.length = 2 → its.length = 1 → ∃ k, bindArgs (PySem.W.fnOf d.name d.qual d.params d.body d.scope (.ref t) kV doc pm an cdv ct) ⟨us, []⟩ = seqItems? (.ref t) >>= k ∧ k (some its.toArray) = pure (ps.zip (us ++ its.drop 0)))
    (hpt : (T.pats.all fun p => p.1 != i || ((p.2.1 == 2 || p.2.1 == 3) && p.2.2.isEmpty)) = true) : DefF T (gOf ats cas K) K mg Pg i fdm ps := by
  obtain ⟨fd, F⟩ := c.def_ i hd
  have e1 : d.kws K = [] := by unfold He.DefD.kws; rw [h1]; rfl
  rw [h0, e1] at F
  have ea : He.fAd K d.at_ = (gOf ats cas K).fa i := by
    show _ = He.fAd K (ats.getD i ("", none))
    rw [List.getD_eq_getElem?_getD, hat]
    rfl
  rw [ea] at F
  obtain ⟨ds3, v3, B3⟩ := F.binds1 (ps := ps) 3 1 (by simp) (by simp [hp3]) (fun t kV doc pm an cdv ct us its l1 l2 => hb t kV doc pm an cdv ct us its l1 (by simpa using l2))
  obtain ⟨ds2, v2, B2⟩ := F.binds1 (ps := ps) 2 0 (by simp) (by simp [hp3]) (fun t kV doc pm an cdv ct us its l1 l2 => hb2 t kV doc pm an cdv ct us its l1 (by simpa using l2))
  have e3 : ds3 = [] := by cases v3; rfl
  subst e3
  refine ⟨d.name, d.qual, d.params, d.body, d.scope, [.int dv], [], fd, N, F, S, l1, l2, l3, ok, B3, fun n ks hm => ?_⟩
  have hq := List.all_eq_true.mp hpt _ hm
  have hq : (n == 2 || n == 3) && ks.isEmpty := by simpa using hq
  obtain ⟨q1, q2⟩ := Bool.and_eq_true_iff.mp hq
  have hk : ks = [] := by simpa using q2
  subst hk
  refine ⟨ds2, [.int dv], ?_, v2, fun o H => by rw [hdf]; exact ⟨_, _, rfl, rfl, rfl⟩⟩
  have l2' : ds2.length = 1 := v2.length.symm
  match ds2, l2' with
  | [dd], _ =>
    refine ⟨fun s us ws full kin l1 l2 e => ?_⟩
    have hw : ws = [] := by simpa using l2
    subst hw
    rw [hp3] at e
    rcases Bool.or_eq_true_iff.mp q1 with q | q
    · have : n = 2 := by simpa using q
      subst this
      match us, l1 with
      | [a, b], _ =>
        have hf : full = [a, b, dd] := by cases e; rfl
        subst hf
        exact B2 s [a, b] kin (by simp [hp3])
    · have : n = 3 := by simpa using q
      subst this
      match us, l1 with
      | [a, b, cc], _ =>
        have hf : full = [a, b, cc] := by cases e; rfl
        subst hf
        have := B3 s [a, b, cc] kin (by simp [hp3])
        rw [List.append_nil] at this
        exact this
/-- the class's __init__ -/
theorem initF_of {fa : List He.Fa} (c : He.SaysD fa fn K) (i cl : Nat) {d : He.DefD} (hd : fn[i]? = some d) (hat : ats[i]? = some d.at_) (h0 : d.dfl = []) (h1 : d.kwd = []) (N ps : List Str) (S : FnScope N ps d.scope) (l1 : ps.length = 2) (l2 : N.length = 2) (ok : okInit (T0 T) ⟨N, d.scope, none⟩ d.body = true) (hb : PlB d ps)
    (cls : Cls K ((gOf ats cas K).ca cl)) (nB : NoAttr K ((gOf ats cas K).ca cl) nmB) (nM : NoAttr K ((gOf ats cas K).ca cl) nmM) (nO : NoAttr K ((gOf ats cas K).ca cl) nmO) (nK : NoAttr K ((gOf ats cas K).ca cl) nmK) : InitF T (gOf ats cas K) K i cl := by
  obtain ⟨fd, F⟩ := c.def_ i hd
  have e0 : d.dvs K = [] := by unfold He.DefD.dvs; rw [h0]; rfl
  have e1 : d.kws K = [] := by unfold He.DefD.kws; rw [h1]; rfl
  rw [e0, e1] at F
  have ea : He.fAd K d.at_ = (gOf ats cas K).fa i := by
    show _ = He.fAd K (ats.getD i ("", none))
    rw [List.getD_eq_getElem?_getD, hat]
    rfl
  rw [ea] at F
  exact ⟨⟨d.name, d.qual, d.params, d.body, d.scope, fd, N, ps, F, S, l1, l2, ok, F.bindsN hb⟩, cls, nB, nM, nO, nK⟩
/-- what stands of an __init__ in the text -/
def IniT (T : Tab) (ats : Ats) (fn : List He.DefD) (f : Nat) : Prop := ∃ (d : He.DefD) (N ps : List Str), fn[f]? = some d ∧ ats[f]? = some d.at_ ∧ d.dfl = [] ∧ d.kwd = [] ∧ FnScope N ps d.scope ∧ ps.length = 2 ∧ N.length = 2 ∧ okInit (T0 T) ⟨N, d.scope, none⟩ d.body = true ∧ PlB d ps
theorem progF_of (hdig : T.dig = true → PySem.W.nsIn K cStatics "sys.int_max_str_digits" = some none) (hexi : exiA K (T.xcs.map (·.1)) = true) (c : He.SaysD (faOf T cas) fn K) (X : K.In h) (G : h.Ns mainGlobals mg) {pss : List (List Str)} (hdefs : ∀ f d, Pg[f]? = some d → DefF T (gOf ats cas K) K mg Pg f d (pss.getD f [])) (hpats : (T.pats.all fun p => decide (p.1 < Pg.length)) = true) (hfns : (T.fns.all fun p => decide (ats[p.2]? = some (p.1, none))) = true)
    (hmths : (T.mths.all fun p => decide (ats[p.2.2]? = some (cas.getD p.1 "", some p.2.1))) = true) (hmks : (T.mks.all fun p => decide (cas.getD p.2.1 "" = p.1) && decide (ats[p.2.2]? = some (p.1, some ("__init__" : Str)))) = true) (hxcs : (T.xcs.all fun p => decide (cas.getD p.2 "" = p.1)) = true) (hini : ∀ x cl f, (x, cl, f) ∈ T.mks → IniT T ats fn f) : ProgF T (gOf ats cas K) K mg Pg pss := by
  have fm : ∀ {f : He.Fa}, f ∈ faC T cas → f.ok K = true := fun {f} hf => fact_mem c (List.mem_append_right _ (List.mem_append_right _ (List.mem_append_right _ (List.mem_append_right _ hf))))
  exact {
  defs := hdefs
  pats := fun f n ks hm => by
    have := List.all_eq_true.mp hpats _ hm
    have : f < Pg.length := by simpa using this
    exact ⟨_, List.getElem?_eq_getElem this⟩
  gK := rfl
  fns := fun x f hm => by
    have e := He.glo_ok X G (x := x) (fact_mem c (List.mem_append_left _ (List.mem_map.mpr ⟨(x, f), hm, rfl⟩)))
    have q := List.all_eq_true.mp hfns _ hm
    have q : ats[f]? = some (x, none) := of_decide_eq_true q
    rw [e]
    show _ = some (Value.ref (He.fAd K (ats.getD f ("", none))))
    rw [List.getD_eq_getElem?_getD, q]
    rfl
  nums := fun x i hm => by
    obtain ⟨t, e⟩ := He.int_ok X G (x := x) (i := i) (fact_mem c (List.mem_append_right _ (List.mem_append_right _ (List.mem_append_right _ (List.mem_append_left _ (List.mem_map.mpr ⟨(x, i), hm, rfl⟩))))))
    exact ⟨_, e, t, rfl⟩
  txts := fun x z hm => by
    obtain ⟨t, e⟩ := He.str_ok X G (x := x) (z := z) (fact_mem c (List.mem_append_right _ (List.mem_append_right _ (List.mem_append_left _ (List.mem_map.mpr ⟨(x, z), hm, rfl⟩)))))
    exact ⟨_, e, t, rfl⟩
  dig := hdig
  frees := fun x hm => He.free_ok X G (fact_mem c (List.mem_append_right _ (List.mem_append_left _ (List.mem_map.mpr ⟨x, hm, rfl⟩))))
  mths := fun cl m f hm => by
    have c1 := fm (f := He.Fa.cls (cas.getD cl "")) (by unfold faC; simp only [List.mem_append, List.mem_map]; exact .inl ⟨_, hm, rfl⟩)
    have c2 := fm (f := He.Fa.meth (cas.getD cl "") m) (by unfold faC; simp only [List.mem_append, List.mem_map]; exact .inr (.inl ⟨_, hm, rfl⟩))
    have q : ats[f]? = some (cas.getD cl "", some m) := of_decide_eq_true (List.all_eq_true.mp hmths _ hm)
    have e : (gOf ats cas K).fa f = He.ma K (He.ga K (cas.getD cl "")) m := by
      show He.fAd K (ats.getD f ("", none)) = _
      rw [List.getD_eq_getElem?_getD, q]
      rfl
    rw [e]
    exact ⟨He.cls_ok c1, He.meth_ok c2⟩
  flds := fun cl y hm => by
    have c1 := fm (f := He.Fa.cls (cas.getD cl "")) (by unfold faC; simp only [List.mem_append, List.mem_map]; exact .inr (.inr (.inl ⟨_, hm, rfl⟩)))
    have c2 := fm (f := He.Fa.noat (cas.getD cl "") y) (by unfold faC; simp only [List.mem_append, List.mem_map]; exact .inr (.inr (.inr (.inl ⟨_, hm, rfl⟩))))
    exact ⟨He.cls_ok c1, He.noat_ok c2⟩
  mks := fun x cl f hm => by
    have c1 := fm (f := He.Fa.glo x) (by unfold faC; simp only [List.mem_append, List.mem_map]; exact .inr (.inr (.inr (.inr (.inl ⟨_, hm, rfl⟩)))))
    have c2 := fm (f := He.Fa.mkr x) (by unfold faC; simp only [List.mem_append, List.mem_map]; exact .inr (.inr (.inr (.inr (.inr (.inl ⟨_, hm, rfl⟩))))))
    have c3 := fm (f := He.Fa.cls x) (by unfold faC; simp only [List.mem_append, List.mem_map]; exact .inr (.inr (.inr (.inr (.inr (.inr (.inl ⟨_, hm, rfl⟩)))))))
    have n1 := fm (f := He.Fa.noat x nmB) (by unfold faC; simp only [List.mem_append, List.mem_map]; exact .inr (.inr (.inr (.inr (.inr (.inr (.inr (.inl ⟨_, hm, rfl⟩))))))))
    have n2 := fm (f := He.Fa.noat x nmM) (by unfold faC; simp only [List.mem_append, List.mem_map]; exact .inr (.inr (.inr (.inr (.inr (.inr (.inr (.inr (.inl ⟨_, hm, rfl⟩)))))))))
    have n3 := fm (f := He.Fa.noat x nmO) (by unfold faC; simp only [List.mem_append, List.mem_map]; exact .inr (.inr (.inr (.inr (.inr (.inr (.inr (.inr (.inr (.inl ⟨_, hm, rfl⟩))))))))))
    have n4 := fm (f := He.Fa.noat x nmK) (by unfold faC; simp only [List.mem_append, List.mem_map]; exact .inr (.inr (.inr (.inr (.inr (.inr (.inr (.inr (.inr (.inr (.inl ⟨_, hm, rfl⟩)))))))))))
    obtain ⟨q1, q2⟩ := Bool.and_eq_true_iff.mp (List.all_eq_true.mp hmks _ hm)
    have q1 : cas.getD cl "" = x := of_decide_eq_true q1
    have q2 : ats[f]? = some (x, some ("__init__" : Str)) := of_decide_eq_true q2
    have e1 : (gOf ats cas K).ca cl = He.ga K x := by show He.ga K (cas.getD cl "") = _; rw [q1]
    have e2 : (gOf ats cas K).fa f = He.ma K (He.ga K x) "__init__" := by
      show He.fAd K (ats.getD f ("", none)) = _
      rw [List.getD_eq_getElem?_getD, q2]
      rfl
    obtain ⟨d, N, ps, t1, t2, t3, t4, t5, t6, t7, t8, t9⟩ := hini x cl f hm
    refine ⟨by rw [e1]; exact He.glo_ok X G c1, by rw [e1, e2]; exact He.mkr_ok c2, initF_of c f cl t1 t2 t3 t4 N ps t5 t6 t7 t8 t9 (by rw [e1]; exact He.cls_ok c3) (by rw [e1]; exact He.noat_ok n1) (by rw [e1]; exact He.noat_ok n2) (by rw [e1]; exact He.noat_ok n3) (by rw [e1]; exact He.noat_ok n4)⟩
  xcs := fun x i hm => by
    have c1 := fm (f := He.Fa.glo x) (by unfold faC; simp only [List.mem_append, List.mem_map]; exact .inr (.inr (.inr (.inr (.inr (.inr (.inr (.inr (.inr (.inr (.inr (.inl ⟨_, hm, rfl⟩))))))))))))
    have c2 := fm (f := He.Fa.exc x) (by unfold faC; simp only [List.mem_append, List.mem_map]; exact .inr (.inr (.inr (.inr (.inr (.inr (.inr (.inr (.inr (.inr (.inr (.inr (.inl ⟨_, hm, rfl⟩)))))))))))))
    have q : cas.getD i "" = x := of_decide_eq_true (List.all_eq_true.mp hxcs _ hm)
    have e1 : (gOf ats cas K).ca i = He.ga K x := by show He.ga K (cas.getD i "") = _; rw [q]
    obtain ⟨a1, a2, a3, a4⟩ := He.exc_ok c2
    have ex := List.all_eq_true.mp hexi x (List.mem_map.mpr ⟨_, hm, rfl⟩)
    rw [e1]
    exact ⟨He.glo_ok X G c1, ⟨a1, a2, a3, a4⟩, exiB_ok ex⟩
  xms := fun x i y j hm hm2 => by
    have c1 := fm (f := He.Fa.exm x y (decide (i = j))) (by
      unfold faC
      simp only [List.mem_append, List.mem_map, List.mem_flatten]
      exact .inr (.inr (.inr (.inr (.inr (.inr (.inr (.inr (.inr (.inr (.inr (.inr (.inr ⟨_, ⟨_, hm, rfl⟩, List.mem_map.mpr ⟨_, hm2, rfl⟩⟩)))))))))))))
    have q1 : cas.getD i "" = x := of_decide_eq_true (List.all_eq_true.mp hxcs _ hm)
    have q2 : cas.getD j "" = y := of_decide_eq_true (List.all_eq_true.mp hxcs _ hm2)
    have e1 : (gOf ats cas K).ca i = He.ga K x := by show He.ga K (cas.getD i "") = _; rw [q1]
    have e2 : (gOf ats cas K).ca j = He.ga K y := by show He.ga K (cas.getD j "") = _; rw [q2]
    rw [e1, e2]
    exact He.exm_ok c1 }
/-- the law's def in its place -/
theorem law_place {fa : List He.Fa} (c : He.SaysD fa fn K) {P : Program} {w : World} {pss : List (List Str)} {L lv : Nat} {d : FD} {x : Str} (PF : ProgF T (gOf ats cas K) K mg Pg pss) (hd : Pg[L]? = some d) (hps : pss.getD L [] = [x]) {dd : He.DefD} (hfn : fn[L]? = some dd) (hat : ats[L]? = some dd.at_) (h0 : dd.dfl = []) (h1 : dd.kwd = []) (hb : PlB dd [x])
    (law : ∀ ns : List Int, ns.length ≤ 63 → ∃ h, (cc Pg lv).call L [.v (.frz (ns.map .int))] [] = .ok (.v (.bl true)) h) :
    ∃ (fd : FuncData) (sp : Sp), (∀ (s : Shared) (u : Value), BindsTo s fd ⟨[u], []⟩ [(x, u)]) ∧ (∀ (H : Hp) (a : Addr) (ns : List Int), ns.length ≤ 63 → Only H → SqL K H a (ns.map V.int) → sp [.ref a] H (fun v _ => v = .bl true) fun _ _ _ => False) ∧
      ∀ base : Heap, FnOk P w K mg base CX0 lv ((gOf ats cas K).fa L) fd [x] sp := by
  obtain ⟨fd, F⟩ := c.def_ L hfn
  have e0 : dd.dvs K = [] := by unfold He.DefD.dvs; rw [h0]; rfl
  have e1 : dd.kws K = [] := by unfold He.DefD.kws; rw [h1]; rfl
  rw [e0, e1] at F
  have ea : He.fAd K dd.at_ = (gOf ats cas K).fa L := by
    show _ = He.fAd K (ats.getD L ("", none))
    rw [List.getD_eq_getElem?_getD, hat]
    rfl
  rw [ea] at F
  obtain ⟨oc, od, osl, lk⟩ := FunD.at_ F
  have b := FunD.bindsA (ps := [x]) F hb
  refine ⟨fd, fun vs H Q _ => spV (gOf ats cas K) (cc Pg lv) L 1 vs H Q fun _ _ _ => False, fun s u => b s [u] rfl, fun H a ns hl hO hS => law_sp rfl law hl hO (by rw [PF.gK]; exact hS), fun base => ?_⟩
  obtain ⟨fd', F', l1', _, _, ⟨oc', od', osl', lk'⟩, _⟩ := atL (P := P) (w := w) (base := base) PF lv L d hd
  rw [lk] at lk'
  cases lk'
  rw [hps] at F'
  exact FnOk.calm F'
end
end VM

namespace VM
open PySem L2
/-- 0: is_number(thing) -/
def b_is_number : ISs := (.cons (.ret (.and (.isi (.var 0) [.int]) (.nt (.isi (.var 0) [.bool])))) .nil)
def d_b_is_number : FD := ⟨1, 1, [], b_is_number⟩
/-- 1: is_within(thing, least, most) -/
def b_is_within : ISs := (.cons (.ret (.and (.call 0 (.cons (.var 0) .nil) [] .nil) (.ch .le .le (.var 1) (.var 0) (.var 2)))) .nil)
def d_b_is_within : FD := ⟨3, 3, [], b_is_within⟩
/-- 2: sure_within(thing, least, most) -/
def b_sure_within : ISs := (.cons (.ifs (.nt (.call 1 (.cons (.var 0) (.cons (.var 1) (.cons (.var 2) .nil))) [] .nil)) (.cons (.rse 2 ⟨#[85, 110, 102, 105, 116]⟩ .nil) .nil) .nil) (.cons (.ret (.var 0)) .nil))
def d_b_sure_within : FD := ⟨3, 3, [], b_sure_within⟩
/-- 3: is_long(thing, length) -/
def b_is_long : ISs := (.cons (.ret (.and (.isi (.var 0) [.tuple]) (.cmp .eq (.bi .len (.cons (.var 0) .nil)) (.var 1)))) .nil)
def d_b_is_long : FD := ⟨2, 2, [], b_is_long⟩
/-- 4: are_numbers(thing, own) -/
def b_are_numbers_1 : IE := (.call 0 (.cons (.var 1) .nil) [] .nil)
def b_are_numbers : ISs := (.cons (.ret (.and (.isi (.var 0) [.tuple]) (.bi .all (.cons (.lc (.nm 1) (.val (.var 0)) .none b_are_numbers_1 [(⟨#[111, 119, 110]⟩, 1)]) .nil)))) .nil)
def d_b_are_numbers : FD := ⟨1, 2, [], b_are_numbers⟩
/-- 5: tupled(value, own) -/
def b_tupled_1 : IE := (.call 5 (.cons (.var 1) .nil) [] .nil)
def b_tupled : ISs := (.cons (.ret (.ife (.isi (.var 0) [.list, .tuple]) (.bi .tuple (.cons (.lc (.nm 1) (.val (.var 0)) .none b_tupled_1 [(⟨#[111, 119, 110]⟩, 1)]) .nil)) (.var 0))) .nil)
def d_b_tupled : FD := ⟨1, 2, [], b_tupled⟩
/-- 6: common(one, other) -/
def b_common_1 : IE := (.cmp .ne (.var 1) (.c (.int 0)))
def b_common_2 : ISs := (.cons (.par [0, 1] (.cons (.var 1) (.cons (.bin .mod (.var 0) (.var 1)) .nil))) .nil)
def b_common : ISs := (.cons (.par [0, 1] (.cons (.bi .abs (.cons (.var 0) .nil)) (.cons (.bi .abs (.cons (.var 1) .nil)) .nil))) (.cons (.whl b_common_1 b_common_2) (.cons (.ret (.var 0)) .nil)))
def d_b_common : FD := ⟨2, 2, [], b_common⟩
/-- 7: chosen(many, some, found, own) -/
def b_chosen_1 : ISs := (.cons (.asg (.nm 2) (.bin .fdiv (.bin .mul (.var 2) (.bin .sub (.var 0) (.var 3))) (.bin .add (.var 3) (.c (.int 1))))) .nil)
def b_chosen : ISs := (.cons (.asg (.nm 2) (.c (.int 1))) (.cons (.fors (.nm 3) (.rng (.cons (.var 1) .nil)) b_chosen_1) (.cons (.ret (.var 2)) .nil)))
def d_b_chosen : FD := ⟨2, 4, [], b_chosen⟩
/-- 8: tie_of(book, low, high, many) -/
def b_tie_of : ISs := (.cons (.asg (.nm 3) (.bi .len (.cons (.idx (.var 0) (.c (.int 0))) .nil))) (.cons (.ret (.idx (.idx (.var 0) (.c (.int 2))) (.bin .sub (.bin .sub (.bin .add (.bin .sub (.bin .mul (.var 1) (.var 3)) (.bin .fdiv (.bin .mul (.var 1) (.bin .add (.var 1) (.c (.int 1)))) (.c (.int 2)))) (.var 2)) (.var 1)) (.c (.int 1))))) .nil))
def d_b_tie_of : FD := ⟨3, 4, [], b_tie_of⟩
/-- 9: lead_of(member, good, place, own) -/
def b_lead_of_1 : IE := (.var 2)
def b_lead_of : ISs := (.cons (.asg (.nm 1) (.lc (.tp (.cons (.nm 2) (.cons (.nm 3) .nil))) (.enm (.var 0)) (.some (.cmp .ne (.var 3) (.c (.int 0)))) b_lead_of_1 [(⟨#[112, 108, 97, 99, 101]⟩, 2), (⟨#[111, 119, 110]⟩, 3)])) (.cons (.ret (.ife (.cmp .gt (.bi .len (.cons (.var 1) .nil)) (.c (.int 0))) (.idx (.var 1) (.c (.int 0))) (.c .non))) .nil))
def d_b_lead_of : FD := ⟨1, 4, [], b_lead_of⟩
/-- 10: is_member_in(book, thing, own, order) -/
def b_is_member_in_1 : IE := (.or (.cmp .eq (.var 3) (.c (.int 0))) (.ch .le .lt (.c (.int 0)) (.var 2) (.var 3)))
def b_is_member_in : ISs := (.cons (.ifs (.or (.nt (.call 4 (.cons (.var 1) .nil) [] .nil)) (.cmp .ne (.bi .len (.cons (.var 1) .nil)) (.bi .len (.cons (.idx (.var 0) (.c (.int 0))) .nil)))) (.cons (.ret (.c (.bl false))) .nil) .nil) (.cons (.ret (.bi .all (.cons (.lc (.tp (.cons (.nm 2) (.cons (.nm 3) .nil))) (.zip (.var 1) (.idx (.var 0) (.c (.int 0)))) .none b_is_member_in_1 [(⟨#[111, 119, 110]⟩, 2), (⟨#[111, 114, 100, 101, 114]⟩, 3)]) .nil))) .nil))
def d_b_is_member_in : FD := ⟨2, 4, [], b_is_member_in⟩
/-- 11: sure_member(book, value, own, its) -/
def b_sure_member_1 : IE := (.cmp .gt (.bi .abs (.cons (.var 3) .nil)) (.gl ⟨#[77, 79, 83, 84, 95, 78, 85, 77, 66, 69, 82]⟩ (.int 1000)))
def b_sure_member : ISs := (.cons (.asg (.nm 2) (.call 5 (.cons (.var 1) .nil) [] .nil)) (.cons (.ifs (.or (.nt (.call 10 (.cons (.var 0) (.cons (.var 2) .nil)) [] .nil)) (.bi .any (.cons (.lc (.nm 3) (.val (.var 2)) .none b_sure_member_1 [(⟨#[105, 116, 115]⟩, 3)]) .nil))) (.cons (.rse 2 ⟨#[85, 110, 102, 105, 116]⟩ .nil) .nil) .nil) (.cons (.ret (.var 2)) .nil)))
def d_b_sure_member : FD := ⟨2, 4, [], b_sure_member⟩
/-- 12: sure_word(book, value, own, letter, often, pair) -/
def b_sure_word_1 : IE := (.call 3 (.cons (.var 5) (.cons (.c (.int 2)) .nil)) [] .nil)
def b_sure_word_2 : ISs := (.cons (.ifs (.or (.nt (.call 1 (.cons (.var 3) (.cons (.c (.int 0)) (.cons (.bin .sub (.bi .len (.cons (.idx (.var 0) (.c (.int 0))) .nil)) (.c (.int 1))) .nil))) [] .nil)) (.nt (.call 1 (.cons (.var 4) (.cons (.neg (.gl ⟨#[77, 79, 83, 84, 95, 78, 85, 77, 66, 69, 82]⟩ (.int 1000))) (.cons (.gl ⟨#[77, 79, 83, 84, 95, 78, 85, 77, 66, 69, 82]⟩ (.int 1000)) .nil))) [] .nil))) (.cons (.rse 2 ⟨#[85, 110, 102, 105, 116]⟩ .nil) .nil) .nil) .nil)
def b_sure_word : ISs := (.cons (.asg (.nm 2) (.call 5 (.cons (.var 1) .nil) [] .nil)) (.cons (.ifs (.or (.nt (.isi (.var 2) [.tuple])) (.or (.cmp .gt (.bi .len (.cons (.var 2) .nil)) (.c (.int 60))) (.nt (.bi .all (.cons (.lc (.nm 5) (.val (.var 2)) .none b_sure_word_1 [(⟨#[112, 97, 105, 114]⟩, 5)]) .nil))))) (.cons (.rse 2 ⟨#[85, 110, 102, 105, 116]⟩ .nil) .nil) .nil) (.cons (.fors (.tp (.cons (.nm 3) (.cons (.nm 4) .nil))) (.val (.var 2)) b_sure_word_2) (.cons (.ret (.var 2)) .nil))))
def d_b_sure_word : FD := ⟨2, 6, [], b_sure_word⟩
/-- 13: is_line(orders, line, first, own, order) -/
def b_is_line_1 : IE := (.cmp .ne (.var 3) (.c (.int 0)))
def b_is_line_2 : IE := (.ife (.cmp .gt (.var 4) (.c (.int 0))) (.ch .le .lt (.c (.int 0)) (.var 3) (.var 4)) (.c (.bl true)))
def b_is_line : ISs := (.cons (.ifs (.or (.nt (.call 4 (.cons (.var 1) .nil) [] .nil)) (.or (.cmp .ne (.bi .len (.cons (.var 1) .nil)) (.bi .len (.cons (.var 0) .nil))) (.bi .any (.cons (.lc (.nm 3) (.val (.slc (.var 1) .none (.some (.var 2)))) .none b_is_line_1 [(⟨#[111, 119, 110]⟩, 3)]) .nil)))) (.cons (.ret (.c (.bl false))) .nil) .nil) (.cons (.ret (.bi .all (.cons (.lc (.tp (.cons (.nm 3) (.cons (.nm 4) .nil))) (.zip (.var 1) (.var 0)) .none b_is_line_2 [(⟨#[111, 119, 110]⟩, 3), (⟨#[111, 114, 100, 101, 114]⟩, 4)]) .nil))) .nil))
def d_b_is_line : FD := ⟨3, 5, [], b_is_line⟩
/-- 14: pairs_of(many, low, high) -/
def b_pairs_of_1 : IE := (.tup (.cons (.var 1) (.cons (.var 2) .nil)))
def b_pairs_of : ISs := (.cons (.ret (.lc2 (.nm 1) (.rng (.cons (.var 0) .nil)) .none (.nm 2) (.rng (.cons (.bin .add (.var 1) (.c (.int 1))) (.cons (.var 0) .nil))) .none b_pairs_of_1 [(⟨#[108, 111, 119]⟩, 1), (⟨#[104, 105, 103, 104]⟩, 2)])) .nil)
def d_b_pairs_of : FD := ⟨1, 3, [], b_pairs_of⟩
/-- 15: is_book_of(thing, pairs, orders, powers, ties, place, own, low, high, its) -/
def b_is_book_of_1 : IE := (.or (.cmp .eq (.var 6) (.c (.int 0))) (.ch .le .le (.c (.int 2)) (.var 6) (.gl ⟨#[77, 79, 83, 84, 95, 79, 82, 68, 69, 82]⟩ (.int 1000))))
def b_is_book_of_2 : IE := (.cmp .ne (.var 9) (.c (.int 0)))
def b_is_book_of_3 : ISs := (.cons (.ifs (.or (.nt (.call 13 (.cons (.var 2) (.cons (.var 6) (.cons (.bin .add (.var 5) (.c (.int 1))) .nil))) [] .nil)) (.and (.cmp .eq (.idx (.var 2) (.var 5)) (.c (.int 0))) (.bi .any (.cons (.lc (.nm 9) (.val (.var 6)) .none b_is_book_of_2 [(⟨#[105, 116, 115]⟩, 9)]) .nil)))) (.cons (.ret (.c (.bl false))) .nil) .nil) .nil)
def b_is_book_of_4 : IE := (.call 13 (.cons (.var 2) (.cons (.var 6) (.cons (.bin .add (.var 8) (.c (.int 1))) .nil))) [] .nil)
def b_is_book_of : ISs := (.cons (.ifs (.or (.nt (.call 3 (.cons (.var 0) (.cons (.c (.int 3)) .nil)) [] .nil)) (.or (.nt (.call 4 (.cons (.idx (.var 0) (.c (.int 0))) .nil) [] .nil)) (.nt (.ch .le .le (.c (.int 1)) (.bi .len (.cons (.idx (.var 0) (.c (.int 0))) .nil)) (.gl ⟨#[77, 79, 83, 84, 95, 76, 69, 84, 84, 69, 82, 83]⟩ (.int 6)))))) (.cons (.ret (.c (.bl false))) .nil) .nil) (.cons (.asg (.tp (.cons (.nm 2) (.cons (.nm 3) (.cons (.nm 4) .nil)))) (.var 0)) (.cons (.ifs (.or (.nt (.bi .all (.cons (.lc (.nm 6) (.val (.var 2)) .none b_is_book_of_1 [(⟨#[111, 119, 110]⟩, 6)]) .nil))) (.nt (.call 3 (.cons (.var 3) (.cons (.bi .len (.cons (.var 2) .nil)) .nil)) [] .nil))) (.cons (.ret (.c (.bl false))) .nil) .nil) (.cons (.fors (.tp (.cons (.nm 5) (.cons (.nm 6) .nil))) (.enm (.var 3)) b_is_book_of_3) (.cons (.asg (.nm 1) (.call 14 (.cons (.bi .len (.cons (.var 2) .nil)) .nil) [] .nil)) (.cons (.ifs (.nt (.call 3 (.cons (.var 4) (.cons (.bi .len (.cons (.var 1) .nil)) .nil)) [] .nil)) (.cons (.ret (.c (.bl false))) .nil) .nil) (.cons (.ret (.bi .all (.cons (.lc (.tp (.cons (.nm 6) (.cons (.tp (.cons (.nm 7) (.cons (.nm 8) .nil))) .nil))) (.zip (.var 4) (.var 1)) .none b_is_book_of_4 [(⟨#[111, 119, 110]⟩, 6), (⟨#[108, 111, 119]⟩, 7), (⟨#[104, 105, 103, 104]⟩, 8)]) .nil))) .nil)))))))
def d_b_is_book_of : FD := ⟨1, 10, [], b_is_book_of⟩
/-- 16: is_small_book(book, line, own) -/
def b_is_small_book_1 : IE := (.cmp .le (.bi .abs (.cons (.var 2) .nil)) (.gl ⟨#[77, 79, 83, 84, 95, 78, 85, 77, 66, 69, 82]⟩ (.int 1000)))
def b_is_small_book : ISs := (.cons (.ret (.bi .all (.cons (.lc2 (.nm 1) (.val (.bin .add (.idx (.var 0) (.c (.int 1))) (.idx (.var 0) (.c (.int 2))))) .none (.nm 2) (.val (.var 1)) .none b_is_small_book_1 [(⟨#[108, 105, 110, 101]⟩, 1), (⟨#[111, 119, 110]⟩, 2)]) .nil))) .nil)
def d_b_is_small_book : FD := ⟨1, 3, [], b_is_small_book⟩
/-- 17: overlaps_at(book, low, found, many, orders, one, two) -/
def b_overlaps_at_1 : IE := (.tup (.cons (.c (.str ⟨#[112, 97, 105, 114]⟩)) (.cons (.var 1) (.cons (.var 5) (.cons (.var 6) .nil)))))
def b_overlaps_at_2 : IE := (.tup (.cons (.c (.str ⟨#[112, 111, 119, 101, 114]⟩)) (.cons (.var 1) (.cons (.var 5) .nil))))
def b_overlaps_at_3 : IE := (.tup (.cons (.c (.str ⟨#[116, 117, 114, 110]⟩)) (.cons (.var 1) (.cons (.var 5) .nil))))
def b_overlaps_at : ISs := (.cons (.asg (.tp (.cons (.nm 3) (.cons (.nm 4) .nil))) (.tup (.cons (.bi .len (.cons (.idx (.var 0) (.c (.int 0))) .nil)) (.cons (.idx (.var 0) (.c (.int 0))) .nil)))) (.cons (.asg (.nm 2) (.nr (.lc2 (.nm 5) (.rng (.cons (.bin .add (.var 1) (.c (.int 1))) (.cons (.var 3) .nil))) .none (.nm 6) (.rng (.cons (.bin .add (.var 5) (.c (.int 1))) (.cons (.var 3) .nil))) .none b_overlaps_at_1 [(⟨#[111, 110, 101]⟩, 5), (⟨#[116, 119, 111]⟩, 6)]))) (.cons (.ex (.met .extend (.var 2) (.cons (.lc (.nm 5) (.rng (.cons (.bin .add (.var 1) (.c (.int 1))) (.cons (.var 3) .nil))) (.some (.cmp .gt (.idx (.var 4) (.var 5)) (.c (.int 0)))) b_overlaps_at_2 [(⟨#[111, 110, 101]⟩, 5)]) .nil))) (.cons (.ifs (.cmp .gt (.idx (.var 4) (.var 1)) (.c (.int 0))) (.cons (.ex (.met .extend (.var 2) (.cons (.lc (.nm 5) (.rng (.cons (.bin .add (.var 1) (.c (.int 1))) (.cons (.var 3) .nil))) .none b_overlaps_at_3 [(⟨#[111, 110, 101]⟩, 5)]) .nil))) (.cons (.ex (.met .append (.var 2) (.cons (.tup (.cons (.c (.str ⟨#[111, 119, 110]⟩)) (.cons (.var 1) .nil))) .nil))) .nil)) .nil) (.cons (.ret (.var 2)) .nil)))))
def d_b_overlaps_at : FD := ⟨2, 7, [], b_overlaps_at⟩
/-- 18: sides_in(hall, overlap, images, power, word, low, book, next_one, tie, own, one, two) -/
def b_sides_in : ISs := (.cons (.par [4, 5] (.cons (.idx (.var 1) (.c (.int 0))) (.cons (.idx (.var 1) (.c (.int 1))) .nil))) (.cons (.par [6, 7] (.cons (.fld 3 (.var 0) ⟨#[98, 111, 111, 107]⟩) (.cons (.bin .add (.idx (.var 1) (.c (.int 1))) (.c (.int 1))) .nil))) (.cons (.asg (.nm 2) (.mth 3 ⟨#[105, 109, 97, 103, 101, 115]⟩ 72 (.var 0) (.cons (.var 5) (.cons (.c (.int 1)) .nil)))) (.cons (.ifs (.cmp .eq (.var 4) (.c (.str ⟨#[112, 97, 105, 114]⟩))) (.cons (.par [10, 11] (.cons (.idx (.var 2) (.bin .sub (.idx (.var 1) (.c (.int 2))) (.var 7))) (.cons (.idx (.var 2) (.bin .sub (.idx (.var 1) (.c (.int 3))) (.var 7))) .nil))) (.cons (.asg (.nm 8) (.mth 3 ⟨#[108, 101, 100]⟩ 75 (.var 0) (.cons (.var 5) (.cons (.call 8 (.cons (.var 6) (.cons (.idx (.var 1) (.c (.int 2))) (.cons (.idx (.var 1) (.c (.int 3))) .nil))) [] .nil) (.cons (.var 2) .nil))))) (.cons (.ret (.tup (.cons (.mth 3 ⟨#[116, 105, 109, 101, 115]⟩ 80 (.var 0) (.cons (.var 11) (.cons (.var 10) .nil))) (.cons (.mth 3 ⟨#[116, 105, 109, 101, 115]⟩ 80 (.var 0) (.cons (.mth 3 ⟨#[116, 105, 109, 101, 115]⟩ 80 (.var 0) (.cons (.var 10) (.cons (.var 11) .nil))) (.cons (.var 8) .nil))) .nil)))) .nil))) .nil) (.cons (.ifs (.cmp .eq (.var 4) (.c (.str ⟨#[112, 111, 119, 101, 114]⟩))) (.cons (.asg (.nm 9) (.idx (.var 1) (.c (.int 2)))) (.cons (.ret (.tup (.cons (.mth 3 ⟨#[112, 111, 119, 101, 114]⟩ 81 (.var 0) (.cons (.idx (.var 2) (.bin .sub (.var 9) (.var 7))) (.cons (.idx (.idx (.var 6) (.c (.int 0))) (.var 9)) .nil))) (.cons (.mth 3 ⟨#[108, 101, 100]⟩ 75 (.var 0) (.cons (.var 5) (.cons (.idx (.idx (.var 6) (.c (.int 1))) (.var 9)) (.cons (.var 2) .nil)))) .nil)))) .nil)) .nil) (.cons (.asg (.nm 3) (.idx (.idx (.var 6) (.c (.int 1))) (.var 5))) (.cons (.ifs (.cmp .eq (.var 4) (.c (.str ⟨#[116, 117, 114, 110]⟩))) (.cons (.asg (.nm 9) (.mth 3 ⟨#[108, 101, 116, 116, 101, 114]⟩ 69 (.var 0) (.cons (.idx (.var 1) (.c (.int 2))) .nil))) (.cons (.ret (.tup (.cons (.idx (.mth 3 ⟨#[105, 109, 97, 103, 101, 115]⟩ 72 (.var 0) (.cons (.var 5) (.cons (.idx (.idx (.var 6) (.c (.int 0))) (.var 5)) .nil))) (.bin .sub (.idx (.var 1) (.c (.int 2))) (.var 7))) (.cons (.mth 3 ⟨#[99, 97, 114, 114, 105, 101, 100]⟩ 83 (.var 0) (.cons (.var 9) (.cons (.var 3) .nil))) .nil)))) .nil)) .nil) (.cons (.ret (.tup (.cons (.mth 3 ⟨#[108, 101, 100]⟩ 75 (.var 0) (.cons (.var 5) (.cons (.var 3) (.cons (.var 2) .nil)))) (.cons (.var 3) .nil)))) .nil))))))))
def d_b_sides_in : FD := ⟨2, 12, [], b_sides_in⟩
/-- 19: first_parting(book, hall, low, overlap, sides) -/
def b_first_parting_1 : ISs := (.cons (.asg (.nm 4) (.call 18 (.cons (.var 1) (.cons (.var 3) .nil)) [] .nil)) (.cons (.ifs (.cmp .ne (.idx (.var 4) (.c (.int 0))) (.idx (.var 4) (.c (.int 1)))) (.cons (.ret (.bin .add (.tup (.cons (.var 3) .nil)) (.var 4))) .nil) .nil) .nil))
def b_first_parting_2 : ISs := (.cons (.fors (.nm 3) (.val (.call 17 (.cons (.var 0) (.cons (.var 2) .nil)) [] .nil)) b_first_parting_1) .nil)
def b_first_parting : ISs := (.cons (.asg (.nm 1) (.nr (.mk ⟨#[72, 97, 108, 108]⟩ 3 68 (.var 0)))) (.cons (.fors (.nm 2) (.rng (.cons (.bin .sub (.bi .len (.cons (.idx (.var 0) (.c (.int 0))) .nil)) (.c (.int 1))) (.cons (.neg (.c (.int 1))) (.cons (.neg (.c (.int 1))) .nil)))) b_first_parting_2) (.cons (.ret (.c .non)) .nil)))
def d_b_first_parting : FD := ⟨1, 5, [], b_first_parting⟩
/-- 20: sure_shape(value, own) -/
def b_sure_shape : ISs := (.cons (.asg (.nm 1) (.call 5 (.cons (.var 0) .nil) [] .nil)) (.cons (.ifs (.or (.nt (.call 15 (.cons (.var 1) .nil) [] .nil)) (.nt (.call 16 (.cons (.var 1) .nil) [] .nil))) (.cons (.rse 2 ⟨#[85, 110, 102, 105, 116]⟩ .nil) .nil) .nil) (.cons (.ret (.var 1)) .nil)))
def d_b_sure_shape : FD := ⟨1, 2, [], b_sure_shape⟩
/-- 21: sure_book(value, own) -/
def b_sure_book : ISs := (.cons (.asg (.nm 1) (.call 20 (.cons (.var 0) .nil) [] .nil)) (.cons (.ifs (.cmp .isn (.call 19 (.cons (.var 1) .nil) [] .nil) (.c .non)) (.cons (.rse 2 ⟨#[85, 110, 102, 105, 116]⟩ .nil) .nil) .nil) (.cons (.ret (.var 1)) .nil)))
def d_b_sure_book : FD := ⟨1, 2, [], b_sure_book⟩
/-- 22: is_member(book, thing) -/
def b_is_member : ISs := (.cons (.ret (.call 10 (.cons (.call 21 (.cons (.var 0) .nil) [] .nil) (.cons (.var 1) .nil)) [] .nil)) .nil)
def d_b_is_member : FD := ⟨2, 2, [], b_is_member⟩
/-- 23: is_word(book, thing, own, letter, often, pair) -/
def b_is_word_1 : IE := (.call 3 (.cons (.var 5) (.cons (.c (.int 2)) .nil)) [] .nil)
def b_is_word_2 : IE := (.and (.call 1 (.cons (.var 3) (.cons (.c (.int 0)) (.cons (.bin .sub (.bi .len (.cons (.idx (.var 2) (.c (.int 0))) .nil)) (.c (.int 1))) .nil))) [] .nil) (.call 0 (.cons (.var 4) .nil) [] .nil))
def b_is_word : ISs := (.cons (.asg (.nm 2) (.call 21 (.cons (.var 0) .nil) [] .nil)) (.cons (.ifs (.or (.nt (.isi (.var 1) [.tuple])) (.nt (.bi .all (.cons (.lc (.nm 5) (.val (.var 1)) .none b_is_word_1 [(⟨#[112, 97, 105, 114]⟩, 5)]) .nil)))) (.cons (.ret (.c (.bl false))) .nil) .nil) (.cons (.ret (.bi .all (.cons (.lc (.tp (.cons (.nm 3) (.cons (.nm 4) .nil))) (.val (.var 1)) .none b_is_word_2 [(⟨#[108, 101, 116, 116, 101, 114]⟩, 3), (⟨#[111, 102, 116, 101, 110]⟩, 4)]) .nil))) .nil)))
def d_b_is_word : FD := ⟨2, 6, [], b_is_word⟩
/-- 24: collected(book, word, hall) -/
def b_collected : ISs := (.cons (.asg (.nm 2) (.nr (.mk ⟨#[72, 97, 108, 108]⟩ 3 68 (.call 21 (.cons (.var 0) .nil) [] .nil)))) (.cons (.ret (.mth 3 ⟨#[119, 111, 114, 100]⟩ 85 (.var 2) (.cons (.call 12 (.cons (.fld 3 (.var 2) ⟨#[98, 111, 111, 107]⟩) (.cons (.var 1) .nil)) [] .nil) .nil))) .nil))
def d_b_collected : FD := ⟨2, 3, [], b_collected⟩
/-- 25: multiplied(book, one, other, hall, near) -/
def b_multiplied : ISs := (.cons (.asg (.nm 3) (.nr (.mk ⟨#[72, 97, 108, 108]⟩ 3 68 (.call 21 (.cons (.var 0) .nil) [] .nil)))) (.cons (.asg (.nm 4) (.call 11 (.cons (.fld 3 (.var 3) ⟨#[98, 111, 111, 107]⟩) (.cons (.var 1) .nil)) [] .nil)) (.cons (.ret (.mth 3 ⟨#[116, 105, 109, 101, 115]⟩ 80 (.var 3) (.cons (.var 4) (.cons (.call 11 (.cons (.fld 3 (.var 3) ⟨#[98, 111, 111, 107]⟩) (.cons (.var 2) .nil)) [] .nil) .nil)))) .nil)))
def d_b_multiplied : FD := ⟨3, 5, [], b_multiplied⟩
/-- 26: powered(book, member, often, hall, own) -/
def b_powered : ISs := (.cons (.asg (.nm 3) (.nr (.mk ⟨#[72, 97, 108, 108]⟩ 3 68 (.call 21 (.cons (.var 0) .nil) [] .nil)))) (.cons (.asg (.nm 4) (.call 11 (.cons (.fld 3 (.var 3) ⟨#[98, 111, 111, 107]⟩) (.cons (.var 1) .nil)) [] .nil)) (.cons (.ret (.mth 3 ⟨#[112, 111, 119, 101, 114]⟩ 81 (.var 3) (.cons (.var 4) (.cons (.call 2 (.cons (.var 2) (.cons (.neg (.gl ⟨#[77, 79, 83, 84, 95, 78, 85, 77, 66, 69, 82]⟩ (.int 1000))) (.cons (.gl ⟨#[77, 79, 83, 84, 95, 78, 85, 77, 66, 69, 82]⟩ (.int 1000)) .nil))) [] .nil) .nil)))) .nil)))
def d_b_powered : FD := ⟨3, 5, [], b_powered⟩
/-- 27: turned_back(book, member, hall) -/
def b_turned_back : ISs := (.cons (.asg (.nm 2) (.nr (.mk ⟨#[72, 97, 108, 108]⟩ 3 68 (.call 21 (.cons (.var 0) .nil) [] .nil)))) (.cons (.ret (.mth 3 ⟨#[98, 97, 99, 107]⟩ 82 (.var 2) (.cons (.call 11 (.cons (.fld 3 (.var 2) ⟨#[98, 111, 111, 107]⟩) (.cons (.var 1) .nil)) [] .nil) .nil))) .nil))
def d_b_turned_back : FD := ⟨2, 3, [], b_turned_back⟩
/-- 28: carried_by(book, one, other, hall, near) -/
def b_carried_by : ISs := (.cons (.asg (.nm 3) (.nr (.mk ⟨#[72, 97, 108, 108]⟩ 3 68 (.call 21 (.cons (.var 0) .nil) [] .nil)))) (.cons (.asg (.nm 4) (.call 11 (.cons (.fld 3 (.var 3) ⟨#[98, 111, 111, 107]⟩) (.cons (.var 1) .nil)) [] .nil)) (.cons (.ret (.mth 3 ⟨#[99, 97, 114, 114, 105, 101, 100]⟩ 83 (.var 3) (.cons (.var 4) (.cons (.call 11 (.cons (.fld 3 (.var 3) ⟨#[98, 111, 111, 107]⟩) (.cons (.var 2) .nil)) [] .nil) .nil)))) .nil)))
def d_b_carried_by : FD := ⟨3, 5, [], b_carried_by⟩
/-- 29: exchanged(book, one, other, hall, near) -/
def b_exchanged : ISs := (.cons (.asg (.nm 3) (.nr (.mk ⟨#[72, 97, 108, 108]⟩ 3 68 (.call 21 (.cons (.var 0) .nil) [] .nil)))) (.cons (.asg (.nm 4) (.call 11 (.cons (.fld 3 (.var 3) ⟨#[98, 111, 111, 107]⟩) (.cons (.var 1) .nil)) [] .nil)) (.cons (.ret (.mth 3 ⟨#[101, 120, 99, 104, 97, 110, 103, 101]⟩ 84 (.var 3) (.cons (.var 4) (.cons (.call 11 (.cons (.fld 3 (.var 3) ⟨#[98, 111, 111, 107]⟩) (.cons (.var 2) .nil)) [] .nil) .nil)))) .nil)))
def d_b_exchanged : FD := ⟨3, 5, [], b_exchanged⟩
/-- 30: do_commute(book, one, other, hall, near) -/
def b_do_commute : ISs := (.cons (.asg (.nm 3) (.nr (.mk ⟨#[72, 97, 108, 108]⟩ 3 68 (.call 21 (.cons (.var 0) .nil) [] .nil)))) (.cons (.asg (.nm 4) (.call 11 (.cons (.fld 3 (.var 3) ⟨#[98, 111, 111, 107]⟩) (.cons (.var 1) .nil)) [] .nil)) (.cons (.ret (.cmp .eq (.mth 3 ⟨#[101, 120, 99, 104, 97, 110, 103, 101]⟩ 84 (.var 3) (.cons (.var 4) (.cons (.call 11 (.cons (.fld 3 (.var 3) ⟨#[98, 111, 111, 107]⟩) (.cons (.var 2) .nil)) [] .nil) .nil))) (.fld 3 (.var 3) ⟨#[111, 110, 101]⟩))) .nil)))
def d_b_do_commute : FD := ⟨3, 5, [], b_do_commute⟩
/-- 31: weights_in(book, many, found, high, low, one) -/
def b_weights_in_1 : ISs := (.cons (.ifs (.and (.cmp .lt (.var 5) (.var 3)) (.cmp .ne (.idx (.call 8 (.cons (.var 0) (.cons (.var 4) (.cons (.var 5) .nil))) [] .nil) (.var 3)) (.c (.int 0)))) (.cons (.asg (.sub (.var 2) (.var 3)) (.bi .max (.cons (.idx (.var 2) (.var 3)) (.cons (.bin .add (.idx (.var 2) (.var 4)) (.idx (.var 2) (.var 5))) .nil)))) .nil) .nil) .nil)
def b_weights_in_2 : ISs := (.cons (.fors (.tp (.cons (.nm 4) (.cons (.nm 5) .nil))) (.val (.call 14 (.cons (.var 1) .nil) [] .nil)) b_weights_in_1) .nil)
def b_weights_in : ISs := (.cons (.asg (.nm 1) (.bi .len (.cons (.idx (.var 0) (.c (.int 0))) .nil))) (.cons (.asg (.nm 2) (.nr (.bin .mul (.lst (.cons (.c (.int 1)) .nil)) (.var 1)))) (.cons (.fors (.nm 3) (.rng (.cons (.var 1) .nil)) b_weights_in_2) (.cons (.ret (.bi .tuple (.cons (.var 2) .nil))) .nil))))
def d_b_weights_in : FD := ⟨1, 6, [], b_weights_in⟩
/-- 32: tops_of(weights, most, found, own, later, row, total, top) -/
def b_tops_of_1 : IE := (.and (.cmp .le (.bin .add (.var 6) (.bin .mul (.var 7) (.var 3))) (.var 1)) (.or (.cmp .gt (.var 3) (.c (.int 0))) (.cmp .le (.var 7) (.var 1))))
def b_tops_of_2 : ISs := (.cons (.ex (.met .append (.var 4) (.cons (.tup (.cons (.bin .add (.var 5) (.tup (.cons (.var 7) .nil))) (.cons (.bin .add (.var 6) (.bin .mul (.var 7) (.var 3))) .nil))) .nil))) (.cons (.aug 7 .add (.c (.int 1))) .nil))
def b_tops_of_3 : ISs := (.cons (.asg (.nm 7) (.c (.int 0))) (.cons (.whl b_tops_of_1 b_tops_of_2) .nil))
def b_tops_of_4 : ISs := (.cons (.asg (.nm 4) (.nr (.lst .nil))) (.cons (.fors (.tp (.cons (.nm 5) (.cons (.nm 6) .nil))) (.val (.var 2)) b_tops_of_3) (.cons (.asg (.nm 2) (.var 4)) .nil)))
def b_tops_of_5 : IE := (.var 5)
def b_tops_of : ISs := (.cons (.asg (.nm 2) (.lst (.cons (.tup (.cons (.tup .nil) (.cons (.c (.int 0)) .nil))) .nil))) (.cons (.fors (.nm 3) (.val (.var 0)) b_tops_of_4) (.cons (.ret (.lc (.tp (.cons (.nm 5) (.cons (.nm 6) .nil))) (.val (.var 2)) .none b_tops_of_5 [(⟨#[114, 111, 119]⟩, 5), (⟨#[116, 111, 116, 97, 108]⟩, 6)])) .nil)))
def d_b_tops_of : FD := ⟨2, 8, [], b_tops_of⟩
/-- 33: below(tops, found, own, row, more) -/
def b_below_1 : IE := (.bin .add (.var 3) (.tup (.cons (.var 4) .nil)))
def b_below_2 : ISs := (.cons (.asg (.nm 1) (.lc2 (.nm 3) (.val (.var 1)) .none (.nm 4) (.rng (.cons (.bin .add (.var 2) (.c (.int 1))) .nil)) .none b_below_1 [(⟨#[114, 111, 119]⟩, 3), (⟨#[109, 111, 114, 101]⟩, 4)])) .nil)
def b_below : ISs := (.cons (.asg (.nm 1) (.lst (.cons (.tup .nil) .nil))) (.cons (.fors (.nm 2) (.val (.var 0)) b_below_2) (.cons (.ret (.var 1)) .nil)))
def d_b_below : FD := ⟨1, 5, [], b_below⟩
/-- 34: differences(values, tops, found, row, own, top, its) -/
def b_differences_1 : ISs := (.cons .xx .nil)
def b_differences_2 : ISs := (.cons (.asg (.nm 4) (.idx (.var 0) (.var 3))) (.cons (.fors (.tp (.cons (.nm 5) (.cons (.nm 6) .nil))) (.zip (.var 1) (.var 3)) b_differences_1) (.cons (.aug 2 .add (.var 4)) .nil)))
def b_differences : ISs := (.cons (.asg (.nm 2) (.c (.int 0))) (.cons (.fors (.nm 3) (.val (.call 33 (.cons (.var 1) .nil) [] .nil)) b_differences_2) (.cons (.ret (.var 2)) .nil)))
def d_b_differences : FD := ⟨2, 7, [], b_differences⟩
/-- 35: fitted(values, rows, pairs, row, own) -/
def b_fitted_1 : IE := (.tup (.cons (.var 3) (.cons (.call 34 (.cons (.var 0) (.cons (.var 3) .nil)) [] .nil) .nil)))
def b_fitted_2 : IE := (.var 4)
def b_fitted : ISs := (.cons (.asg (.nm 2) (.lc (.nm 3) (.val .xx) .none b_fitted_1 [(⟨#[114, 111, 119]⟩, 3)])) (.cons (.ret (.bi .tuple (.cons (.lc (.nm 4) (.val (.var 2)) (.some (.cmp .ne (.idx (.var 4) (.c (.int 1))) (.c (.int 0)))) b_fitted_2 [(⟨#[111, 119, 110]⟩, 4)]) .nil))) .nil))
def d_b_fitted : FD := ⟨2, 5, [], b_fitted⟩
/-- 36: product_polys(hall, top, values, row, place, weights, found, rows) -/
def b_product_polys_1 : ISs := (.cons (.asg (.sub (.var 2) (.var 3)) (.mth 3 ⟨#[116, 105, 109, 101, 115]⟩ 80 (.var 0) (.cons (.slc (.var 3) .none (.some (.fld 3 (.var 0) ⟨#[109, 97, 110, 121]⟩))) (.cons (.slc (.var 3) (.some (.fld 3 (.var 0) ⟨#[109, 97, 110, 121]⟩)) .none) .nil)))) .nil)
def b_product_polys_2 : ISs := (.cons (.asg (.nm 7) (.call 32 (.cons (.bin .add (.var 5) (.var 5)) (.cons (.idx (.var 5) (.var 4)) .nil)) [] .nil)) (.cons (.ex (.met .append (.var 6) (.cons (.call 35 (.cons .xx (.cons (.var 7) .nil)) [] .nil) .nil))) .nil))
def b_product_polys : ISs := (.cons (.par [5, 6] (.cons (.call 31 (.cons (.fld 3 (.var 0) ⟨#[98, 111, 111, 107]⟩) .nil) [] .nil) (.cons (.nr (.lst .nil)) .nil))) (.cons (.asg (.nm 1) (.bi .max (.cons (.var 5) .nil))) (.cons (.asg (.nm 2) (.nr .xx)) (.cons (.fors (.nm 3) (.val (.call 32 (.cons (.bin .add (.var 5) (.var 5)) (.cons (.var 1) .nil)) [] .nil)) b_product_polys_1) (.cons (.fors (.nm 4) (.rng (.cons (.fld 3 (.var 0) ⟨#[109, 97, 110, 121]⟩) .nil)) b_product_polys_2) (.cons (.ret (.bi .tuple (.cons (.var 6) .nil))) .nil))))))
def d_b_product_polys : FD := ⟨1, 8, [], b_product_polys⟩
/-- 37: power_polys(hall, place, weights, found, rows, values, row) -/
def b_power_polys_1 : ISs := (.cons (.asg (.nm 4) (.call 32 (.cons (.bin .add (.var 2) (.tup (.cons (.c (.int 0)) .nil))) (.cons (.idx (.var 2) (.var 1)) .nil)) [] .nil)) (.cons (.asg (.nm 5) .xx) (.cons (.ex (.met .append (.var 3) (.cons (.call 35 (.cons (.var 5) (.cons (.var 4) .nil)) [] .nil) .nil))) .nil)))
def b_power_polys : ISs := (.cons (.par [2, 3] (.cons (.call 31 (.cons (.fld 3 (.var 0) ⟨#[98, 111, 111, 107]⟩) .nil) [] .nil) (.cons (.nr (.lst .nil)) .nil))) (.cons (.fors (.nm 1) (.rng (.cons (.fld 3 (.var 0) ⟨#[109, 97, 110, 121]⟩) .nil)) b_power_polys_1) (.cons (.ret (.bi .tuple (.cons (.var 3) .nil))) .nil)))
def d_b_power_polys : FD := ⟨1, 7, [], b_power_polys⟩
/-- 38: sure_endless(value, own, order) -/
def b_sure_endless_1 : IE := (.cmp .ne (.var 2) (.c (.int 0)))
def b_sure_endless : ISs := (.cons (.asg (.nm 1) (.call 21 (.cons (.var 0) .nil) [] .nil)) (.cons (.ifs (.bi .any (.cons (.lc (.nm 2) (.val (.idx (.var 1) (.c (.int 0)))) .none b_sure_endless_1 [(⟨#[111, 114, 100, 101, 114]⟩, 2)]) .nil)) (.cons (.rse 0 ⟨#[67, 97, 110, 78, 111, 116]⟩ .nil) .nil) .nil) (.cons (.ret (.var 1)) .nil)))
def d_b_sure_endless : FD := ⟨1, 3, [], b_sure_endless⟩
/-- 39: letter_weights(book) -/
def b_letter_weights : ISs := (.cons (.ret (.call 31 (.cons (.call 21 (.cons (.var 0) .nil) [] .nil) .nil) [] .nil)) .nil)
def d_b_letter_weights : FD := ⟨1, 1, [], b_letter_weights⟩
/-- 40: product_row(book) -/
def b_product_row : ISs := (.cons (.ret (.call 36 (.cons (.nr (.mk ⟨#[72, 97, 108, 108]⟩ 3 68 (.call 38 (.cons (.var 0) .nil) [] .nil))) .nil) [] .nil)) .nil)
def d_b_product_row : FD := ⟨1, 1, [], b_product_row⟩
/-- 41: power_row(book) -/
def b_power_row : ISs := (.cons (.ret (.call 37 (.cons (.nr (.mk ⟨#[72, 97, 108, 108]⟩ 3 68 (.call 38 (.cons (.var 0) .nil) [] .nil))) .nil) [] .nil)) .nil)
def d_b_power_row : FD := ⟨1, 1, [], b_power_row⟩
/-- 42: size_of(orders, found, own) -/
def b_size_of_1 : ISs := (.cons .xx .nil)
def b_size_of : ISs := (.cons (.asg (.nm 1) (.c (.int 1))) (.cons (.fors (.nm 2) (.val (.var 0)) b_size_of_1) (.cons (.ret (.var 1)) .nil)))
def d_b_size_of : FD := ⟨1, 3, [], b_size_of⟩
/-- 43: book_size(book, own) -/
def b_book_size : ISs := (.cons (.asg (.nm 1) (.call 42 (.cons (.idx (.call 21 (.cons (.var 0) .nil) [] .nil) (.c (.int 0))) .nil) [] .nil)) (.cons (.ret (.ife (.cmp .gt (.var 1) (.c (.int 0))) (.var 1) (.c .non))) .nil))
def d_b_book_size : FD := ⟨1, 2, [], b_book_size⟩
/-- 44: order_in(hall, member, found, place, order, often) -/
def b_order_in_1 : IE := (.cmp .isn (.var 3) (.c .non))
def b_order_in_2 : ISs := (.cons (.asg (.nm 4) (.idx (.idx (.fld 3 (.var 0) ⟨#[98, 111, 111, 107]⟩) (.c (.int 0))) (.var 3))) (.cons (.ifs (.cmp .eq (.var 4) (.c (.int 0))) (.cons (.ret (.c .non)) .nil) .nil) (.cons (.asg (.nm 5) (.bin .fdiv (.var 4) (.call 6 (.cons (.idx (.var 1) (.var 3)) (.cons (.var 4) .nil)) [] .nil))) (.cons (.par [2, 1] (.cons (.bin .mul (.var 2) (.var 5)) (.cons (.mth 3 ⟨#[112, 111, 119, 101, 114]⟩ 81 (.var 0) (.cons (.var 1) (.cons (.var 5) .nil))) .nil))) (.cons (.asg (.nm 3) (.call 9 (.cons (.var 1) .nil) [] .nil)) .nil)))))
def b_order_in : ISs := (.cons (.asg (.nm 2) (.c (.int 1))) (.cons (.asg (.nm 3) (.call 9 (.cons (.var 1) .nil) [] .nil)) (.cons (.whl b_order_in_1 b_order_in_2) (.cons (.ret (.var 2)) .nil))))
def d_b_order_in : FD := ⟨2, 6, [], b_order_in⟩
/-- 45: steps_at(gap, times, order, own) -/
def b_steps_at_1 : IE := (.var 3)
def b_steps_at : ISs := (.cons (.ifs (.cmp .eq (.var 2) (.c (.int 0))) (.cons (.ret (.ife (.cmp .eq (.bin .mod (.var 0) (.var 1)) (.c (.int 0))) (.lst (.cons (.bin .fdiv (.var 0) (.var 1)) .nil)) (.lst .nil))) .nil) .nil) (.cons (.ret (.lc (.nm 3) (.rng (.cons (.var 2) .nil)) (.some (.cmp .eq (.bin .mod (.bin .sub (.bin .mul (.var 1) (.var 3)) (.var 0)) (.var 2)) (.c (.int 0)))) b_steps_at_1 [(⟨#[111, 119, 110]⟩, 3)])) .nil))
def d_b_steps_at : FD := ⟨3, 4, [], b_steps_at⟩
/-- 46: roots_in(hall, member, times, found, place, later, own, gap, steps, more) -/
def b_roots_in_1 : IE := (.mth 3 ⟨#[116, 105, 109, 101, 115]⟩ 80 (.var 0) (.cons (.var 6) (.cons (.mth 3 ⟨#[108, 101, 116, 116, 101, 114]⟩ 69 (.var 0) (.cons (.var 4) (.cons (.var 9) .nil))) .nil)))
def b_roots_in_2 : ISs := (.cons (.asg (.nm 7) (.bin .sub (.idx (.var 1) (.var 4)) (.idx (.mth 3 ⟨#[112, 111, 119, 101, 114]⟩ 81 (.var 0) (.cons (.var 6) (.cons (.var 2) .nil))) (.var 4)))) (.cons (.asg (.nm 8) (.call 45 (.cons (.var 7) (.cons (.var 2) (.cons (.idx (.idx (.fld 3 (.var 0) ⟨#[98, 111, 111, 107]⟩) (.c (.int 0))) (.var 4)) .nil))) [] .nil)) (.cons (.ex (.met .extend (.var 5) (.cons (.lc (.nm 9) (.val (.var 8)) .none b_roots_in_1 [(⟨#[109, 111, 114, 101]⟩, 9)]) .nil))) .nil)))
def b_roots_in_3 : ISs := (.cons (.asg (.nm 5) (.nr (.lst .nil))) (.cons (.fors (.nm 6) (.val (.var 3)) b_roots_in_2) (.cons (.asg (.nm 3) (.var 5)) (.cons (.ifs (.cmp .gt (.bi .len (.cons (.var 3) .nil)) (.gl ⟨#[77, 79, 83, 84, 95, 82, 79, 79, 84, 83]⟩ (.int 1000))) (.cons (.rse 1 ⟨#[84, 111, 111, 77, 97, 110, 121]⟩ .nil) .nil) .nil) .nil))))
def b_roots_in : ISs := (.cons (.asg (.nm 3) (.lst (.cons (.fld 3 (.var 0) ⟨#[111, 110, 101]⟩) .nil))) (.cons (.fors (.nm 4) (.rng (.cons (.fld 3 (.var 0) ⟨#[109, 97, 110, 121]⟩) .nil)) b_roots_in_3) (.cons (.ret .xx) .nil)))
def d_b_roots_in : FD := ⟨3, 10, [], b_roots_in⟩
/-- 47: first_gap(hall, member, times, found, place, later, own, gap, steps, more) -/
def b_first_gap_1 : IE := (.mth 3 ⟨#[116, 105, 109, 101, 115]⟩ 80 (.var 0) (.cons (.var 6) (.cons (.mth 3 ⟨#[108, 101, 116, 116, 101, 114]⟩ 69 (.var 0) (.cons (.var 4) (.cons (.var 9) .nil))) .nil)))
def b_first_gap_2 : ISs := (.cons (.asg (.nm 7) (.bin .sub (.idx (.var 1) (.var 4)) (.idx (.mth 3 ⟨#[112, 111, 119, 101, 114]⟩ 81 (.var 0) (.cons (.var 6) (.cons (.var 2) .nil))) (.var 4)))) (.cons (.asg (.nm 8) (.call 45 (.cons (.var 7) (.cons (.var 2) (.cons (.idx (.idx (.fld 3 (.var 0) ⟨#[98, 111, 111, 107]⟩) (.c (.int 0))) (.var 4)) .nil))) [] .nil)) (.cons (.ex (.met .extend (.var 5) (.cons (.lc (.nm 9) (.val (.var 8)) .none b_first_gap_1 [(⟨#[109, 111, 114, 101]⟩, 9)]) .nil))) .nil)))
def b_first_gap_3 : ISs := (.cons (.asg (.nm 5) (.nr (.lst .nil))) (.cons (.fors (.nm 6) (.val (.var 3)) b_first_gap_2) (.cons (.ifs (.cmp .eq (.bi .len (.cons (.var 5) .nil)) (.c (.int 0))) (.cons (.ret (.var 4)) .nil) .nil) (.cons (.asg (.nm 3) (.var 5)) .nil))))
def b_first_gap : ISs := (.cons (.asg (.nm 3) (.lst (.cons (.fld 3 (.var 0) ⟨#[111, 110, 101]⟩) .nil))) (.cons (.fors (.nm 4) (.rng (.cons (.fld 3 (.var 0) ⟨#[109, 97, 110, 121]⟩) .nil)) b_first_gap_3) (.cons (.ret (.c .non)) .nil)))
def d_b_first_gap : FD := ⟨3, 10, [], b_first_gap⟩
/-- 48: member_order(book, member, hall) -/
def b_member_order : ISs := (.cons (.asg (.nm 2) (.nr (.mk ⟨#[72, 97, 108, 108]⟩ 3 68 (.call 21 (.cons (.var 0) .nil) [] .nil)))) (.cons (.ret (.call 44 (.cons (.var 2) (.cons (.call 11 (.cons (.fld 3 (.var 2) ⟨#[98, 111, 111, 107]⟩) (.cons (.var 1) .nil)) [] .nil) .nil)) [] .nil)) .nil))
def d_b_member_order : FD := ⟨2, 3, [], b_member_order⟩
/-- 49: roots(book, member, often, hall, own) -/
def b_roots : ISs := (.cons (.asg (.nm 3) (.nr (.mk ⟨#[72, 97, 108, 108]⟩ 3 68 (.call 21 (.cons (.var 0) .nil) [] .nil)))) (.cons (.asg (.nm 4) (.call 11 (.cons (.fld 3 (.var 3) ⟨#[98, 111, 111, 107]⟩) (.cons (.var 1) .nil)) [] .nil)) (.cons (.ret (.call 46 (.cons (.var 3) (.cons (.var 4) (.cons (.call 2 (.cons (.var 2) (.cons (.c (.int 1)) (.cons (.gl ⟨#[77, 79, 83, 84, 95, 84, 73, 77, 69, 83]⟩ (.int 60)) .nil))) [] .nil) .nil))) [] .nil)) .nil)))
def d_b_roots : FD := ⟨3, 5, [], b_roots⟩
/-- 50: root(book, member, often, hall, own, times, found, order) -/
def b_root_1 : IE := (.cmp .gt (.var 7) (.c (.int 0)))
def b_root : ISs := (.cons (.asg (.nm 3) (.nr (.mk ⟨#[72, 97, 108, 108]⟩ 3 68 (.call 21 (.cons (.var 0) .nil) [] .nil)))) (.cons (.asg (.nm 4) (.call 11 (.cons (.fld 3 (.var 3) ⟨#[98, 111, 111, 107]⟩) (.cons (.var 1) .nil)) [] .nil)) (.cons (.asg (.nm 5) (.call 2 (.cons (.var 2) (.cons (.c (.int 1)) (.cons (.gl ⟨#[77, 79, 83, 84, 95, 84, 73, 77, 69, 83]⟩ (.int 60)) .nil))) [] .nil)) (.cons (.ifs (.bi .any (.cons (.lc (.nm 7) (.val (.idx (.fld 3 (.var 3) ⟨#[98, 111, 111, 107]⟩) (.c (.int 0)))) .none b_root_1 [(⟨#[111, 114, 100, 101, 114]⟩, 7)]) .nil)) (.cons (.rse 0 ⟨#[67, 97, 110, 78, 111, 116]⟩ .nil) .nil) .nil) (.cons (.asg (.nm 6) (.call 46 (.cons (.var 3) (.cons (.var 4) (.cons (.var 5) .nil))) [] .nil)) (.cons (.ifs (.cmp .eq (.bi .len (.cons (.var 6) .nil)) (.c (.int 0))) (.cons (.rse 0 ⟨#[67, 97, 110, 78, 111, 116]⟩ .nil) .nil) .nil) (.cons (.ret (.idx (.var 6) (.c (.int 0)))) .nil)))))))
def d_b_root : FD := ⟨3, 8, [], b_root⟩
/-- 51: is_root(book, member, often, thing, hall, own, times) -/
def b_is_root : ISs := (.cons (.asg (.nm 4) (.nr (.mk ⟨#[72, 97, 108, 108]⟩ 3 68 (.call 21 (.cons (.var 0) .nil) [] .nil)))) (.cons (.asg (.nm 5) (.call 11 (.cons (.fld 3 (.var 4) ⟨#[98, 111, 111, 107]⟩) (.cons (.var 1) .nil)) [] .nil)) (.cons (.asg (.nm 6) (.call 2 (.cons (.var 2) (.cons (.c (.int 1)) (.cons (.gl ⟨#[77, 79, 83, 84, 95, 84, 73, 77, 69, 83]⟩ (.int 60)) .nil))) [] .nil)) (.cons (.ret (.and (.call 10 (.cons (.fld 3 (.var 4) ⟨#[98, 111, 111, 107]⟩) (.cons (.var 3) .nil)) [] .nil) (.cmp .eq (.mth 3 ⟨#[112, 111, 119, 101, 114]⟩ 81 (.var 4) (.cons (.var 3) (.cons (.var 6) .nil))) (.var 5)))) .nil))))
def d_b_is_root : FD := ⟨4, 7, [], b_is_root⟩
/-- 52: why_no_root(book, member, often, hall, own, times, found, order) -/
def b_why_no_root_1 : IE := (.cmp .gt (.var 7) (.c (.int 0)))
def b_why_no_root : ISs := (.cons (.asg (.nm 3) (.nr (.mk ⟨#[72, 97, 108, 108]⟩ 3 68 (.call 21 (.cons (.var 0) .nil) [] .nil)))) (.cons (.asg (.nm 4) (.call 11 (.cons (.fld 3 (.var 3) ⟨#[98, 111, 111, 107]⟩) (.cons (.var 1) .nil)) [] .nil)) (.cons (.asg (.nm 5) (.call 2 (.cons (.var 2) (.cons (.c (.int 1)) (.cons (.gl ⟨#[77, 79, 83, 84, 95, 84, 73, 77, 69, 83]⟩ (.int 60)) .nil))) [] .nil)) (.cons (.ifs (.bi .any (.cons (.lc (.nm 7) (.val (.idx (.fld 3 (.var 3) ⟨#[98, 111, 111, 107]⟩) (.c (.int 0)))) .none b_why_no_root_1 [(⟨#[111, 114, 100, 101, 114]⟩, 7)]) .nil)) (.cons (.rse 0 ⟨#[67, 97, 110, 78, 111, 116]⟩ .nil) .nil) .nil) (.cons (.asg (.nm 6) (.call 47 (.cons (.var 3) (.cons (.var 4) (.cons (.var 5) .nil))) [] .nil)) (.cons (.ifs (.cmp .is (.var 6) (.c .non)) (.cons (.rse 0 ⟨#[67, 97, 110, 78, 111, 116]⟩ .nil) .nil) .nil) (.cons (.ret (.var 6)) .nil)))))))
def d_b_why_no_root : FD := ⟨3, 8, [], b_why_no_root⟩
/-- 53: _law_box(script, k, bit_so) -/
def b_law_box : ISs := (.cons (.asg (.nm 2) (.ife (.cmp .lt (.var 1) (.bi .len (.cons (.var 0) .nil))) (.idx (.var 0) (.var 1)) (.c (.int 0)))) (.cons (.ret (.lst (.cons (.bin .mul (.bi .abs (.cons (.var 2) .nil)) (.bi .int (.cons (.cmp .ge (.bi .abs (.cons (.var 2) .nil)) (.bin .pow (.c (.int 10)) (.c (.int 18)))) .nil))) (.cons (.bin .add (.bin .add (.bin .mod (.bi .int (.cons (.var 2) .nil)) (.c (.int 2305843009213693951))) (.bin .mul (.c (.int 39373)) (.var 1))) (.c (.int 24818))) (.cons (.c (.int 0)) .nil))))) .nil))
def d_b_law_box : FD := ⟨2, 3, [], b_law_box⟩
/-- 54: _law_take(tin, below_so, once_so, wide_so, twice_so, drawn_so) -/
def b_law_take : ISs := (.cons (.ifs (.cmp .gt (.idx (.var 0) (.c (.int 0))) (.c (.int 0))) (.cons (.asg (.nm 5) (.bin .mod (.bi .int (.cons (.idx (.var 0) (.c (.int 0))) .nil)) (.var 1))) (.cons (.asg (.sub (.var 0) (.c (.int 0))) (.bin .fdiv (.idx (.var 0) (.c (.int 0))) (.var 1))) (.cons (.ret (.var 5)) .nil))) .nil) (.cons (.asg (.sub (.var 0) (.c (.int 2))) (.bin .add (.idx (.var 0) (.c (.int 2))) (.c (.int 1)))) (.cons (.asg (.nm 2) (.bin .mod (.bi .int (.cons (.bin .mul (.bin .add (.idx (.var 0) (.c (.int 1))) (.bin .mul (.c (.int 48271)) (.idx (.var 0) (.c (.int 2))))) (.bin .add (.c (.int 39373)) (.idx (.var 0) (.c (.int 2))))) .nil)) (.c (.int 2147483647)))) (.cons (.asg (.nm 3) (.bin .add (.bin .mod (.bi .int (.cons (.var 2) .nil)) (.c (.int 40009))) (.c (.int 7)))) (.cons (.asg (.nm 4) (.bin .mod (.bi .int (.cons (.bin .mul (.bin .add (.bin .add (.var 2) (.idx (.var 0) (.c (.int 2)))) (.bin .fdiv (.idx (.var 0) (.c (.int 1))) (.c (.int 1000003)))) (.var 3)) .nil)) (.c (.int 2147483629)))) (.cons (.ret (.bin .mod (.bi .int (.cons (.bin .fdiv (.bin .mod (.bi .int (.cons (.bin .add (.bin .mul (.var 4) (.c (.int 48271))) (.var 2)) .nil)) (.c (.int 2147483587))) (.c (.int 64))) .nil)) (.var 1))) .nil))))))
def d_b_law_take : FD := ⟨2, 6, [], b_law_take⟩
/-- 55: _law_cells(script, most_so, cells_so, k, bit_so, at_so) -/
def b_law_cells_1 : ISs := (.cons (.asg (.nm 5) (.bin .mod (.bi .int (.cons (.var 3) .nil)) (.var 1))) (.cons (.asg (.sub (.var 2) (.var 5)) (.bin .add (.idx (.var 2) (.var 5)) (.bin .mul (.var 4) (.bin .add (.var 3) (.c (.int 2)))))) .nil))
def b_law_cells : ISs := (.cons (.asg (.nm 2) (.nr (.or (.bi .list (.cons (.slc (.var 0) .none (.some (.var 1))) .nil)) (.lst (.cons (.c (.int 0)) .nil))))) (.cons (.fors (.tp (.cons (.nm 3) (.cons (.nm 4) .nil))) (.enm (.slc (.var 0) (.some (.var 1)) (.some (.c (.int 63))))) b_law_cells_1) (.cons (.ret (.var 2)) .nil)))
def d_b_law_cells : FD := ⟨2, 6, [], b_law_cells⟩
/-- 56: _law_pick(tin, goods_so, count_so, lap, pool_so, found) -/
def b_law_pick_1 : ISs := (.cons (.ex (.met .append (.var 5) (.cons (.met .pop (.var 4) (.cons (.call 54 (.cons (.var 0) (.cons (.bi .len (.cons (.var 4) .nil)) .nil)) [] .nil) .nil)) .nil))) .nil)
def b_law_pick : ISs := (.cons (.par [4, 5] (.cons (.nr (.bi .list (.cons (.var 1) .nil))) (.cons (.nr (.lst .nil)) .nil))) (.cons (.fors (.nm 3) (.rng (.cons (.bi .min (.cons (.bi .int (.cons (.var 2) .nil)) (.cons (.bi .len (.cons (.var 4) .nil)) .nil))) .nil)) b_law_pick_1) (.cons (.ret (.var 5)) .nil)))
def d_b_law_pick : FD := ⟨3, 6, [], b_law_pick⟩
/-- 57: _law_same(got, due, mine, its) -/
def b_law_same_1 : IE := (.call 57 (.cons (.var 2) (.cons (.var 3) .nil)) [] .nil)
def b_law_same : ISs := (.cons (.ifs (.isi (.var 1) [.list, .tuple]) (.cons (.ifs (.or (.cmp .ne (.isi (.var 0) [.list]) (.isi (.var 1) [.list])) (.cmp .ne (.isi (.var 0) [.tuple]) (.isi (.var 1) [.tuple]))) (.cons (.ret (.c (.bl false))) .nil) .nil) (.cons (.ret (.and (.cmp .eq (.bi .len (.cons (.var 0) .nil)) (.bi .len (.cons (.var 1) .nil))) (.bi .all (.cons (.lc (.tp (.cons (.nm 2) (.cons (.nm 3) .nil))) (.zip (.var 0) (.var 1)) .none b_law_same_1 [(⟨#[109, 105, 110, 101]⟩, 2), (⟨#[105, 116, 115]⟩, 3)]) .nil)))) .nil)) .nil) (.cons (.ifs (.cmp .is (.var 1) (.c .non)) (.cons (.ret (.cmp .is (.var 0) (.c .non))) .nil) .nil) (.cons (.ifs (.isi (.var 1) [.bool, .str]) (.cons (.ret (.and (.cmp .eq (.isi (.var 0) [.bool]) (.isi (.var 1) [.bool])) (.and (.cmp .eq (.isi (.var 0) [.str]) (.isi (.var 1) [.str])) (.cmp .eq (.var 0) (.var 1))))) .nil) .nil) (.cons (.ret (.and (.isi (.var 0) [.int]) (.and (.nt (.isi (.var 0) [.bool])) (.cmp .eq (.var 0) (.var 1))))) .nil))))
def d_b_law_same : FD := ⟨2, 4, [], b_law_same⟩
/-- 58: _law_unmarked(told_so) -/
def b_law_unmarked : ISs := (.cons (.ret (.ife (.and (.isi (.var 0) [.list]) (.and (.cmp .gt (.bi .len (.cons (.var 0) .nil)) (.c (.int 0))) (.isi (.idx (.var 0) (.c (.int 0))) [.str]))) (.lst (.cons (.c (.str ⟨#[116, 111, 108, 100]⟩)) (.cons (.c (.str ⟨#[97, 32, 109, 97, 114, 107]⟩)) .nil))) (.var 0))) .nil)
def d_b_law_unmarked : FD := ⟨1, 1, [], b_law_unmarked⟩
/-- 59: _law_flat(rows_so, found, own) -/
def b_law_flat_1 : ISs := (.cons (.ex (.met .extend (.var 1) (.cons (.var 2) .nil))) .nil)
def b_law_flat : ISs := (.cons (.asg (.nm 1) (.nr (.lst .nil))) (.cons (.fors (.nm 2) (.val (.var 0)) b_law_flat_1) (.cons (.ret (.var 1)) .nil)))
def d_b_law_flat : FD := ⟨1, 3, [], b_law_flat⟩
/-- 60: _law_pairs(many_so, i, j) -/
def b_law_pairs_1 : IE := (.tup (.cons (.var 1) (.cons (.var 2) .nil)))
def b_law_pairs_2 : IE := (.lc (.nm 2) (.rng (.cons (.bin .add (.var 1) (.c (.int 1))) (.cons (.var 0) .nil))) .none b_law_pairs_1 [(⟨#[106]⟩, 2)])
def b_law_pairs : ISs := (.cons (.ret (.call 59 (.cons (.lc (.nm 1) (.rng (.cons (.var 0) .nil)) .none b_law_pairs_2 [(⟨#[105]⟩, 1)]) .nil) [] .nil)) .nil)
def d_b_law_pairs : FD := ⟨1, 3, [], b_law_pairs⟩
/-- 61: _law_places(rows_so, own, i, j) -/
def b_law_places_1 : IE := (.tup (.cons (.bin .sub (.var 3) (.var 2)) (.cons (.var 2) (.cons (.var 3) .nil))))
def b_law_places_2 : IE := (.slc (.var 1) (.some (.c (.int 1))) .none)
def b_law_places : ISs := (.cons (.ret (.lc (.nm 1) (.val (.srt 3 (.lc (.tp (.cons (.nm 2) (.cons (.nm 3) .nil))) (.val (.call 60 (.cons (.var 0) .nil) [] .nil)) .none b_law_places_1 [(⟨#[105]⟩, 2), (⟨#[106]⟩, 3)]))) .none b_law_places_2 [(⟨#[111, 119, 110]⟩, 1)])) .nil)
def d_b_law_places : FD := ⟨1, 4, [], b_law_places⟩
/-- 62: _law_grid_book(rows_so, by_so, places_so, many_so, ties_so, i, j, line_so, a, b, c, d) -/
def b_law_grid_book_1 : ISs := (.cons (.asg (.tp (.cons (.tp (.cons (.nm 8) (.cons (.nm 9) .nil))) (.cons (.tp (.cons (.nm 10) (.cons (.nm 11) .nil))) .nil))) (.tup (.cons (.idx (.var 2) (.var 5)) (.cons (.idx (.var 2) (.var 6)) .nil)))) (.cons (.asg (.nm 7) (.nr (.bin .mul (.lst (.cons (.c (.int 0)) .nil)) (.var 3)))) (.cons (.ifs (.cmp .eq (.var 11) (.var 8)) (.cons (.asg (.sub (.var 7) (.met .index (.var 2) (.cons (.tup (.cons (.var 10) (.cons (.var 9) .nil))) .nil))) (.c (.int 1))) .nil) .nil) (.cons (.ifs (.cmp .eq (.var 9) (.var 10)) (.cons (.asg (.sub (.var 7) (.met .index (.var 2) (.cons (.tup (.cons (.var 8) (.cons (.var 11) .nil))) .nil))) (.ife (.cmp .gt (.var 1) (.c (.int 0))) (.bin .sub (.var 1) (.c (.int 1))) (.neg (.c (.int 1))))) .nil) .nil) (.cons (.ex (.met .append (.var 4) (.cons (.bi .tuple (.cons (.var 7) .nil)) .nil))) .nil)))))
def b_law_grid_book : ISs := (.cons (.asg (.nm 2) (.call 61 (.cons (.var 0) .nil) [] .nil)) (.cons (.par [3, 4] (.cons (.bi .len (.cons (.var 2) .nil)) (.cons (.nr (.lst .nil)) .nil))) (.cons (.fors (.tp (.cons (.nm 5) (.cons (.nm 6) .nil))) (.val (.call 60 (.cons (.var 3) .nil) [] .nil)) b_law_grid_book_1) (.cons (.ret (.tup (.cons (.tup (.cons (.bin .mul (.tup (.cons (.var 1) .nil)) (.var 3)) (.cons (.bin .mul (.tup (.cons (.bin .mul (.tup (.cons (.c (.int 0)) .nil)) (.var 3)) .nil)) (.var 3)) (.cons (.bi .tuple (.cons (.var 4) .nil)) .nil)))) (.cons (.tup (.cons (.c (.str ⟨#[103, 114, 105, 100]⟩)) (.cons (.var 0) (.cons (.var 1) .nil)))) .nil)))) .nil))))
def d_b_law_grid_book : FD := ⟨2, 12, [], b_law_grid_book⟩
/-- 63: _law_call(door, goods_so) -/
def b_law_call : ISs := (.cons (.ifs (.cmp .lt (.bi .len (.cons (.var 1) .nil)) (.c (.int 3))) (.cons (.ret (.ife (.cmp .eq (.bi .len (.cons (.var 1) .nil)) (.c (.int 1))) (.cv 0 (.cons (.idx (.var 1) (.c (.int 0))) .nil)) (.cv 0 (.cons (.idx (.var 1) (.c (.int 0))) (.cons (.idx (.var 1) (.c (.int 1))) .nil))))) .nil) .nil) (.cons (.ret (.ife (.cmp .eq (.bi .len (.cons (.var 1) .nil)) (.c (.int 3))) (.cv 0 (.cons (.idx (.var 1) (.c (.int 0))) (.cons (.idx (.var 1) (.c (.int 1))) (.cons (.idx (.var 1) (.c (.int 2))) .nil)))) (.cv 0 (.cons (.idx (.var 1) (.c (.int 0))) (.cons (.idx (.var 1) (.c (.int 1))) (.cons (.idx (.var 1) (.c (.int 2))) (.cons (.idx (.var 1) (.c (.int 3))) .nil))))))) .nil))
def d_b_law_call : FD := ⟨2, 2, [], b_law_call⟩
/-- 64: _law_none_fits(heard_so, rows_so, door, goods_so, place_so, bads_so, own) -/
def b_law_none_fits_1 : ISs := (.cons (.ifs (.cmp .ne (.cv 0 (.cons (.var 2) (.cons (.bin .add (.bin .add (.slc (.var 3) .none (.some (.var 4))) (.tup (.cons (.var 6) .nil))) (.slc (.var 3) (.some (.bin .add (.var 4) (.c (.int 1)))) .none)) .nil))) (.lst (.cons (.c (.str ⟨#[117, 110, 102, 105, 116]⟩)) (.cons (.c (.bl true)) .nil)))) (.cons (.ret (.c (.bl false))) .nil) .nil) .nil)
def b_law_none_fits_2 : ISs := (.cons (.fors (.nm 6) (.val (.var 5)) b_law_none_fits_1) .nil)
def b_law_none_fits : ISs := (.cons (.fors (.tp (.cons (.nm 2) (.cons (.nm 3) (.cons (.nm 4) (.cons (.nm 5) .nil))))) (.val (.var 1)) b_law_none_fits_2) (.cons (.ret (.c (.bl true))) .nil))
def d_b_law_none_fits : FD := ⟨2, 7, [], b_law_none_fits⟩
/-- 65: _law_heard(door, goods_so, error_a, error_b, error_c, caught, told_so) -/
def b_law_heard : ISs := (.cons (.asg (.tp (.cons (.nm 5) (.cons (.nm 6) .nil))) (.tup (.cons (.c .non) (.cons (.c .non) .nil)))) (.cons (.tr [0, 1, 2] (.cons (.asg (.nm 6) (.call 58 (.cons (.call 63 (.cons (.var 0) (.cons (.var 1) .nil)) [] .nil) .nil) [] .nil)) .nil) [(0, 2, 5, .lst [some ⟨#[99, 97, 110, 32, 110, 111, 116]⟩, none]), (1, 3, 5, .lst [some ⟨#[109, 97, 110, 121]⟩, none]), (2, 4, 5, .lst [some ⟨#[117, 110, 102, 105, 116]⟩, none])]) (.cons (.ret (.ife (.cmp .is (.var 5) (.c .non)) (.var 6) (.var 5))) .nil)))
def d_b_law_heard : FD := ⟨2, 7, [], b_law_heard⟩
/-- 66: _law_refusals(heis_so, bent_so, books_so, rows_so, door, members_so, spots_so, k, its) -/
def b_law_refusals_1 : IE := (.tup (.cons (.var 4) (.cons (.tup (.cons (.var 0) (.cons (.tup (.cons (.c (.int 0)) (.cons (.c (.int 0)) (.cons (.c (.int 1)) .nil)))) (.cons (.tup (.cons (.c (.int 1)) (.cons (.c (.int 0)) (.cons (.c (.int 0)) .nil)))) .nil)))) (.cons (.var 7) (.cons (.var 8) .nil)))))
def b_law_refusals_2 : ISs := (.cons (.asg (.nm 3) (.bin .add (.var 3) (.lc (.tp (.cons (.nm 7) (.cons (.nm 8) .nil))) (.enm (.lst (.cons (.var 2) (.cons (.var 5) (.cons (.var 5) .nil))))) .none b_law_refusals_1 [(⟨#[107]⟩, 7), (⟨#[105, 116, 115]⟩, 8)]))) .nil)
def b_law_refusals_3 : IE := (.tup (.cons (.fn ⟨#[116, 117, 114, 110, 101, 100, 95, 98, 97, 99, 107]⟩ 27) (.cons (.tup (.cons (.var 0) (.cons (.tup (.cons (.c (.int 1)) (.cons (.c (.int 0)) (.cons (.c (.int 0)) .nil)))) .nil))) (.cons (.var 7) (.cons (.var 8) .nil)))))
def b_law_refusals_4 : IE := (.tup (.cons (.fn ⟨#[112, 111, 119, 101, 114, 101, 100]⟩ 26) (.cons (.tup (.cons (.var 0) (.cons (.tup (.cons (.c (.int 1)) (.cons (.c (.int 0)) (.cons (.c (.int 0)) .nil)))) (.cons (.c (.int 2)) .nil)))) (.cons (.var 7) (.cons (.var 8) .nil)))))
def b_law_refusals_5 : IE := (.tup (.cons (.var 4) (.cons (.tup (.cons (.var 0) (.cons (.c .non) .nil))) (.cons (.c (.int 0)) (.cons (.var 2) .nil)))))
def b_law_refusals_6 : IE := (.tup (.cons (.var 4) (.cons (.tup (.cons (.var 0) .nil)) (.cons (.c (.int 0)) (.cons (.var 2) .nil)))))
def b_law_refusals_7 : IE := (.tup (.cons (.fn ⟨#[109, 101, 109, 98, 101, 114, 95, 111, 114, 100, 101, 114]⟩ 48) (.cons (.tup (.cons (.var 0) (.cons (.tup (.cons (.c (.int 1)) (.cons (.c (.int 0)) (.cons (.c (.int 0)) .nil)))) .nil))) (.cons (.var 7) (.cons (.var 8) .nil)))))
def b_law_refusals_8 : IE := (.tup (.cons (.var 4) (.cons (.tup (.cons (.var 0) (.cons (.tup (.cons (.c (.int 1)) (.cons (.c (.int 0)) (.cons (.c (.int 0)) .nil)))) (.cons (.c (.int 1)) .nil)))) (.cons (.var 7) (.cons (.var 8) .nil)))))
def b_law_refusals_9 : ISs := (.cons (.asg (.nm 3) (.bin .add (.var 3) (.lc (.tp (.cons (.nm 7) (.cons (.nm 8) .nil))) (.enm (.lst (.cons (.var 2) (.cons (.var 5) (.cons (.bin .add (.var 6) (.lst (.cons (.c (.int 0)) (.cons (.c (.int 61)) .nil)))) .nil))))) .none b_law_refusals_8 [(⟨#[107]⟩, 7), (⟨#[105, 116, 115]⟩, 8)]))) .nil)
def b_law_refusals_10 : IE := (.tup (.cons (.fn ⟨#[105, 115, 95, 114, 111, 111, 116]⟩ 51) (.cons (.tup (.cons (.var 0) (.cons (.tup (.cons (.c (.int 1)) (.cons (.c (.int 0)) (.cons (.c (.int 0)) .nil)))) (.cons (.c (.int 1)) (.cons (.c .non) .nil))))) (.cons (.var 7) (.cons (.var 8) .nil)))))
def b_law_refusals : ISs := (.cons (.asg (.nm 0) (.idx (.call 62 (.cons (.c (.int 3)) (.cons (.c (.int 0)) .nil)) [] .nil) (.c (.int 0)))) (.cons (.asg (.nm 1) (.tup (.cons (.tup (.cons (.c (.int 0)) (.cons (.c (.int 2)) (.cons (.c (.int 0)) .nil)))) (.cons (.bin .mul (.tup (.cons (.tup (.cons (.c (.int 0)) (.cons (.c (.int 0)) (.cons (.c (.int 0)) .nil)))) .nil)) (.c (.int 3))) (.cons (.tup (.cons (.tup (.cons (.c (.int 0)) (.cons (.c (.int 0)) (.cons (.c (.int 1)) .nil)))) (.cons (.tup (.cons (.c (.int 0)) (.cons (.c (.int 0)) (.cons (.c (.int 0)) .nil)))) (.cons (.tup (.cons (.c (.int 0)) (.cons (.c (.int 0)) (.cons (.c (.int 0)) .nil)))) .nil)))) .nil))))) (.cons (.asg (.nm 2) (.lst (.cons (.c .non) (.cons (.c (.int 5)) (.cons (.tup .nil) (.cons (.c (.str ⟨#[98, 111, 111, 107]⟩)) (.cons (.var 1) (.cons (.tup (.cons (.tup (.cons (.c (.int 1)) .nil)) (.cons (.tup (.cons (.tup (.cons (.c (.int 0)) .nil)) .nil)) (.cons (.tup .nil) .nil)))) (.cons (.tup (.cons (.tup (.cons (.c (.int 0)) (.cons (.c (.int 0)) .nil))) (.cons (.bin .mul (.tup (.cons (.tup (.cons (.c (.int 0)) (.cons (.c (.int 0)) .nil))) .nil)) (.c (.int 2))) (.cons (.tup .nil) .nil)))) .nil))))))))) (.cons (.par [5, 6] (.cons (.lst (.cons (.c .non) (.cons (.c (.int 5)) (.cons (.tup (.cons (.c (.int 0)) (.cons (.c (.int 0)) .nil))) (.cons (.tup (.cons (.c (.int 0)) (.cons (.c (.int 0)) (.cons (.c (.int 0)) (.cons (.c (.int 0)) .nil))))) (.cons (.tup (.cons (.c (.int 0)) (.cons (.c (.int 0)) (.cons (.c (.str ⟨#[48]⟩)) .nil)))) (.cons (.tup (.cons (.c (.int 0)) (.cons (.c (.int 0)) (.cons (.c (.bl true)) .nil)))) (.cons (.tup (.cons (.c (.int 1001)) (.cons (.c (.int 0)) (.cons (.c (.int 0)) .nil)))) (.cons (.c (.str ⟨#[109, 101, 109, 98, 101, 114]⟩)) .nil))))))))) (.cons (.lst (.cons (.c .non) (.cons (.c (.bl true)) (.cons (.c (.str ⟨#[49]⟩)) (.cons (.tup (.cons (.c (.int 1)) .nil)) .nil))))) .nil))) (.cons (.asg (.nm 3) (.lst (.cons (.tup (.cons (.fn ⟨#[99, 111, 108, 108, 101, 99, 116, 101, 100]⟩ 24) (.cons (.tup (.cons (.var 0) (.cons (.tup .nil) .nil))) (.cons (.c (.int 0)) (.cons (.var 2) .nil))))) (.cons (.tup (.cons (.fn ⟨#[99, 111, 108, 108, 101, 99, 116, 101, 100]⟩ 24) (.cons (.tup (.cons (.var 0) (.cons (.tup .nil) .nil))) (.cons (.c (.int 1)) (.cons (.lst (.cons (.c .non) (.cons (.c (.int 5)) (.cons (.tup (.cons (.tup (.cons (.c (.int 3)) (.cons (.c (.int 1)) .nil))) .nil)) (.cons (.tup (.cons (.tup (.cons (.c (.int 0)) (.cons (.c (.int 1001)) .nil))) .nil)) (.cons (.tup (.cons (.tup (.cons (.c (.int 0)) .nil)) .nil)) (.cons (.tup (.cons (.tup (.cons (.c (.int 0)) (.cons (.c (.bl true)) .nil))) .nil)) (.cons (.bin .mul (.tup (.cons (.tup (.cons (.c (.int 0)) (.cons (.c (.int 1)) .nil))) .nil)) (.c (.int 61))) (.cons (.c (.str ⟨#[119, 111, 114, 100]⟩)) .nil))))))))) .nil))))) .nil)))) (.cons (.fors (.nm 4) (.val (.tup (.cons (.fn ⟨#[109, 117, 108, 116, 105, 112, 108, 105, 101, 100]⟩ 25) (.cons (.fn ⟨#[99, 97, 114, 114, 105, 101, 100, 95, 98, 121]⟩ 28) (.cons (.fn ⟨#[101, 120, 99, 104, 97, 110, 103, 101, 100]⟩ 29) (.cons (.fn ⟨#[100, 111, 95, 99, 111, 109, 109, 117, 116, 101]⟩ 30) .nil)))))) b_law_refusals_2) (.cons (.asg (.nm 3) (.bin .add (.var 3) (.lc (.tp (.cons (.nm 7) (.cons (.nm 8) .nil))) (.enm (.lst (.cons (.var 2) (.cons (.var 5) .nil)))) .none b_law_refusals_3 [(⟨#[107]⟩, 7), (⟨#[105, 116, 115]⟩, 8)]))) (.cons (.asg (.nm 3) (.bin .add (.var 3) (.lc (.tp (.cons (.nm 7) (.cons (.nm 8) .nil))) (.enm (.lst (.cons (.var 2) (.cons (.var 5) (.cons (.bin .add (.var 6) (.lst (.cons (.c (.int 1001)) (.cons (.neg (.c (.int 1001))) .nil)))) .nil))))) .none b_law_refusals_4 [(⟨#[107]⟩, 7), (⟨#[105, 116, 115]⟩, 8)]))) (.cons (.asg (.nm 3) (.bin .add (.bin .add (.var 3) (.lc (.nm 4) (.val (.tup (.cons (.fn ⟨#[105, 115, 95, 109, 101, 109, 98, 101, 114]⟩ 22) (.cons (.fn ⟨#[105, 115, 95, 119, 111, 114, 100]⟩ 23) .nil)))) .none b_law_refusals_5 [(⟨#[100, 111, 111, 114]⟩, 4)])) (.lc (.nm 4) (.val (.tup (.cons (.fn ⟨#[108, 101, 116, 116, 101, 114, 95, 119, 101, 105, 103, 104, 116, 115]⟩ 39) (.cons (.fn ⟨#[112, 114, 111, 100, 117, 99, 116, 95, 114, 111, 119]⟩ 40) (.cons (.fn ⟨#[112, 111, 119, 101, 114, 95, 114, 111, 119]⟩ 41) (.cons (.fn ⟨#[98, 111, 111, 107, 95, 115, 105, 122, 101]⟩ 43) .nil)))))) .none b_law_refusals_6 [(⟨#[100, 111, 111, 114]⟩, 4)]))) (.cons (.asg (.nm 3) (.bin .add (.var 3) (.lc (.tp (.cons (.nm 7) (.cons (.nm 8) .nil))) (.enm (.lst (.cons (.var 2) (.cons (.var 5) .nil)))) .none b_law_refusals_7 [(⟨#[107]⟩, 7), (⟨#[105, 116, 115]⟩, 8)]))) (.cons (.fors (.nm 4) (.val (.tup (.cons (.fn ⟨#[114, 111, 111, 116, 115]⟩ 49) (.cons (.fn ⟨#[114, 111, 111, 116]⟩ 50) (.cons (.fn ⟨#[119, 104, 121, 95, 110, 111, 95, 114, 111, 111, 116]⟩ 52) .nil))))) b_law_refusals_9) (.cons (.ret (.bin .add (.var 3) (.lc (.tp (.cons (.nm 7) (.cons (.nm 8) .nil))) (.enm (.lst (.cons (.var 2) (.cons (.var 5) (.cons (.bin .add (.var 6) (.lst (.cons (.c (.int 0)) (.cons (.c (.int 61)) .nil)))) .nil))))) .none b_law_refusals_10 [(⟨#[107]⟩, 7), (⟨#[105, 116, 115]⟩, 8)]))) .nil))))))))))))
def d_b_law_refusals : FD := ⟨0, 9, [], b_law_refusals⟩
/-- 67: law(script, tin, finite_so, got) -/
def b_law : ISs := (.cons (.asg (.nm 1) (.nr (.call 53 (.cons (.call 55 (.cons (.var 0) (.cons (.c (.int 1)) .nil)) [] .nil) (.cons (.c (.int 0)) .nil)) [] .nil))) (.cons (.ifs (.nt (.call 64 (.cons (.fn ⟨#[95, 108, 97, 119, 95, 104, 101, 97, 114, 100]⟩ 65) (.cons (.call 56 (.cons (.var 1) (.cons (.call 66 .nil [] .nil) (.cons (.c (.int 99)) .nil))) [] .nil) .nil)) [] .nil)) (.cons (.ret (.c (.bl false))) .nil) .nil) (.cons (.asg (.nm 2) (.idx (.call 62 (.cons (.c (.int 3)) (.cons (.c (.int 2)) .nil)) [] .nil) (.c (.int 0)))) (.cons (.asg (.nm 3) (.lst (.cons (.call 65 (.cons (.fn ⟨#[114, 111, 111, 116]⟩ 50) (.cons (.tup (.cons (.var 2) (.cons (.tup (.cons (.c (.int 0)) (.cons (.c (.int 0)) (.cons (.c (.int 0)) .nil)))) (.cons (.c (.int 0)) .nil)))) .nil)) [] .nil) (.cons (.call 65 (.cons (.fn ⟨#[114, 111, 111, 116]⟩ 50) (.cons (.tup (.cons (.var 2) (.cons (.tup (.cons (.c (.int 0)) (.cons (.c (.int 0)) (.cons (.c (.int 0)) .nil)))) (.cons (.c (.int 2)) .nil)))) .nil)) [] .nil) (.cons (.call 65 (.cons (.fn ⟨#[109, 117, 108, 116, 105, 112, 108, 105, 101, 100]⟩ 25) (.cons (.tup (.cons (.var 2) (.cons (.tup (.cons (.c (.int 2)) (.cons (.c (.int 0)) (.cons (.c (.int 0)) .nil)))) (.cons (.tup (.cons (.c (.int 0)) (.cons (.c (.int 0)) (.cons (.c (.int 0)) .nil)))) .nil)))) .nil)) [] .nil) .nil))))) (.cons (.asg (.nm 3) (.bin .add (.var 3) (.lst (.cons (.call 65 (.cons (.fn ⟨#[109, 117, 108, 116, 105, 112, 108, 105, 101, 100]⟩ 25) (.cons (.tup (.cons (.var 2) (.cons (.tup (.cons (.c (.int 1)) (.cons (.c (.int 1)) (.cons (.c (.int 1)) .nil)))) (.cons (.tup (.cons (.c (.int 0)) (.cons (.c (.int 0)) (.cons (.neg (.c (.int 1))) .nil)))) .nil)))) .nil)) [] .nil) .nil)))) (.cons (.ret (.call 57 (.cons (.var 3) (.cons (.lst (.cons (.lst (.cons (.c (.str ⟨#[117, 110, 102, 105, 116]⟩)) (.cons (.c (.bl true)) .nil))) (.cons (.lst (.cons (.c (.str ⟨#[99, 97, 110, 32, 110, 111, 116]⟩)) (.cons (.c (.bl true)) .nil))) (.cons (.lst (.cons (.c (.str ⟨#[117, 110, 102, 105, 116]⟩)) (.cons (.c (.bl true)) .nil))) (.cons (.lst (.cons (.c (.str ⟨#[117, 110, 102, 105, 116]⟩)) (.cons (.c (.bl true)) .nil))) .nil))))) .nil)) [] .nil)) .nil))))))
def d_b_law : FD := ⟨1, 4, [], b_law⟩
/-- 68: Hall.__init__(self, book) -/
def b_Hall__init_ : ISs := (.cons .xx (.cons .xx (.cons .xx (.cons .xx .nil))))
def d_b_Hall__init_ : FD := ⟨2, 2, [], b_Hall__init_⟩
/-- 69: Hall.letter(self, place, often, order, head) -/
def b_Hall_letter : ISs := (.cons (.asg (.nm 3) (.idx (.idx (.fld 3 (.var 0) ⟨#[98, 111, 111, 107]⟩) (.c (.int 0))) (.var 1))) (.cons (.ifs (.cmp .eq (.var 3) (.c (.int 0))) (.cons (.ret (.bin .add (.bin .add (.slc (.fld 3 (.var 0) ⟨#[111, 110, 101]⟩) .none (.some (.var 1))) (.tup (.cons (.var 2) .nil))) (.slc (.fld 3 (.var 0) ⟨#[111, 110, 101]⟩) (.some (.bin .add (.var 1) (.c (.int 1)))) .none))) .nil) .nil) (.cons (.asg (.nm 4) (.bin .add (.bin .add (.slc (.fld 3 (.var 0) ⟨#[111, 110, 101]⟩) .none (.some (.var 1))) (.tup (.cons (.bin .mod (.var 2) (.var 3)) .nil))) (.slc (.fld 3 (.var 0) ⟨#[111, 110, 101]⟩) (.some (.bin .add (.var 1) (.c (.int 1)))) .none))) (.cons (.ret (.mth 3 ⟨#[106, 111, 105, 110, 101, 100]⟩ 70 (.var 0) (.cons (.var 1) (.cons (.var 4) (.cons (.mth 3 ⟨#[112, 111, 119, 101, 114, 95, 102, 114, 111, 109]⟩ 78 (.var 0) (.cons (.bin .add (.var 1) (.c (.int 1))) (.cons (.idx (.idx (.fld 3 (.var 0) ⟨#[98, 111, 111, 107]⟩) (.c (.int 1))) (.var 1)) (.cons (.bin .fdiv (.var 2) (.var 3)) .nil)))) .nil))))) .nil))))
def d_b_Hall_letter : FD := ⟨3, 5, [.int 1], b_Hall_letter⟩
/-- 70: Hall.joined(self, place, head, rest) -/
def b_Hall_joined : ISs := (.cons (.ret (.bin .add (.slc (.var 2) .none (.some (.bin .add (.var 1) (.c (.int 1))))) (.slc (.var 3) (.some (.bin .add (.var 1) (.c (.int 1)))) .none))) .nil)
def d_b_Hall_joined : FD := ⟨4, 4, [], b_Hall_joined⟩
/-- 71: Hall.is_flat(self, place, low, high, own) -/
def b_Hall_is_flat_1 : IE := (.cmp .ne (.var 4) (.c (.int 0)))
def b_Hall_is_flat_2 : ISs := (.cons (.ifs (.bi .any (.cons (.lc (.nm 4) (.val (.call 8 (.cons (.fld 3 (.var 0) ⟨#[98, 111, 111, 107]⟩) (.cons (.var 2) (.cons (.var 3) .nil))) [] .nil)) .none b_Hall_is_flat_1 [(⟨#[111, 119, 110]⟩, 4)]) .nil)) (.cons (.ret (.c (.bl false))) .nil) .nil) .nil)
def b_Hall_is_flat_3 : ISs := (.cons (.fors (.nm 3) (.rng (.cons (.bin .add (.var 2) (.c (.int 1))) (.cons (.fld 3 (.var 0) ⟨#[109, 97, 110, 121]⟩) .nil))) b_Hall_is_flat_2) .nil)
def b_Hall_is_flat : ISs := (.cons (.fors (.nm 2) (.rng (.cons (.var 1) (.cons (.fld 3 (.var 0) ⟨#[109, 97, 110, 121]⟩) .nil))) b_Hall_is_flat_3) (.cons (.ret (.c (.bl true))) .nil))
def d_b_Hall_is_flat : FD := ⟨2, 5, [], b_Hall_is_flat⟩
/-- 72: Hall.images(self, place, often, key) -/
def b_Hall_images : ISs := (.cons (.asg (.nm 3) (.nr (.ktup (.cons (.var 1) (.cons (.var 2) .nil))))) (.cons (.ifs (.kin 3 true (.var 3) (.var 0) ⟨#[107, 101, 112, 116]⟩) (.cons (.kput 3 (.var 0) ⟨#[107, 101, 112, 116]⟩ (.var 3) (.mth 3 ⟨#[105, 109, 97, 103, 101, 115, 95, 97, 110, 101, 119]⟩ 73 (.var 0) (.cons (.var 1) (.cons (.var 2) .nil)))) .nil) .nil) (.cons (.ret (.kget 3 (.var 0) ⟨#[107, 101, 112, 116]⟩ (.var 3))) .nil)))
def d_b_Hall_images : FD := ⟨3, 4, [], b_Hall_images⟩
/-- 73: Hall.images_anew(self, place, often, half, near, far, own) -/
def b_Hall_images_anew_1 : IE := (.mth 3 ⟨#[108, 101, 116, 116, 101, 114]⟩ 69 (.var 0) (.cons (.var 6) .nil))
def b_Hall_images_anew_2 : IE := (.mth 3 ⟨#[116, 105, 109, 101, 115, 95, 102, 114, 111, 109]⟩ 76 (.var 0) (.cons (.bin .add (.var 1) (.c (.int 1))) (.cons (.mth 3 ⟨#[108, 101, 116, 116, 101, 114]⟩ 69 (.var 0) (.cons (.var 6) .nil)) (.cons (.call 8 (.cons (.fld 3 (.var 0) ⟨#[98, 111, 111, 107]⟩) (.cons (.var 1) (.cons (.var 6) .nil))) [] .nil) .nil))))
def b_Hall_images_anew_3 : IE := (.mth 3 ⟨#[108, 101, 100]⟩ 75 (.var 0) (.cons (.var 1) (.cons (.var 6) (.cons (.var 5) .nil))))
def b_Hall_images_anew : ISs := (.cons (.ifs (.cmp .eq (.var 2) (.c (.int 0))) (.cons (.ret (.bi .tuple (.cons (.lc (.nm 6) (.rng (.cons (.bin .add (.var 1) (.c (.int 1))) (.cons (.fld 3 (.var 0) ⟨#[109, 97, 110, 121]⟩) .nil))) .none b_Hall_images_anew_1 [(⟨#[111, 119, 110]⟩, 6)]) .nil))) .nil) .nil) (.cons (.ifs (.cmp .eq (.var 2) (.c (.int 1))) (.cons (.ret (.bi .tuple (.cons (.lc (.nm 6) (.rng (.cons (.bin .add (.var 1) (.c (.int 1))) (.cons (.fld 3 (.var 0) ⟨#[109, 97, 110, 121]⟩) .nil))) .none b_Hall_images_anew_2 [(⟨#[111, 119, 110]⟩, 6)]) .nil))) .nil) .nil) (.cons (.ifs (.cmp .eq (.var 2) (.neg (.c (.int 1)))) (.cons (.ret (.mth 3 ⟨#[98, 97, 99, 107, 95, 105, 109, 97, 103, 101, 115]⟩ 74 (.var 0) (.cons (.var 1) .nil))) .nil) .nil) (.cons (.asg (.nm 3) (.ife (.cmp .gt (.var 2) (.c (.int 0))) (.bin .fdiv (.var 2) (.c (.int 2))) (.neg (.bin .fdiv (.neg (.var 2)) (.c (.int 2)))))) (.cons (.asg (.tp (.cons (.nm 4) (.cons (.nm 5) .nil))) (.tup (.cons (.mth 3 ⟨#[105, 109, 97, 103, 101, 115]⟩ 72 (.var 0) (.cons (.var 1) (.cons (.var 3) .nil))) (.cons (.mth 3 ⟨#[105, 109, 97, 103, 101, 115]⟩ 72 (.var 0) (.cons (.var 1) (.cons (.bin .sub (.var 2) (.var 3)) .nil))) .nil)))) (.cons (.ret (.bi .tuple (.cons (.lc (.nm 6) (.val (.var 4)) .none b_Hall_images_anew_3 [(⟨#[111, 119, 110]⟩, 6)]) .nil))) .nil))))))
def d_b_Hall_images_anew : FD := ⟨3, 7, [], b_Hall_images_anew⟩
/-- 74: Hall.back_images(self, place, found, own, tie) -/
def b_Hall_back_images_1 : IE := (.mth 3 ⟨#[108, 101, 116, 116, 101, 114]⟩ 69 (.var 0) (.cons (.var 3) .nil))
def b_Hall_back_images_2 : ISs := (.cons (.asg (.nm 4) (.mth 3 ⟨#[108, 101, 100]⟩ 75 (.var 0) (.cons (.var 1) (.cons (.call 8 (.cons (.fld 3 (.var 0) ⟨#[98, 111, 111, 107]⟩) (.cons (.var 1) (.cons (.var 3) .nil))) [] .nil) (.cons (.bi .tuple (.cons (.var 2) .nil)) .nil))))) (.cons (.asg (.sub (.var 2) (.bin .sub (.bin .sub (.var 3) (.var 1)) (.c (.int 1)))) (.mth 3 ⟨#[116, 105, 109, 101, 115, 95, 102, 114, 111, 109]⟩ 76 (.var 0) (.cons (.bin .add (.var 1) (.c (.int 1))) (.cons (.mth 3 ⟨#[108, 101, 116, 116, 101, 114]⟩ 69 (.var 0) (.cons (.var 3) .nil)) (.cons (.mth 3 ⟨#[98, 97, 99, 107, 95, 102, 114, 111, 109]⟩ 79 (.var 0) (.cons (.bin .add (.var 1) (.c (.int 1))) (.cons (.var 4) .nil))) .nil))))) .nil))
def b_Hall_back_images : ISs := (.cons (.asg (.nm 2) (.nr (.lc (.nm 3) (.rng (.cons (.bin .add (.var 1) (.c (.int 1))) (.cons (.fld 3 (.var 0) ⟨#[109, 97, 110, 121]⟩) .nil))) .none b_Hall_back_images_1 [(⟨#[111, 119, 110]⟩, 3)]))) (.cons (.fors (.nm 3) (.rng (.cons (.bin .sub (.fld 3 (.var 0) ⟨#[109, 97, 110, 121]⟩) (.c (.int 1))) (.cons (.var 1) (.cons (.neg (.c (.int 1))) .nil)))) b_Hall_back_images_2) (.cons (.ret (.bi .tuple (.cons (.var 2) .nil))) .nil)))
def d_b_Hall_back_images : FD := ⟨2, 5, [], b_Hall_back_images⟩
/-- 75: Hall.led(self, place, member, images, found, own, more) -/
def b_Hall_led_1 : ISs := (.cons (.ifs (.cmp .ne (.idx (.var 2) (.var 5)) (.c (.int 0))) (.cons (.asg (.nm 6) (.mth 3 ⟨#[112, 111, 119, 101, 114, 95, 102, 114, 111, 109]⟩ 78 (.var 0) (.cons (.bin .add (.var 1) (.c (.int 1))) (.cons (.idx (.var 3) (.bin .sub (.bin .sub (.var 5) (.var 1)) (.c (.int 1)))) (.cons (.idx (.var 2) (.var 5)) .nil))))) (.cons (.asg (.nm 4) (.mth 3 ⟨#[116, 105, 109, 101, 115, 95, 102, 114, 111, 109]⟩ 76 (.var 0) (.cons (.bin .add (.var 1) (.c (.int 1))) (.cons (.var 4) (.cons (.var 6) .nil))))) .nil)) .nil) .nil)
def b_Hall_led : ISs := (.cons (.asg (.nm 4) (.fld 3 (.var 0) ⟨#[111, 110, 101]⟩)) (.cons (.fors (.nm 5) (.rng (.cons (.bin .add (.var 1) (.c (.int 1))) (.cons (.fld 3 (.var 0) ⟨#[109, 97, 110, 121]⟩) .nil))) b_Hall_led_1) (.cons (.ret (.var 4)) .nil)))
def d_b_Hall_led : FD := ⟨4, 7, [], b_Hall_led⟩
/-- 76: Hall.times_from(self, place, one, other, often, rest, total, order, own) -/
def b_Hall_times_from_1 : IE := (.cmp .ne (.var 8) (.c (.int 0)))
def b_Hall_times_from : ISs := (.cons (.ifs (.cmp .ge (.var 1) (.fld 3 (.var 0) ⟨#[109, 97, 110, 121]⟩)) (.cons (.ret (.fld 3 (.var 0) ⟨#[111, 110, 101]⟩)) .nil) .nil) (.cons (.ifs (.mth 3 ⟨#[105, 115, 95, 112, 108, 97, 105, 110]⟩ 77 (.var 0) (.cons (.var 1) (.cons (.var 2) (.cons (.var 3) .nil)))) (.cons (.ret (.mth 3 ⟨#[116, 105, 109, 101, 115, 95, 102, 114, 111, 109]⟩ 76 (.var 0) (.cons (.bin .add (.var 1) (.c (.int 1))) (.cons (.var 2) (.cons (.var 3) .nil))))) .nil) .nil) (.cons (.asg (.nm 4) (.idx (.var 3) (.var 1))) (.cons (.asg (.nm 5) (.bin .add (.bin .mul (.tup (.cons (.c (.int 0)) .nil)) (.bin .add (.var 1) (.c (.int 1)))) (.slc (.var 2) (.some (.bin .add (.var 1) (.c (.int 1)))) .none))) (.cons (.ifs (.and (.cmp .ne (.var 4) (.c (.int 0))) (.and (.bi .any (.cons (.lc (.nm 8) (.val (.var 5)) .none b_Hall_times_from_1 [(⟨#[111, 119, 110]⟩, 8)]) .nil)) (.nt (.mth 3 ⟨#[105, 115, 95, 102, 108, 97, 116]⟩ 71 (.var 0) (.cons (.var 1) .nil))))) (.cons (.asg (.nm 5) (.mth 3 ⟨#[108, 101, 100]⟩ 75 (.var 0) (.cons (.var 1) (.cons (.var 5) (.cons (.mth 3 ⟨#[105, 109, 97, 103, 101, 115]⟩ 72 (.var 0) (.cons (.var 1) (.cons (.var 4) .nil))) .nil))))) .nil) .nil) (.cons (.asg (.nm 5) (.mth 3 ⟨#[116, 105, 109, 101, 115, 95, 102, 114, 111, 109]⟩ 76 (.var 0) (.cons (.bin .add (.var 1) (.c (.int 1))) (.cons (.var 5) (.cons (.bin .add (.bin .mul (.tup (.cons (.c (.int 0)) .nil)) (.bin .add (.var 1) (.c (.int 1)))) (.slc (.var 3) (.some (.bin .add (.var 1) (.c (.int 1)))) .none)) .nil))))) (.cons (.par [6, 7] (.cons (.bin .add (.idx (.var 2) (.var 1)) (.var 4)) (.cons (.idx (.idx (.fld 3 (.var 0) ⟨#[98, 111, 111, 107]⟩) (.c (.int 0))) (.var 1)) .nil))) (.cons (.ifs (.and (.cmp .gt (.var 7) (.c (.int 0))) (.nt (.ch .le .lt (.c (.int 0)) (.var 6) (.var 7)))) (.cons (.asg (.nm 5) (.mth 3 ⟨#[116, 105, 109, 101, 115, 95, 102, 114, 111, 109]⟩ 76 (.var 0) (.cons (.bin .add (.var 1) (.c (.int 1))) (.cons (.mth 3 ⟨#[112, 111, 119, 101, 114, 95, 102, 114, 111, 109]⟩ 78 (.var 0) (.cons (.bin .add (.var 1) (.c (.int 1))) (.cons (.idx (.idx (.fld 3 (.var 0) ⟨#[98, 111, 111, 107]⟩) (.c (.int 1))) (.var 1)) (.cons (.bin .fdiv (.var 6) (.var 7)) .nil)))) (.cons (.var 5) .nil))))) (.cons (.asg (.nm 6) (.bin .mod (.var 6) (.var 7))) .nil)) .nil) (.cons (.ret (.bin .add (.bin .add (.bin .mul (.tup (.cons (.c (.int 0)) .nil)) (.var 1)) (.tup (.cons (.var 6) .nil))) (.slc (.var 5) (.some (.bin .add (.var 1) (.c (.int 1)))) .none))) .nil)))))))))
def d_b_Hall_times_from : FD := ⟨4, 9, [], b_Hall_times_from⟩
/-- 77: Hall.is_plain(self, place, one, other) -/
def b_Hall_is_plain : ISs := (.cons (.ret (.and (.cmp .eq (.idx (.var 2) (.var 1)) (.c (.int 0))) (.cmp .eq (.idx (.var 3) (.var 1)) (.c (.int 0))))) .nil)
def d_b_Hall_is_plain : FD := ⟨4, 4, [], b_Hall_is_plain⟩
/-- 78: Hall.power_from(self, place, member, often, found, square) -/
def b_Hall_power_from_1 : IE := (.cmp .gt (.var 3) (.c (.int 0)))
def b_Hall_power_from_2 : ISs := (.cons (.ifs (.cmp .eq (.bin .mod (.var 3) (.c (.int 2))) (.c (.int 1))) (.cons (.asg (.nm 4) (.mth 3 ⟨#[116, 105, 109, 101, 115, 95, 102, 114, 111, 109]⟩ 76 (.var 0) (.cons (.var 1) (.cons (.var 4) (.cons (.var 5) .nil))))) .nil) .nil) (.cons (.asg (.nm 3) (.bin .fdiv (.var 3) (.c (.int 2)))) (.cons (.ifs (.cmp .gt (.var 3) (.c (.int 0))) (.cons (.asg (.nm 5) (.mth 3 ⟨#[116, 105, 109, 101, 115, 95, 102, 114, 111, 109]⟩ 76 (.var 0) (.cons (.var 1) (.cons (.var 5) (.cons (.var 5) .nil))))) .nil) .nil) .nil)))
def b_Hall_power_from : ISs := (.cons (.ifs (.cmp .lt (.var 3) (.c (.int 0))) (.cons (.ret (.mth 3 ⟨#[112, 111, 119, 101, 114, 95, 102, 114, 111, 109]⟩ 78 (.var 0) (.cons (.var 1) (.cons (.mth 3 ⟨#[98, 97, 99, 107, 95, 102, 114, 111, 109]⟩ 79 (.var 0) (.cons (.var 1) (.cons (.var 2) .nil))) (.cons (.neg (.var 3)) .nil))))) .nil) .nil) (.cons (.par [4, 5] (.cons (.fld 3 (.var 0) ⟨#[111, 110, 101]⟩) (.cons (.var 2) .nil))) (.cons (.whl b_Hall_power_from_1 b_Hall_power_from_2) (.cons (.ret (.var 4)) .nil))))
def d_b_Hall_power_from : FD := ⟨4, 6, [], b_Hall_power_from⟩
/-- 79: Hall.back_from(self, place, member, rest, often, head, own) -/
def b_Hall_back_from_1 : IE := (.cmp .eq (.var 6) (.c (.int 0)))
def b_Hall_back_from : ISs := (.cons (.ifs (.or (.cmp .ge (.var 1) (.fld 3 (.var 0) ⟨#[109, 97, 110, 121]⟩)) (.bi .all (.cons (.lc (.nm 6) (.val (.var 2)) .none b_Hall_back_from_1 [(⟨#[111, 119, 110]⟩, 6)]) .nil))) (.cons (.ret (.fld 3 (.var 0) ⟨#[111, 110, 101]⟩)) .nil) .nil) (.cons (.asg (.nm 3) (.mth 3 ⟨#[98, 97, 99, 107, 95, 102, 114, 111, 109]⟩ 79 (.var 0) (.cons (.bin .add (.var 1) (.c (.int 1))) (.cons (.bin .add (.bin .mul (.tup (.cons (.c (.int 0)) .nil)) (.bin .add (.var 1) (.c (.int 1)))) (.slc (.var 2) (.some (.bin .add (.var 1) (.c (.int 1)))) .none)) .nil)))) (.cons (.asg (.nm 4) (.idx (.var 2) (.var 1))) (.cons (.ifs (.cmp .eq (.var 4) (.c (.int 0))) (.cons (.ret (.var 3)) .nil) .nil) (.cons (.asg (.nm 5) (.mth 3 ⟨#[108, 101, 116, 116, 101, 114]⟩ 69 (.var 0) (.cons (.var 1) (.cons (.neg (.var 4)) .nil)))) (.cons (.ret (.mth 3 ⟨#[116, 105, 109, 101, 115, 95, 102, 114, 111, 109]⟩ 76 (.var 0) (.cons (.var 1) (.cons (.var 3) (.cons (.var 5) .nil))))) .nil))))))
def d_b_Hall_back_from : FD := ⟨3, 7, [], b_Hall_back_from⟩
/-- 80: Hall.times(self, one, other) -/
def b_Hall_times : ISs := (.cons (.ret (.mth 3 ⟨#[116, 105, 109, 101, 115, 95, 102, 114, 111, 109]⟩ 76 (.var 0) (.cons (.c (.int 0)) (.cons (.var 1) (.cons (.var 2) .nil))))) .nil)
def d_b_Hall_times : FD := ⟨3, 3, [], b_Hall_times⟩
/-- 81: Hall.power(self, member, often) -/
def b_Hall_power : ISs := (.cons (.ret (.mth 3 ⟨#[112, 111, 119, 101, 114, 95, 102, 114, 111, 109]⟩ 78 (.var 0) (.cons (.c (.int 0)) (.cons (.var 1) (.cons (.var 2) .nil))))) .nil)
def d_b_Hall_power : FD := ⟨3, 3, [], b_Hall_power⟩
/-- 82: Hall.back(self, member) -/
def b_Hall_back : ISs := (.cons (.ret (.mth 3 ⟨#[98, 97, 99, 107, 95, 102, 114, 111, 109]⟩ 79 (.var 0) (.cons (.c (.int 0)) (.cons (.var 1) .nil)))) .nil)
def d_b_Hall_back : FD := ⟨2, 2, [], b_Hall_back⟩
/-- 83: Hall.carried(self, member, by) -/
def b_Hall_carried : ISs := (.cons (.ret (.mth 3 ⟨#[116, 105, 109, 101, 115]⟩ 80 (.var 0) (.cons (.mth 3 ⟨#[98, 97, 99, 107]⟩ 82 (.var 0) (.cons (.var 2) .nil)) (.cons (.mth 3 ⟨#[116, 105, 109, 101, 115]⟩ 80 (.var 0) (.cons (.var 1) (.cons (.var 2) .nil))) .nil)))) .nil)
def d_b_Hall_carried : FD := ⟨3, 3, [], b_Hall_carried⟩
/-- 84: Hall.exchange(self, one, other) -/
def b_Hall_exchange : ISs := (.cons (.ret (.mth 3 ⟨#[116, 105, 109, 101, 115]⟩ 80 (.var 0) (.cons (.mth 3 ⟨#[98, 97, 99, 107]⟩ 82 (.var 0) (.cons (.mth 3 ⟨#[116, 105, 109, 101, 115]⟩ 80 (.var 0) (.cons (.var 2) (.cons (.var 1) .nil))) .nil)) (.cons (.mth 3 ⟨#[116, 105, 109, 101, 115]⟩ 80 (.var 0) (.cons (.var 1) (.cons (.var 2) .nil))) .nil)))) .nil)
def d_b_Hall_exchange : FD := ⟨3, 3, [], b_Hall_exchange⟩
/-- 85: Hall.word(self, pairs, found, letter, often) -/
def b_Hall_word_1 : ISs := (.cons (.asg (.nm 2) (.mth 3 ⟨#[116, 105, 109, 101, 115]⟩ 80 (.var 0) (.cons (.var 2) (.cons (.mth 3 ⟨#[108, 101, 116, 116, 101, 114]⟩ 69 (.var 0) (.cons (.var 3) (.cons (.var 4) .nil))) .nil)))) .nil)
def b_Hall_word : ISs := (.cons (.asg (.nm 2) (.fld 3 (.var 0) ⟨#[111, 110, 101]⟩)) (.cons (.fors (.tp (.cons (.nm 3) (.cons (.nm 4) .nil))) (.val (.var 1)) b_Hall_word_1) (.cons (.ret (.var 2)) .nil)))
def d_b_Hall_word : FD := ⟨2, 5, [], b_Hall_word⟩
def prog : Prog := [d_b_is_number,
  d_b_is_within,
  d_b_sure_within,
  d_b_is_long,
  d_b_are_numbers,
  d_b_tupled,
  d_b_common,
  d_b_chosen,
  d_b_tie_of,
  d_b_lead_of,
  d_b_is_member_in,
  d_b_sure_member,
  d_b_sure_word,
  d_b_is_line,
  d_b_pairs_of,
  d_b_is_book_of,
  d_b_is_small_book,
  d_b_overlaps_at,
  d_b_sides_in,
  d_b_first_parting,
  d_b_sure_shape,
  d_b_sure_book,
  d_b_is_member,
  d_b_is_word,
  d_b_collected,
  d_b_multiplied,
  d_b_powered,
  d_b_turned_back,
  d_b_carried_by,
  d_b_exchanged,
  d_b_do_commute,
  d_b_weights_in,
  d_b_tops_of,
  d_b_below,
  d_b_differences,
  d_b_fitted,
  d_b_product_polys,
  d_b_power_polys,
  d_b_sure_endless,
  d_b_letter_weights,
  d_b_product_row,
  d_b_power_row,
  d_b_size_of,
  d_b_book_size,
  d_b_order_in,
  d_b_steps_at,
  d_b_roots_in,
  d_b_first_gap,
  d_b_member_order,
  d_b_roots,
  d_b_root,
  d_b_is_root,
  d_b_why_no_root,
  d_b_law_box,
  d_b_law_take,
  d_b_law_cells,
  d_b_law_pick,
  d_b_law_same,
  d_b_law_unmarked,
  d_b_law_flat,
  d_b_law_pairs,
  d_b_law_places,
  d_b_law_grid_book,
  d_b_law_call,
  d_b_law_none_fits,
  d_b_law_heard,
  d_b_law_refusals,
  d_b_law,
  d_b_Hall__init_,
  d_b_Hall_letter,
  d_b_Hall_joined,
  d_b_Hall_is_flat,
  d_b_Hall_images,
  d_b_Hall_images_anew,
  d_b_Hall_back_images,
  d_b_Hall_led,
  d_b_Hall_times_from,
  d_b_Hall_is_plain,
  d_b_Hall_power_from,
  d_b_Hall_back_from,
  d_b_Hall_times,
  d_b_Hall_power,
  d_b_Hall_back,
  d_b_Hall_carried,
  d_b_Hall_exchange,
  d_b_Hall_word]
end VM

set_option maxHeartbeats 0
namespace VM
open PySem PySem.Spec PyProof.Rows L2 RZ
def tab : Tab where
  fns := [(⟨#[105, 115, 95, 110, 117, 109, 98, 101, 114]⟩, 0), (⟨#[105, 115, 95, 119, 105, 116, 104, 105, 110]⟩, 1), (⟨#[115, 117, 114, 101, 95, 119, 105, 116, 104, 105, 110]⟩, 2), (⟨#[105, 115, 95, 108, 111, 110, 103]⟩, 3), (⟨#[97, 114, 101, 95, 110, 117, 109, 98, 101, 114, 115]⟩, 4), (⟨#[116, 117, 112, 108, 101, 100]⟩, 5), (⟨#[99, 111, 109, 109, 111, 110]⟩, 6), (⟨#[99, 104, 111, 115, 101, 110]⟩, 7), (⟨#[116, 105, 101, 95, 111, 102]⟩, 8), (⟨#[108, 101, 97, 100, 95, 111, 102]⟩, 9), (⟨#[105, 115, 95, 109, 101, 109, 98, 101, 114, 95, 105, 110]⟩, 10), (⟨#[115, 117, 114, 101, 95, 109, 101, 109, 98, 101, 114]⟩, 11), (⟨#[115, 117, 114, 101, 95, 119, 111, 114, 100]⟩, 12), (⟨#[105, 115, 95, 108, 105, 110, 101]⟩, 13), (⟨#[112, 97, 105, 114, 115, 95, 111, 102]⟩, 14), (⟨#[105, 115, 95, 98, 111, 111, 107, 95, 111, 102]⟩, 15), (⟨#[105, 115, 95, 115, 109, 97, 108, 108, 95, 98, 111, 111, 107]⟩, 16), (⟨#[111, 118, 101, 114, 108, 97, 112, 115, 95, 97, 116]⟩, 17), (⟨#[115, 105, 100, 101, 115, 95, 105, 110]⟩, 18), (⟨#[102, 105, 114, 115, 116, 95, 112, 97, 114, 116, 105, 110, 103]⟩, 19), (⟨#[115, 117, 114, 101, 95, 115, 104, 97, 112, 101]⟩, 20), (⟨#[115, 117, 114, 101, 95, 98, 111, 111, 107]⟩, 21), (⟨#[105, 115, 95, 109, 101, 109, 98, 101, 114]⟩, 22), (⟨#[105, 115, 95, 119, 111, 114, 100]⟩, 23), (⟨#[99, 111, 108, 108, 101, 99, 116, 101, 100]⟩, 24), (⟨#[109, 117, 108, 116, 105, 112, 108, 105, 101, 100]⟩, 25), (⟨#[112, 111, 119, 101, 114, 101, 100]⟩, 26), (⟨#[116, 117, 114, 110, 101, 100, 95, 98, 97, 99, 107]⟩, 27), (⟨#[99, 97, 114, 114, 105, 101, 100, 95, 98, 121]⟩, 28), (⟨#[101, 120, 99, 104, 97, 110, 103, 101, 100]⟩, 29), (⟨#[100, 111, 95, 99, 111, 109, 109, 117, 116, 101]⟩, 30), (⟨#[119, 101, 105, 103, 104, 116, 115, 95, 105, 110]⟩, 31), (⟨#[116, 111, 112, 115, 95, 111, 102]⟩, 32), (⟨#[98, 101, 108, 111, 119]⟩, 33), (⟨#[100, 105, 102, 102, 101, 114, 101, 110, 99, 101, 115]⟩, 34), (⟨#[102, 105, 116, 116, 101, 100]⟩, 35), (⟨#[112, 114, 111, 100, 117, 99, 116, 95, 112, 111, 108, 121, 115]⟩, 36), (⟨#[112, 111, 119, 101, 114, 95, 112, 111, 108, 121, 115]⟩, 37), (⟨#[115, 117, 114, 101, 95, 101, 110, 100, 108, 101, 115, 115]⟩, 38), (⟨#[108, 101, 116, 116, 101, 114, 95, 119, 101, 105, 103, 104, 116, 115]⟩, 39), (⟨#[112, 114, 111, 100, 117, 99, 116, 95, 114, 111, 119]⟩, 40), (⟨#[112, 111, 119, 101, 114, 95, 114, 111, 119]⟩, 41), (⟨#[115, 105, 122, 101, 95, 111, 102]⟩, 42), (⟨#[98, 111, 111, 107, 95, 115, 105, 122, 101]⟩, 43), (⟨#[111, 114, 100, 101, 114, 95, 105, 110]⟩, 44), (⟨#[115, 116, 101, 112, 115, 95, 97, 116]⟩, 45), (⟨#[114, 111, 111, 116, 115, 95, 105, 110]⟩, 46), (⟨#[102, 105, 114, 115, 116, 95, 103, 97, 112]⟩, 47), (⟨#[109, 101, 109, 98, 101, 114, 95, 111, 114, 100, 101, 114]⟩, 48), (⟨#[114, 111, 111, 116, 115]⟩, 49), (⟨#[114, 111, 111, 116]⟩, 50), (⟨#[105, 115, 95, 114, 111, 111, 116]⟩, 51), (⟨#[119, 104, 121, 95, 110, 111, 95, 114, 111, 111, 116]⟩, 52), (⟨#[95, 108, 97, 119, 95, 98, 111, 120]⟩, 53), (⟨#[95, 108, 97, 119, 95, 116, 97, 107, 101]⟩, 54), (⟨#[95, 108, 97, 119, 95, 99, 101, 108, 108, 115]⟩, 55), (⟨#[95, 108, 97, 119, 95, 112, 105, 99, 107]⟩, 56), (⟨#[95, 108, 97, 119, 95, 115, 97, 109, 101]⟩, 57), (⟨#[95, 108, 97, 119, 95, 117, 110, 109, 97, 114, 107, 101, 100]⟩, 58), (⟨#[95, 108, 97, 119, 95, 102, 108, 97, 116]⟩, 59), (⟨#[95, 108, 97, 119, 95, 112, 97, 105, 114, 115]⟩, 60), (⟨#[95, 108, 97, 119, 95, 112, 108, 97, 99, 101, 115]⟩, 61), (⟨#[95, 108, 97, 119, 95, 103, 114, 105, 100, 95, 98, 111, 111, 107]⟩, 62), (⟨#[95, 108, 97, 119, 95, 99, 97, 108, 108]⟩, 63), (⟨#[95, 108, 97, 119, 95, 110, 111, 110, 101, 95, 102, 105, 116, 115]⟩, 64), (⟨#[95, 108, 97, 119, 95, 104, 101, 97, 114, 100]⟩, 65), (⟨#[95, 108, 97, 119, 95, 114, 101, 102, 117, 115, 97, 108, 115]⟩, 66), (⟨#[108, 97, 119]⟩, 67)]
  nums := [(⟨#[77, 79, 83, 84, 95, 76, 69, 84, 84, 69, 82, 83]⟩, 6), (⟨#[77, 79, 83, 84, 95, 79, 82, 68, 69, 82]⟩, 1000), (⟨#[77, 79, 83, 84, 95, 78, 85, 77, 66, 69, 82]⟩, 1000), (⟨#[77, 79, 83, 84, 95, 82, 79, 79, 84, 83]⟩, 1000), (⟨#[77, 79, 83, 84, 95, 84, 73, 77, 69, 83]⟩, 60)]
  txts := []
  frees := [⟨#[86, 97, 108, 117, 101, 69, 114, 114, 111, 114]⟩, ⟨#[97, 98, 115]⟩, ⟨#[97, 108, 108]⟩, ⟨#[97, 110, 121]⟩, ⟨#[98, 111, 111, 108]⟩, ⟨#[100, 105, 99, 116]⟩, ⟨#[101, 110, 117, 109, 101, 114, 97, 116, 101]⟩, ⟨#[105, 110, 116]⟩, ⟨#[105, 115, 105, 110, 115, 116, 97, 110, 99, 101]⟩, ⟨#[108, 101, 110]⟩, ⟨#[108, 105, 115, 116]⟩, ⟨#[109, 97, 120]⟩, ⟨#[109, 105, 110]⟩, ⟨#[114, 97, 110, 103, 101]⟩, ⟨#[115, 111, 114, 116, 101, 100]⟩, ⟨#[115, 116, 114]⟩, ⟨#[116, 117, 112, 108, 101]⟩, ⟨#[122, 105, 112]⟩]
  dig := true
  mths := [(3, ⟨#[98, 97, 99, 107]⟩, 82), (3, ⟨#[98, 97, 99, 107, 95, 102, 114, 111, 109]⟩, 79), (3, ⟨#[98, 97, 99, 107, 95, 105, 109, 97, 103, 101, 115]⟩, 74), (3, ⟨#[99, 97, 114, 114, 105, 101, 100]⟩, 83), (3, ⟨#[101, 120, 99, 104, 97, 110, 103, 101]⟩, 84), (3, ⟨#[105, 109, 97, 103, 101, 115]⟩, 72), (3, ⟨#[105, 109, 97, 103, 101, 115, 95, 97, 110, 101, 119]⟩, 73), (3, ⟨#[105, 115, 95, 102, 108, 97, 116]⟩, 71), (3, ⟨#[105, 115, 95, 112, 108, 97, 105, 110]⟩, 77), (3, ⟨#[106, 111, 105, 110, 101, 100]⟩, 70), (3, ⟨#[108, 101, 100]⟩, 75), (3, ⟨#[108, 101, 116, 116, 101, 114]⟩, 69), (3, ⟨#[112, 111, 119, 101, 114]⟩, 81), (3, ⟨#[112, 111, 119, 101, 114, 95, 102, 114, 111, 109]⟩, 78), (3, ⟨#[116, 105, 109, 101, 115]⟩, 80), (3, ⟨#[116, 105, 109, 101, 115, 95, 102, 114, 111, 109]⟩, 76), (3, ⟨#[119, 111, 114, 100]⟩, 85)]
  flds := [(3, ⟨#[98, 111, 111, 107]⟩), (3, ⟨#[107, 101, 112, 116]⟩), (3, ⟨#[109, 97, 110, 121]⟩), (3, ⟨#[111, 110, 101]⟩)]
  mks := [(⟨#[72, 97, 108, 108]⟩, 3, 68)]
  xcs := [(⟨#[67, 97, 110, 78, 111, 116]⟩, 0), (⟨#[84, 111, 111, 77, 97, 110, 121]⟩, 1), (⟨#[85, 110, 102, 105, 116]⟩, 2)]
  pats := [(0, 1, []), (1, 3, []), (2, 3, []), (3, 2, []), (4, 1, []), (5, 1, []), (6, 2, []), (8, 3, []), (9, 1, []), (10, 2, []), (11, 2, []), (12, 2, []), (13, 3, []), (14, 1, []), (15, 1, []), (16, 1, []), (17, 2, []), (18, 2, []), (19, 1, []), (20, 1, []), (21, 1, []), (31, 1, []), (32, 2, []), (33, 1, []), (34, 2, []), (35, 2, []), (36, 1, []), (37, 1, []), (38, 1, []), (42, 1, []), (44, 2, []), (45, 3, []), (46, 3, []), (47, 3, []), (53, 2, []), (54, 2, []), (55, 2, []), (56, 3, []), (57, 2, []), (58, 1, []), (59, 1, []), (60, 1, []), (61, 1, []), (62, 2, []), (63, 2, []), (64, 2, []), (65, 2, []), (66, 0, []), (69, 2, []), (69, 3, []), (70, 4, []), (71, 2, []), (72, 3, []), (73, 3, []), (74, 2, []), (75, 4, []), (76, 4, []), (77, 4, []), (78, 4, []), (79, 3, []), (80, 3, []), (81, 3, []), (82, 2, []), (83, 3, []), (84, 3, []), (85, 2, [])]
def ats : Ats := [(⟨#[105, 115, 95, 110, 117, 109, 98, 101, 114]⟩, none), (⟨#[105, 115, 95, 119, 105, 116, 104, 105, 110]⟩, none), (⟨#[115, 117, 114, 101, 95, 119, 105, 116, 104, 105, 110]⟩, none), (⟨#[105, 115, 95, 108, 111, 110, 103]⟩, none), (⟨#[97, 114, 101, 95, 110, 117, 109, 98, 101, 114, 115]⟩, none), (⟨#[116, 117, 112, 108, 101, 100]⟩, none), (⟨#[99, 111, 109, 109, 111, 110]⟩, none), (⟨#[99, 104, 111, 115, 101, 110]⟩, none), (⟨#[116, 105, 101, 95, 111, 102]⟩, none), (⟨#[108, 101, 97, 100, 95, 111, 102]⟩, none), (⟨#[105, 115, 95, 109, 101, 109, 98, 101, 114, 95, 105, 110]⟩, none), (⟨#[115, 117, 114, 101, 95, 109, 101, 109, 98, 101, 114]⟩, none), (⟨#[115, 117, 114, 101, 95, 119, 111, 114, 100]⟩, none), (⟨#[105, 115, 95, 108, 105, 110, 101]⟩, none), (⟨#[112, 97, 105, 114, 115, 95, 111, 102]⟩, none), (⟨#[105, 115, 95, 98, 111, 111, 107, 95, 111, 102]⟩, none), (⟨#[105, 115, 95, 115, 109, 97, 108, 108, 95, 98, 111, 111, 107]⟩, none), (⟨#[111, 118, 101, 114, 108, 97, 112, 115, 95, 97, 116]⟩, none), (⟨#[115, 105, 100, 101, 115, 95, 105, 110]⟩, none), (⟨#[102, 105, 114, 115, 116, 95, 112, 97, 114, 116, 105, 110, 103]⟩, none), (⟨#[115, 117, 114, 101, 95, 115, 104, 97, 112, 101]⟩, none), (⟨#[115, 117, 114, 101, 95, 98, 111, 111, 107]⟩, none), (⟨#[105, 115, 95, 109, 101, 109, 98, 101, 114]⟩, none), (⟨#[105, 115, 95, 119, 111, 114, 100]⟩, none), (⟨#[99, 111, 108, 108, 101, 99, 116, 101, 100]⟩, none), (⟨#[109, 117, 108, 116, 105, 112, 108, 105, 101, 100]⟩, none), (⟨#[112, 111, 119, 101, 114, 101, 100]⟩, none), (⟨#[116, 117, 114, 110, 101, 100, 95, 98, 97, 99, 107]⟩, none), (⟨#[99, 97, 114, 114, 105, 101, 100, 95, 98, 121]⟩, none), (⟨#[101, 120, 99, 104, 97, 110, 103, 101, 100]⟩, none), (⟨#[100, 111, 95, 99, 111, 109, 109, 117, 116, 101]⟩, none), (⟨#[119, 101, 105, 103, 104, 116, 115, 95, 105, 110]⟩, none), (⟨#[116, 111, 112, 115, 95, 111, 102]⟩, none), (⟨#[98, 101, 108, 111, 119]⟩, none), (⟨#[100, 105, 102, 102, 101, 114, 101, 110, 99, 101, 115]⟩, none), (⟨#[102, 105, 116, 116, 101, 100]⟩, none), (⟨#[112, 114, 111, 100, 117, 99, 116, 95, 112, 111, 108, 121, 115]⟩, none), (⟨#[112, 111, 119, 101, 114, 95, 112, 111, 108, 121, 115]⟩, none), (⟨#[115, 117, 114, 101, 95, 101, 110, 100, 108, 101, 115, 115]⟩, none), (⟨#[108, 101, 116, 116, 101, 114, 95, 119, 101, 105, 103, 104, 116, 115]⟩, none), (⟨#[112, 114, 111, 100, 117, 99, 116, 95, 114, 111, 119]⟩, none), (⟨#[112, 111, 119, 101, 114, 95, 114, 111, 119]⟩, none), (⟨#[115, 105, 122, 101, 95, 111, 102]⟩, none), (⟨#[98, 111, 111, 107, 95, 115, 105, 122, 101]⟩, none), (⟨#[111, 114, 100, 101, 114, 95, 105, 110]⟩, none), (⟨#[115, 116, 101, 112, 115, 95, 97, 116]⟩, none), (⟨#[114, 111, 111, 116, 115, 95, 105, 110]⟩, none), (⟨#[102, 105, 114, 115, 116, 95, 103, 97, 112]⟩, none), (⟨#[109, 101, 109, 98, 101, 114, 95, 111, 114, 100, 101, 114]⟩, none), (⟨#[114, 111, 111, 116, 115]⟩, none), (⟨#[114, 111, 111, 116]⟩, none), (⟨#[105, 115, 95, 114, 111, 111, 116]⟩, none), (⟨#[119, 104, 121, 95, 110, 111, 95, 114, 111, 111, 116]⟩, none), (⟨#[95, 108, 97, 119, 95, 98, 111, 120]⟩, none), (⟨#[95, 108, 97, 119, 95, 116, 97, 107, 101]⟩, none), (⟨#[95, 108, 97, 119, 95, 99, 101, 108, 108, 115]⟩, none), (⟨#[95, 108, 97, 119, 95, 112, 105, 99, 107]⟩, none), (⟨#[95, 108, 97, 119, 95, 115, 97, 109, 101]⟩, none), (⟨#[95, 108, 97, 119, 95, 117, 110, 109, 97, 114, 107, 101, 100]⟩, none), (⟨#[95, 108, 97, 119, 95, 102, 108, 97, 116]⟩, none), (⟨#[95, 108, 97, 119, 95, 112, 97, 105, 114, 115]⟩, none), (⟨#[95, 108, 97, 119, 95, 112, 108, 97, 99, 101, 115]⟩, none), (⟨#[95, 108, 97, 119, 95, 103, 114, 105, 100, 95, 98, 111, 111, 107]⟩, none), (⟨#[95, 108, 97, 119, 95, 99, 97, 108, 108]⟩, none), (⟨#[95, 108, 97, 119, 95, 110, 111, 110, 101, 95, 102, 105, 116, 115]⟩, none), (⟨#[95, 108, 97, 119, 95, 104, 101, 97, 114, 100]⟩, none), (⟨#[95, 108, 97, 119, 95, 114, 101, 102, 117, 115, 97, 108, 115]⟩, none), (⟨#[108, 97, 119]⟩, none), (⟨#[72, 97, 108, 108]⟩, some ⟨#[95, 95, 105, 110, 105, 116, 95, 95]⟩), (⟨#[72, 97, 108, 108]⟩, some ⟨#[108, 101, 116, 116, 101, 114]⟩), (⟨#[72, 97, 108, 108]⟩, some ⟨#[106, 111, 105, 110, 101, 100]⟩), (⟨#[72, 97, 108, 108]⟩, some ⟨#[105, 115, 95, 102, 108, 97, 116]⟩), (⟨#[72, 97, 108, 108]⟩, some ⟨#[105, 109, 97, 103, 101, 115]⟩), (⟨#[72, 97, 108, 108]⟩, some ⟨#[105, 109, 97, 103, 101, 115, 95, 97, 110, 101, 119]⟩), (⟨#[72, 97, 108, 108]⟩, some ⟨#[98, 97, 99, 107, 95, 105, 109, 97, 103, 101, 115]⟩), (⟨#[72, 97, 108, 108]⟩, some ⟨#[108, 101, 100]⟩), (⟨#[72, 97, 108, 108]⟩, some ⟨#[116, 105, 109, 101, 115, 95, 102, 114, 111, 109]⟩), (⟨#[72, 97, 108, 108]⟩, some ⟨#[105, 115, 95, 112, 108, 97, 105, 110]⟩), (⟨#[72, 97, 108, 108]⟩, some ⟨#[112, 111, 119, 101, 114, 95, 102, 114, 111, 109]⟩), (⟨#[72, 97, 108, 108]⟩, some ⟨#[98, 97, 99, 107, 95, 102, 114, 111, 109]⟩), (⟨#[72, 97, 108, 108]⟩, some ⟨#[116, 105, 109, 101, 115]⟩), (⟨#[72, 97, 108, 108]⟩, some ⟨#[112, 111, 119, 101, 114]⟩), (⟨#[72, 97, 108, 108]⟩, some ⟨#[98, 97, 99, 107]⟩), (⟨#[72, 97, 108, 108]⟩, some ⟨#[99, 97, 114, 114, 105, 101, 100]⟩), (⟨#[72, 97, 108, 108]⟩, some ⟨#[101, 120, 99, 104, 97, 110, 103, 101]⟩), (⟨#[72, 97, 108, 108]⟩, some ⟨#[119, 111, 114, 100]⟩)]
def cas : List Str := [⟨#[67, 97, 110, 78, 111, 116]⟩, ⟨#[84, 111, 111, 77, 97, 110, 121]⟩, ⟨#[85, 110, 102, 105, 116]⟩, ⟨#[72, 97, 108, 108]⟩]
def pss : List (List Str) := [[⟨#[116, 104, 105, 110, 103]⟩], [⟨#[116, 104, 105, 110, 103]⟩, ⟨#[108, 101, 97, 115, 116]⟩, ⟨#[109, 111, 115, 116]⟩], [⟨#[116, 104, 105, 110, 103]⟩, ⟨#[108, 101, 97, 115, 116]⟩, ⟨#[109, 111, 115, 116]⟩], [⟨#[116, 104, 105, 110, 103]⟩, ⟨#[108, 101, 110, 103, 116, 104]⟩], [⟨#[116, 104, 105, 110, 103]⟩], [⟨#[118, 97, 108, 117, 101]⟩], [⟨#[111, 110, 101]⟩, ⟨#[111, 116, 104, 101, 114]⟩], [⟨#[109, 97, 110, 121]⟩, ⟨#[115, 111, 109, 101]⟩], [⟨#[98, 111, 111, 107]⟩, ⟨#[108, 111, 119]⟩, ⟨#[104, 105, 103, 104]⟩], [⟨#[109, 101, 109, 98, 101, 114]⟩], [⟨#[98, 111, 111, 107]⟩, ⟨#[116, 104, 105, 110, 103]⟩], [⟨#[98, 111, 111, 107]⟩, ⟨#[118, 97, 108, 117, 101]⟩], [⟨#[98, 111, 111, 107]⟩, ⟨#[118, 97, 108, 117, 101]⟩], [⟨#[111, 114, 100, 101, 114, 115]⟩, ⟨#[108, 105, 110, 101]⟩, ⟨#[102, 105, 114, 115, 116]⟩], [⟨#[109, 97, 110, 121]⟩], [⟨#[116, 104, 105, 110, 103]⟩], [⟨#[98, 111, 111, 107]⟩], [⟨#[98, 111, 111, 107]⟩, ⟨#[108, 111, 119]⟩], [⟨#[104, 97, 108, 108]⟩, ⟨#[111, 118, 101, 114, 108, 97, 112]⟩], [⟨#[98, 111, 111, 107]⟩], [⟨#[118, 97, 108, 117, 101]⟩], [⟨#[118, 97, 108, 117, 101]⟩], [⟨#[98, 111, 111, 107]⟩, ⟨#[116, 104, 105, 110, 103]⟩], [⟨#[98, 111, 111, 107]⟩, ⟨#[116, 104, 105, 110, 103]⟩], [⟨#[98, 111, 111, 107]⟩, ⟨#[119, 111, 114, 100]⟩], [⟨#[98, 111, 111, 107]⟩, ⟨#[111, 110, 101]⟩, ⟨#[111, 116, 104, 101, 114]⟩], [⟨#[98, 111, 111, 107]⟩, ⟨#[109, 101, 109, 98, 101, 114]⟩, ⟨#[111, 102, 116, 101, 110]⟩], [⟨#[98, 111, 111, 107]⟩, ⟨#[109, 101, 109, 98, 101, 114]⟩], [⟨#[98, 111, 111, 107]⟩, ⟨#[111, 110, 101]⟩, ⟨#[111, 116, 104, 101, 114]⟩], [⟨#[98, 111, 111, 107]⟩, ⟨#[111, 110, 101]⟩, ⟨#[111, 116, 104, 101, 114]⟩], [⟨#[98, 111, 111, 107]⟩, ⟨#[111, 110, 101]⟩, ⟨#[111, 116, 104, 101, 114]⟩], [⟨#[98, 111, 111, 107]⟩], [⟨#[119, 101, 105, 103, 104, 116, 115]⟩, ⟨#[109, 111, 115, 116]⟩], [⟨#[116, 111, 112, 115]⟩], [⟨#[118, 97, 108, 117, 101, 115]⟩, ⟨#[116, 111, 112, 115]⟩], [⟨#[118, 97, 108, 117, 101, 115]⟩, ⟨#[114, 111, 119, 115]⟩], [⟨#[104, 97, 108, 108]⟩], [⟨#[104, 97, 108, 108]⟩], [⟨#[118, 97, 108, 117, 101]⟩], [⟨#[98, 111, 111, 107]⟩], [⟨#[98, 111, 111, 107]⟩], [⟨#[98, 111, 111, 107]⟩], [⟨#[111, 114, 100, 101, 114, 115]⟩], [⟨#[98, 111, 111, 107]⟩], [⟨#[104, 97, 108, 108]⟩, ⟨#[109, 101, 109, 98, 101, 114]⟩], [⟨#[103, 97, 112]⟩, ⟨#[116, 105, 109, 101, 115]⟩, ⟨#[111, 114, 100, 101, 114]⟩], [⟨#[104, 97, 108, 108]⟩, ⟨#[109, 101, 109, 98, 101, 114]⟩, ⟨#[116, 105, 109, 101, 115]⟩], [⟨#[104, 97, 108, 108]⟩, ⟨#[109, 101, 109, 98, 101, 114]⟩, ⟨#[116, 105, 109, 101, 115]⟩], [⟨#[98, 111, 111, 107]⟩, ⟨#[109, 101, 109, 98, 101, 114]⟩], [⟨#[98, 111, 111, 107]⟩, ⟨#[109, 101, 109, 98, 101, 114]⟩, ⟨#[111, 102, 116, 101, 110]⟩], [⟨#[98, 111, 111, 107]⟩, ⟨#[109, 101, 109, 98, 101, 114]⟩, ⟨#[111, 102, 116, 101, 110]⟩], [⟨#[98, 111, 111, 107]⟩, ⟨#[109, 101, 109, 98, 101, 114]⟩, ⟨#[111, 102, 116, 101, 110]⟩, ⟨#[116, 104, 105, 110, 103]⟩], [⟨#[98, 111, 111, 107]⟩, ⟨#[109, 101, 109, 98, 101, 114]⟩, ⟨#[111, 102, 116, 101, 110]⟩], [⟨#[115, 99, 114, 105, 112, 116]⟩, ⟨#[107]⟩], [⟨#[116, 105, 110]⟩, ⟨#[98, 101, 108, 111, 119, 95, 115, 111]⟩], [⟨#[115, 99, 114, 105, 112, 116]⟩, ⟨#[109, 111, 115, 116, 95, 115, 111]⟩], [⟨#[116, 105, 110]⟩, ⟨#[103, 111, 111, 100, 115, 95, 115, 111]⟩, ⟨#[99, 111, 117, 110, 116, 95, 115, 111]⟩], [⟨#[103, 111, 116]⟩, ⟨#[100, 117, 101]⟩], [⟨#[116, 111, 108, 100, 95, 115, 111]⟩], [⟨#[114, 111, 119, 115, 95, 115, 111]⟩], [⟨#[109, 97, 110, 121, 95, 115, 111]⟩], [⟨#[114, 111, 119, 115, 95, 115, 111]⟩], [⟨#[114, 111, 119, 115, 95, 115, 111]⟩, ⟨#[98, 121, 95, 115, 111]⟩], [⟨#[100, 111, 111, 114]⟩, ⟨#[103, 111, 111, 100, 115, 95, 115, 111]⟩], [⟨#[104, 101, 97, 114, 100, 95, 115, 111]⟩, ⟨#[114, 111, 119, 115, 95, 115, 111]⟩], [⟨#[100, 111, 111, 114]⟩, ⟨#[103, 111, 111, 100, 115, 95, 115, 111]⟩], [], [⟨#[115, 99, 114, 105, 112, 116]⟩], [⟨#[115, 101, 108, 102]⟩, ⟨#[98, 111, 111, 107]⟩], [⟨#[115, 101, 108, 102]⟩, ⟨#[112, 108, 97, 99, 101]⟩, ⟨#[111, 102, 116, 101, 110]⟩], [⟨#[115, 101, 108, 102]⟩, ⟨#[112, 108, 97, 99, 101]⟩, ⟨#[104, 101, 97, 100]⟩, ⟨#[114, 101, 115, 116]⟩], [⟨#[115, 101, 108, 102]⟩, ⟨#[112, 108, 97, 99, 101]⟩], [⟨#[115, 101, 108, 102]⟩, ⟨#[112, 108, 97, 99, 101]⟩, ⟨#[111, 102, 116, 101, 110]⟩], [⟨#[115, 101, 108, 102]⟩, ⟨#[112, 108, 97, 99, 101]⟩, ⟨#[111, 102, 116, 101, 110]⟩], [⟨#[115, 101, 108, 102]⟩, ⟨#[112, 108, 97, 99, 101]⟩], [⟨#[115, 101, 108, 102]⟩, ⟨#[112, 108, 97, 99, 101]⟩, ⟨#[109, 101, 109, 98, 101, 114]⟩, ⟨#[105, 109, 97, 103, 101, 115]⟩], [⟨#[115, 101, 108, 102]⟩, ⟨#[112, 108, 97, 99, 101]⟩, ⟨#[111, 110, 101]⟩, ⟨#[111, 116, 104, 101, 114]⟩], [⟨#[115, 101, 108, 102]⟩, ⟨#[112, 108, 97, 99, 101]⟩, ⟨#[111, 110, 101]⟩, ⟨#[111, 116, 104, 101, 114]⟩], [⟨#[115, 101, 108, 102]⟩, ⟨#[112, 108, 97, 99, 101]⟩, ⟨#[109, 101, 109, 98, 101, 114]⟩, ⟨#[111, 102, 116, 101, 110]⟩], [⟨#[115, 101, 108, 102]⟩, ⟨#[112, 108, 97, 99, 101]⟩, ⟨#[109, 101, 109, 98, 101, 114]⟩], [⟨#[115, 101, 108, 102]⟩, ⟨#[111, 110, 101]⟩, ⟨#[111, 116, 104, 101, 114]⟩], [⟨#[115, 101, 108, 102]⟩, ⟨#[109, 101, 109, 98, 101, 114]⟩, ⟨#[111, 102, 116, 101, 110]⟩], [⟨#[115, 101, 108, 102]⟩, ⟨#[109, 101, 109, 98, 101, 114]⟩], [⟨#[115, 101, 108, 102]⟩, ⟨#[109, 101, 109, 98, 101, 114]⟩, ⟨#[98, 121]⟩], [⟨#[115, 101, 108, 102]⟩, ⟨#[111, 110, 101]⟩, ⟨#[111, 116, 104, 101, 114]⟩], [⟨#[115, 101, 108, 102]⟩, ⟨#[112, 97, 105, 114, 115]⟩]]
def top (i : Nat) : Stmt := PySem.Challenge.pw_collectedwords_k26_whole_refused_members.main.body.getD i (.Pass ⟨0, 0, 0, 0⟩)
def e_b_is_number : He.DefD := ⟨(⟨#[105, 115, 95, 110, 117, 109, 98, 101, 114]⟩, none), ⟨#[105, 115, 95, 110, 117, 109, 98, 101, 114]⟩, ⟨#[105, 115, 95, 110, 117, 109, 98, 101, 114]⟩, defArgs (top 8), defBody (top 8), defScope (top 8), [], []⟩
def e_b_is_within : He.DefD := ⟨(⟨#[105, 115, 95, 119, 105, 116, 104, 105, 110]⟩, none), ⟨#[105, 115, 95, 119, 105, 116, 104, 105, 110]⟩, ⟨#[105, 115, 95, 119, 105, 116, 104, 105, 110]⟩, defArgs (top 9), defBody (top 9), defScope (top 9), [], []⟩
def e_b_sure_within : He.DefD := ⟨(⟨#[115, 117, 114, 101, 95, 119, 105, 116, 104, 105, 110]⟩, none), ⟨#[115, 117, 114, 101, 95, 119, 105, 116, 104, 105, 110]⟩, ⟨#[115, 117, 114, 101, 95, 119, 105, 116, 104, 105, 110]⟩, defArgs (top 10), defBody (top 10), defScope (top 10), [], []⟩
def e_b_is_long : He.DefD := ⟨(⟨#[105, 115, 95, 108, 111, 110, 103]⟩, none), ⟨#[105, 115, 95, 108, 111, 110, 103]⟩, ⟨#[105, 115, 95, 108, 111, 110, 103]⟩, defArgs (top 11), defBody (top 11), defScope (top 11), [], []⟩
def e_b_are_numbers : He.DefD := ⟨(⟨#[97, 114, 101, 95, 110, 117, 109, 98, 101, 114, 115]⟩, none), ⟨#[97, 114, 101, 95, 110, 117, 109, 98, 101, 114, 115]⟩, ⟨#[97, 114, 101, 95, 110, 117, 109, 98, 101, 114, 115]⟩, defArgs (top 12), defBody (top 12), defScope (top 12), [], []⟩
def e_b_tupled : He.DefD := ⟨(⟨#[116, 117, 112, 108, 101, 100]⟩, none), ⟨#[116, 117, 112, 108, 101, 100]⟩, ⟨#[116, 117, 112, 108, 101, 100]⟩, defArgs (top 13), defBody (top 13), defScope (top 13), [], []⟩
def e_b_common : He.DefD := ⟨(⟨#[99, 111, 109, 109, 111, 110]⟩, none), ⟨#[99, 111, 109, 109, 111, 110]⟩, ⟨#[99, 111, 109, 109, 111, 110]⟩, defArgs (top 14), defBody (top 14), defScope (top 14), [], []⟩
def e_b_chosen : He.DefD := ⟨(⟨#[99, 104, 111, 115, 101, 110]⟩, none), ⟨#[99, 104, 111, 115, 101, 110]⟩, ⟨#[99, 104, 111, 115, 101, 110]⟩, defArgs (top 15), defBody (top 15), defScope (top 15), [], []⟩
def e_b_tie_of : He.DefD := ⟨(⟨#[116, 105, 101, 95, 111, 102]⟩, none), ⟨#[116, 105, 101, 95, 111, 102]⟩, ⟨#[116, 105, 101, 95, 111, 102]⟩, defArgs (top 17), defBody (top 17), defScope (top 17), [], []⟩
def e_b_lead_of : He.DefD := ⟨(⟨#[108, 101, 97, 100, 95, 111, 102]⟩, none), ⟨#[108, 101, 97, 100, 95, 111, 102]⟩, ⟨#[108, 101, 97, 100, 95, 111, 102]⟩, defArgs (top 19), defBody (top 19), defScope (top 19), [], []⟩
def e_b_is_member_in : He.DefD := ⟨(⟨#[105, 115, 95, 109, 101, 109, 98, 101, 114, 95, 105, 110]⟩, none), ⟨#[105, 115, 95, 109, 101, 109, 98, 101, 114, 95, 105, 110]⟩, ⟨#[105, 115, 95, 109, 101, 109, 98, 101, 114, 95, 105, 110]⟩, defArgs (top 20), defBody (top 20), defScope (top 20), [], []⟩
def e_b_sure_member : He.DefD := ⟨(⟨#[115, 117, 114, 101, 95, 109, 101, 109, 98, 101, 114]⟩, none), ⟨#[115, 117, 114, 101, 95, 109, 101, 109, 98, 101, 114]⟩, ⟨#[115, 117, 114, 101, 95, 109, 101, 109, 98, 101, 114]⟩, defArgs (top 21), defBody (top 21), defScope (top 21), [], []⟩
def e_b_sure_word : He.DefD := ⟨(⟨#[115, 117, 114, 101, 95, 119, 111, 114, 100]⟩, none), ⟨#[115, 117, 114, 101, 95, 119, 111, 114, 100]⟩, ⟨#[115, 117, 114, 101, 95, 119, 111, 114, 100]⟩, defArgs (top 22), defBody (top 22), defScope (top 22), [], []⟩
def e_b_is_line : He.DefD := ⟨(⟨#[105, 115, 95, 108, 105, 110, 101]⟩, none), ⟨#[105, 115, 95, 108, 105, 110, 101]⟩, ⟨#[105, 115, 95, 108, 105, 110, 101]⟩, defArgs (top 24), defBody (top 24), defScope (top 24), [], []⟩
def e_b_pairs_of : He.DefD := ⟨(⟨#[112, 97, 105, 114, 115, 95, 111, 102]⟩, none), ⟨#[112, 97, 105, 114, 115, 95, 111, 102]⟩, ⟨#[112, 97, 105, 114, 115, 95, 111, 102]⟩, defArgs (top 25), defBody (top 25), defScope (top 25), [], []⟩
def e_b_is_book_of : He.DefD := ⟨(⟨#[105, 115, 95, 98, 111, 111, 107, 95, 111, 102]⟩, none), ⟨#[105, 115, 95, 98, 111, 111, 107, 95, 111, 102]⟩, ⟨#[105, 115, 95, 98, 111, 111, 107, 95, 111, 102]⟩, defArgs (top 26), defBody (top 26), defScope (top 26), [], []⟩
def e_b_is_small_book : He.DefD := ⟨(⟨#[105, 115, 95, 115, 109, 97, 108, 108, 95, 98, 111, 111, 107]⟩, none), ⟨#[105, 115, 95, 115, 109, 97, 108, 108, 95, 98, 111, 111, 107]⟩, ⟨#[105, 115, 95, 115, 109, 97, 108, 108, 95, 98, 111, 111, 107]⟩, defArgs (top 27), defBody (top 27), defScope (top 27), [], []⟩
def e_b_overlaps_at : He.DefD := ⟨(⟨#[111, 118, 101, 114, 108, 97, 112, 115, 95, 97, 116]⟩, none), ⟨#[111, 118, 101, 114, 108, 97, 112, 115, 95, 97, 116]⟩, ⟨#[111, 118, 101, 114, 108, 97, 112, 115, 95, 97, 116]⟩, defArgs (top 28), defBody (top 28), defScope (top 28), [], []⟩
def e_b_sides_in : He.DefD := ⟨(⟨#[115, 105, 100, 101, 115, 95, 105, 110]⟩, none), ⟨#[115, 105, 100, 101, 115, 95, 105, 110]⟩, ⟨#[115, 105, 100, 101, 115, 95, 105, 110]⟩, defArgs (top 29), defBody (top 29), defScope (top 29), [], []⟩
def e_b_first_parting : He.DefD := ⟨(⟨#[102, 105, 114, 115, 116, 95, 112, 97, 114, 116, 105, 110, 103]⟩, none), ⟨#[102, 105, 114, 115, 116, 95, 112, 97, 114, 116, 105, 110, 103]⟩, ⟨#[102, 105, 114, 115, 116, 95, 112, 97, 114, 116, 105, 110, 103]⟩, defArgs (top 30), defBody (top 30), defScope (top 30), [], []⟩
def e_b_sure_shape : He.DefD := ⟨(⟨#[115, 117, 114, 101, 95, 115, 104, 97, 112, 101]⟩, none), ⟨#[115, 117, 114, 101, 95, 115, 104, 97, 112, 101]⟩, ⟨#[115, 117, 114, 101, 95, 115, 104, 97, 112, 101]⟩, defArgs (top 31), defBody (top 31), defScope (top 31), [], []⟩
def e_b_sure_book : He.DefD := ⟨(⟨#[115, 117, 114, 101, 95, 98, 111, 111, 107]⟩, none), ⟨#[115, 117, 114, 101, 95, 98, 111, 111, 107]⟩, ⟨#[115, 117, 114, 101, 95, 98, 111, 111, 107]⟩, defArgs (top 32), defBody (top 32), defScope (top 32), [], []⟩
def e_b_is_member : He.DefD := ⟨(⟨#[105, 115, 95, 109, 101, 109, 98, 101, 114]⟩, none), ⟨#[105, 115, 95, 109, 101, 109, 98, 101, 114]⟩, ⟨#[105, 115, 95, 109, 101, 109, 98, 101, 114]⟩, defArgs (top 34), defBody (top 34), defScope (top 34), [], []⟩
def e_b_is_word : He.DefD := ⟨(⟨#[105, 115, 95, 119, 111, 114, 100]⟩, none), ⟨#[105, 115, 95, 119, 111, 114, 100]⟩, ⟨#[105, 115, 95, 119, 111, 114, 100]⟩, defArgs (top 35), defBody (top 35), defScope (top 35), [], []⟩
def e_b_collected : He.DefD := ⟨(⟨#[99, 111, 108, 108, 101, 99, 116, 101, 100]⟩, none), ⟨#[99, 111, 108, 108, 101, 99, 116, 101, 100]⟩, ⟨#[99, 111, 108, 108, 101, 99, 116, 101, 100]⟩, defArgs (top 36), defBody (top 36), defScope (top 36), [], []⟩
def e_b_multiplied : He.DefD := ⟨(⟨#[109, 117, 108, 116, 105, 112, 108, 105, 101, 100]⟩, none), ⟨#[109, 117, 108, 116, 105, 112, 108, 105, 101, 100]⟩, ⟨#[109, 117, 108, 116, 105, 112, 108, 105, 101, 100]⟩, defArgs (top 37), defBody (top 37), defScope (top 37), [], []⟩
def e_b_powered : He.DefD := ⟨(⟨#[112, 111, 119, 101, 114, 101, 100]⟩, none), ⟨#[112, 111, 119, 101, 114, 101, 100]⟩, ⟨#[112, 111, 119, 101, 114, 101, 100]⟩, defArgs (top 38), defBody (top 38), defScope (top 38), [], []⟩
def e_b_turned_back : He.DefD := ⟨(⟨#[116, 117, 114, 110, 101, 100, 95, 98, 97, 99, 107]⟩, none), ⟨#[116, 117, 114, 110, 101, 100, 95, 98, 97, 99, 107]⟩, ⟨#[116, 117, 114, 110, 101, 100, 95, 98, 97, 99, 107]⟩, defArgs (top 39), defBody (top 39), defScope (top 39), [], []⟩
def e_b_carried_by : He.DefD := ⟨(⟨#[99, 97, 114, 114, 105, 101, 100, 95, 98, 121]⟩, none), ⟨#[99, 97, 114, 114, 105, 101, 100, 95, 98, 121]⟩, ⟨#[99, 97, 114, 114, 105, 101, 100, 95, 98, 121]⟩, defArgs (top 40), defBody (top 40), defScope (top 40), [], []⟩
def e_b_exchanged : He.DefD := ⟨(⟨#[101, 120, 99, 104, 97, 110, 103, 101, 100]⟩, none), ⟨#[101, 120, 99, 104, 97, 110, 103, 101, 100]⟩, ⟨#[101, 120, 99, 104, 97, 110, 103, 101, 100]⟩, defArgs (top 41), defBody (top 41), defScope (top 41), [], []⟩
def e_b_do_commute : He.DefD := ⟨(⟨#[100, 111, 95, 99, 111, 109, 109, 117, 116, 101]⟩, none), ⟨#[100, 111, 95, 99, 111, 109, 109, 117, 116, 101]⟩, ⟨#[100, 111, 95, 99, 111, 109, 109, 117, 116, 101]⟩, defArgs (top 42), defBody (top 42), defScope (top 42), [], []⟩
def e_b_weights_in : He.DefD := ⟨(⟨#[119, 101, 105, 103, 104, 116, 115, 95, 105, 110]⟩, none), ⟨#[119, 101, 105, 103, 104, 116, 115, 95, 105, 110]⟩, ⟨#[119, 101, 105, 103, 104, 116, 115, 95, 105, 110]⟩, defArgs (top 44), defBody (top 44), defScope (top 44), [], []⟩
def e_b_tops_of : He.DefD := ⟨(⟨#[116, 111, 112, 115, 95, 111, 102]⟩, none), ⟨#[116, 111, 112, 115, 95, 111, 102]⟩, ⟨#[116, 111, 112, 115, 95, 111, 102]⟩, defArgs (top 45), defBody (top 45), defScope (top 45), [], []⟩
def e_b_below : He.DefD := ⟨(⟨#[98, 101, 108, 111, 119]⟩, none), ⟨#[98, 101, 108, 111, 119]⟩, ⟨#[98, 101, 108, 111, 119]⟩, defArgs (top 46), defBody (top 46), defScope (top 46), [], []⟩
def e_b_differences : He.DefD := ⟨(⟨#[100, 105, 102, 102, 101, 114, 101, 110, 99, 101, 115]⟩, none), ⟨#[100, 105, 102, 102, 101, 114, 101, 110, 99, 101, 115]⟩, ⟨#[100, 105, 102, 102, 101, 114, 101, 110, 99, 101, 115]⟩, defArgs (top 47), defBody (top 47), defScope (top 47), [], []⟩
def e_b_fitted : He.DefD := ⟨(⟨#[102, 105, 116, 116, 101, 100]⟩, none), ⟨#[102, 105, 116, 116, 101, 100]⟩, ⟨#[102, 105, 116, 116, 101, 100]⟩, defArgs (top 48), defBody (top 48), defScope (top 48), [], []⟩
def e_b_product_polys : He.DefD := ⟨(⟨#[112, 114, 111, 100, 117, 99, 116, 95, 112, 111, 108, 121, 115]⟩, none), ⟨#[112, 114, 111, 100, 117, 99, 116, 95, 112, 111, 108, 121, 115]⟩, ⟨#[112, 114, 111, 100, 117, 99, 116, 95, 112, 111, 108, 121, 115]⟩, defArgs (top 49), defBody (top 49), defScope (top 49), [], []⟩
def e_b_power_polys : He.DefD := ⟨(⟨#[112, 111, 119, 101, 114, 95, 112, 111, 108, 121, 115]⟩, none), ⟨#[112, 111, 119, 101, 114, 95, 112, 111, 108, 121, 115]⟩, ⟨#[112, 111, 119, 101, 114, 95, 112, 111, 108, 121, 115]⟩, defArgs (top 50), defBody (top 50), defScope (top 50), [], []⟩
def e_b_sure_endless : He.DefD := ⟨(⟨#[115, 117, 114, 101, 95, 101, 110, 100, 108, 101, 115, 115]⟩, none), ⟨#[115, 117, 114, 101, 95, 101, 110, 100, 108, 101, 115, 115]⟩, ⟨#[115, 117, 114, 101, 95, 101, 110, 100, 108, 101, 115, 115]⟩, defArgs (top 51), defBody (top 51), defScope (top 51), [], []⟩
def e_b_letter_weights : He.DefD := ⟨(⟨#[108, 101, 116, 116, 101, 114, 95, 119, 101, 105, 103, 104, 116, 115]⟩, none), ⟨#[108, 101, 116, 116, 101, 114, 95, 119, 101, 105, 103, 104, 116, 115]⟩, ⟨#[108, 101, 116, 116, 101, 114, 95, 119, 101, 105, 103, 104, 116, 115]⟩, defArgs (top 52), defBody (top 52), defScope (top 52), [], []⟩
def e_b_product_row : He.DefD := ⟨(⟨#[112, 114, 111, 100, 117, 99, 116, 95, 114, 111, 119]⟩, none), ⟨#[112, 114, 111, 100, 117, 99, 116, 95, 114, 111, 119]⟩, ⟨#[112, 114, 111, 100, 117, 99, 116, 95, 114, 111, 119]⟩, defArgs (top 53), defBody (top 53), defScope (top 53), [], []⟩
def e_b_power_row : He.DefD := ⟨(⟨#[112, 111, 119, 101, 114, 95, 114, 111, 119]⟩, none), ⟨#[112, 111, 119, 101, 114, 95, 114, 111, 119]⟩, ⟨#[112, 111, 119, 101, 114, 95, 114, 111, 119]⟩, defArgs (top 54), defBody (top 54), defScope (top 54), [], []⟩
def e_b_size_of : He.DefD := ⟨(⟨#[115, 105, 122, 101, 95, 111, 102]⟩, none), ⟨#[115, 105, 122, 101, 95, 111, 102]⟩, ⟨#[115, 105, 122, 101, 95, 111, 102]⟩, defArgs (top 56), defBody (top 56), defScope (top 56), [], []⟩
def e_b_book_size : He.DefD := ⟨(⟨#[98, 111, 111, 107, 95, 115, 105, 122, 101]⟩, none), ⟨#[98, 111, 111, 107, 95, 115, 105, 122, 101]⟩, ⟨#[98, 111, 111, 107, 95, 115, 105, 122, 101]⟩, defArgs (top 57), defBody (top 57), defScope (top 57), [], []⟩
def e_b_order_in : He.DefD := ⟨(⟨#[111, 114, 100, 101, 114, 95, 105, 110]⟩, none), ⟨#[111, 114, 100, 101, 114, 95, 105, 110]⟩, ⟨#[111, 114, 100, 101, 114, 95, 105, 110]⟩, defArgs (top 61), defBody (top 61), defScope (top 61), [], []⟩
def e_b_steps_at : He.DefD := ⟨(⟨#[115, 116, 101, 112, 115, 95, 97, 116]⟩, none), ⟨#[115, 116, 101, 112, 115, 95, 97, 116]⟩, ⟨#[115, 116, 101, 112, 115, 95, 97, 116]⟩, defArgs (top 62), defBody (top 62), defScope (top 62), [], []⟩
def e_b_roots_in : He.DefD := ⟨(⟨#[114, 111, 111, 116, 115, 95, 105, 110]⟩, none), ⟨#[114, 111, 111, 116, 115, 95, 105, 110]⟩, ⟨#[114, 111, 111, 116, 115, 95, 105, 110]⟩, defArgs (top 63), defBody (top 63), defScope (top 63), [], []⟩
def e_b_first_gap : He.DefD := ⟨(⟨#[102, 105, 114, 115, 116, 95, 103, 97, 112]⟩, none), ⟨#[102, 105, 114, 115, 116, 95, 103, 97, 112]⟩, ⟨#[102, 105, 114, 115, 116, 95, 103, 97, 112]⟩, defArgs (top 64), defBody (top 64), defScope (top 64), [], []⟩
def e_b_member_order : He.DefD := ⟨(⟨#[109, 101, 109, 98, 101, 114, 95, 111, 114, 100, 101, 114]⟩, none), ⟨#[109, 101, 109, 98, 101, 114, 95, 111, 114, 100, 101, 114]⟩, ⟨#[109, 101, 109, 98, 101, 114, 95, 111, 114, 100, 101, 114]⟩, defArgs (top 65), defBody (top 65), defScope (top 65), [], []⟩
def e_b_roots : He.DefD := ⟨(⟨#[114, 111, 111, 116, 115]⟩, none), ⟨#[114, 111, 111, 116, 115]⟩, ⟨#[114, 111, 111, 116, 115]⟩, defArgs (top 66), defBody (top 66), defScope (top 66), [], []⟩
def e_b_root : He.DefD := ⟨(⟨#[114, 111, 111, 116]⟩, none), ⟨#[114, 111, 111, 116]⟩, ⟨#[114, 111, 111, 116]⟩, defArgs (top 67), defBody (top 67), defScope (top 67), [], []⟩
def e_b_is_root : He.DefD := ⟨(⟨#[105, 115, 95, 114, 111, 111, 116]⟩, none), ⟨#[105, 115, 95, 114, 111, 111, 116]⟩, ⟨#[105, 115, 95, 114, 111, 111, 116]⟩, defArgs (top 68), defBody (top 68), defScope (top 68), [], []⟩
def e_b_why_no_root : He.DefD := ⟨(⟨#[119, 104, 121, 95, 110, 111, 95, 114, 111, 111, 116]⟩, none), ⟨#[119, 104, 121, 95, 110, 111, 95, 114, 111, 111, 116]⟩, ⟨#[119, 104, 121, 95, 110, 111, 95, 114, 111, 111, 116]⟩, defArgs (top 69), defBody (top 69), defScope (top 69), [], []⟩
def e_b_law_box : He.DefD := ⟨(⟨#[95, 108, 97, 119, 95, 98, 111, 120]⟩, none), ⟨#[95, 108, 97, 119, 95, 98, 111, 120]⟩, ⟨#[95, 108, 97, 119, 95, 98, 111, 120]⟩, defArgs (top 71), defBody (top 71), defScope (top 71), [], []⟩
def e_b_law_take : He.DefD := ⟨(⟨#[95, 108, 97, 119, 95, 116, 97, 107, 101]⟩, none), ⟨#[95, 108, 97, 119, 95, 116, 97, 107, 101]⟩, ⟨#[95, 108, 97, 119, 95, 116, 97, 107, 101]⟩, defArgs (top 72), defBody (top 72), defScope (top 72), [], []⟩
def e_b_law_cells : He.DefD := ⟨(⟨#[95, 108, 97, 119, 95, 99, 101, 108, 108, 115]⟩, none), ⟨#[95, 108, 97, 119, 95, 99, 101, 108, 108, 115]⟩, ⟨#[95, 108, 97, 119, 95, 99, 101, 108, 108, 115]⟩, defArgs (top 73), defBody (top 73), defScope (top 73), [], []⟩
def e_b_law_pick : He.DefD := ⟨(⟨#[95, 108, 97, 119, 95, 112, 105, 99, 107]⟩, none), ⟨#[95, 108, 97, 119, 95, 112, 105, 99, 107]⟩, ⟨#[95, 108, 97, 119, 95, 112, 105, 99, 107]⟩, defArgs (top 74), defBody (top 74), defScope (top 74), [], []⟩
def e_b_law_same : He.DefD := ⟨(⟨#[95, 108, 97, 119, 95, 115, 97, 109, 101]⟩, none), ⟨#[95, 108, 97, 119, 95, 115, 97, 109, 101]⟩, ⟨#[95, 108, 97, 119, 95, 115, 97, 109, 101]⟩, defArgs (top 75), defBody (top 75), defScope (top 75), [], []⟩
def e_b_law_unmarked : He.DefD := ⟨(⟨#[95, 108, 97, 119, 95, 117, 110, 109, 97, 114, 107, 101, 100]⟩, none), ⟨#[95, 108, 97, 119, 95, 117, 110, 109, 97, 114, 107, 101, 100]⟩, ⟨#[95, 108, 97, 119, 95, 117, 110, 109, 97, 114, 107, 101, 100]⟩, defArgs (top 76), defBody (top 76), defScope (top 76), [], []⟩
def e_b_law_flat : He.DefD := ⟨(⟨#[95, 108, 97, 119, 95, 102, 108, 97, 116]⟩, none), ⟨#[95, 108, 97, 119, 95, 102, 108, 97, 116]⟩, ⟨#[95, 108, 97, 119, 95, 102, 108, 97, 116]⟩, defArgs (top 77), defBody (top 77), defScope (top 77), [], []⟩
def e_b_law_pairs : He.DefD := ⟨(⟨#[95, 108, 97, 119, 95, 112, 97, 105, 114, 115]⟩, none), ⟨#[95, 108, 97, 119, 95, 112, 97, 105, 114, 115]⟩, ⟨#[95, 108, 97, 119, 95, 112, 97, 105, 114, 115]⟩, defArgs (top 78), defBody (top 78), defScope (top 78), [], []⟩
def e_b_law_places : He.DefD := ⟨(⟨#[95, 108, 97, 119, 95, 112, 108, 97, 99, 101, 115]⟩, none), ⟨#[95, 108, 97, 119, 95, 112, 108, 97, 99, 101, 115]⟩, ⟨#[95, 108, 97, 119, 95, 112, 108, 97, 99, 101, 115]⟩, defArgs (top 79), defBody (top 79), defScope (top 79), [], []⟩
def e_b_law_grid_book : He.DefD := ⟨(⟨#[95, 108, 97, 119, 95, 103, 114, 105, 100, 95, 98, 111, 111, 107]⟩, none), ⟨#[95, 108, 97, 119, 95, 103, 114, 105, 100, 95, 98, 111, 111, 107]⟩, ⟨#[95, 108, 97, 119, 95, 103, 114, 105, 100, 95, 98, 111, 111, 107]⟩, defArgs (top 80), defBody (top 80), defScope (top 80), [], []⟩
def e_b_law_call : He.DefD := ⟨(⟨#[95, 108, 97, 119, 95, 99, 97, 108, 108]⟩, none), ⟨#[95, 108, 97, 119, 95, 99, 97, 108, 108]⟩, ⟨#[95, 108, 97, 119, 95, 99, 97, 108, 108]⟩, defArgs (top 81), defBody (top 81), defScope (top 81), [], []⟩
def e_b_law_none_fits : He.DefD := ⟨(⟨#[95, 108, 97, 119, 95, 110, 111, 110, 101, 95, 102, 105, 116, 115]⟩, none), ⟨#[95, 108, 97, 119, 95, 110, 111, 110, 101, 95, 102, 105, 116, 115]⟩, ⟨#[95, 108, 97, 119, 95, 110, 111, 110, 101, 95, 102, 105, 116, 115]⟩, defArgs (top 82), defBody (top 82), defScope (top 82), [], []⟩
def e_b_law_heard : He.DefD := ⟨(⟨#[95, 108, 97, 119, 95, 104, 101, 97, 114, 100]⟩, none), ⟨#[95, 108, 97, 119, 95, 104, 101, 97, 114, 100]⟩, ⟨#[95, 108, 97, 119, 95, 104, 101, 97, 114, 100]⟩, defArgs (top 83), defBody (top 83), defScope (top 83), [], []⟩
def e_b_law_refusals : He.DefD := ⟨(⟨#[95, 108, 97, 119, 95, 114, 101, 102, 117, 115, 97, 108, 115]⟩, none), ⟨#[95, 108, 97, 119, 95, 114, 101, 102, 117, 115, 97, 108, 115]⟩, ⟨#[95, 108, 97, 119, 95, 114, 101, 102, 117, 115, 97, 108, 115]⟩, defArgs (top 84), defBody (top 84), defScope (top 84), [], []⟩
def e_b_law : He.DefD := ⟨(⟨#[108, 97, 119]⟩, none), ⟨#[108, 97, 119]⟩, ⟨#[108, 97, 119]⟩, defArgs (top 85), defBody (top 85), defScope (top 85), [], []⟩
def e_b_Hall__init_ : He.DefD := ⟨(⟨#[72, 97, 108, 108]⟩, some ⟨#[95, 95, 105, 110, 105, 116, 95, 95]⟩), ⟨#[95, 95, 105, 110, 105, 116, 95, 95]⟩, ⟨#[72, 97, 108, 108, 46, 95, 95, 105, 110, 105, 116, 95, 95]⟩, defArgs (inClass (top 18) 0), defBody (inClass (top 18) 0), defScope (inClass (top 18) 0), [], []⟩
def e_b_Hall_letter : He.DefD := ⟨(⟨#[72, 97, 108, 108]⟩, some ⟨#[108, 101, 116, 116, 101, 114]⟩), ⟨#[108, 101, 116, 116, 101, 114]⟩, ⟨#[72, 97, 108, 108, 46, 108, 101, 116, 116, 101, 114]⟩, defArgs (inClass (top 18) 1), defBody (inClass (top 18) 1), defScope (inClass (top 18) 1), [.int 1], []⟩
def e_b_Hall_joined : He.DefD := ⟨(⟨#[72, 97, 108, 108]⟩, some ⟨#[106, 111, 105, 110, 101, 100]⟩), ⟨#[106, 111, 105, 110, 101, 100]⟩, ⟨#[72, 97, 108, 108, 46, 106, 111, 105, 110, 101, 100]⟩, defArgs (inClass (top 18) 2), defBody (inClass (top 18) 2), defScope (inClass (top 18) 2), [], []⟩
def e_b_Hall_is_flat : He.DefD := ⟨(⟨#[72, 97, 108, 108]⟩, some ⟨#[105, 115, 95, 102, 108, 97, 116]⟩), ⟨#[105, 115, 95, 102, 108, 97, 116]⟩, ⟨#[72, 97, 108, 108, 46, 105, 115, 95, 102, 108, 97, 116]⟩, defArgs (inClass (top 18) 3), defBody (inClass (top 18) 3), defScope (inClass (top 18) 3), [], []⟩
def e_b_Hall_images : He.DefD := ⟨(⟨#[72, 97, 108, 108]⟩, some ⟨#[105, 109, 97, 103, 101, 115]⟩), ⟨#[105, 109, 97, 103, 101, 115]⟩, ⟨#[72, 97, 108, 108, 46, 105, 109, 97, 103, 101, 115]⟩, defArgs (inClass (top 18) 4), defBody (inClass (top 18) 4), defScope (inClass (top 18) 4), [], []⟩
def e_b_Hall_images_anew : He.DefD := ⟨(⟨#[72, 97, 108, 108]⟩, some ⟨#[105, 109, 97, 103, 101, 115, 95, 97, 110, 101, 119]⟩), ⟨#[105, 109, 97, 103, 101, 115, 95, 97, 110, 101, 119]⟩, ⟨#[72, 97, 108, 108, 46, 105, 109, 97, 103, 101, 115, 95, 97, 110, 101, 119]⟩, defArgs (inClass (top 18) 5), defBody (inClass (top 18) 5), defScope (inClass (top 18) 5), [], []⟩
def e_b_Hall_back_images : He.DefD := ⟨(⟨#[72, 97, 108, 108]⟩, some ⟨#[98, 97, 99, 107, 95, 105, 109, 97, 103, 101, 115]⟩), ⟨#[98, 97, 99, 107, 95, 105, 109, 97, 103, 101, 115]⟩, ⟨#[72, 97, 108, 108, 46, 98, 97, 99, 107, 95, 105, 109, 97, 103, 101, 115]⟩, defArgs (inClass (top 18) 6), defBody (inClass (top 18) 6), defScope (inClass (top 18) 6), [], []⟩
def e_b_Hall_led : He.DefD := ⟨(⟨#[72, 97, 108, 108]⟩, some ⟨#[108, 101, 100]⟩), ⟨#[108, 101, 100]⟩, ⟨#[72, 97, 108, 108, 46, 108, 101, 100]⟩, defArgs (inClass (top 18) 7), defBody (inClass (top 18) 7), defScope (inClass (top 18) 7), [], []⟩
def e_b_Hall_times_from : He.DefD := ⟨(⟨#[72, 97, 108, 108]⟩, some ⟨#[116, 105, 109, 101, 115, 95, 102, 114, 111, 109]⟩), ⟨#[116, 105, 109, 101, 115, 95, 102, 114, 111, 109]⟩, ⟨#[72, 97, 108, 108, 46, 116, 105, 109, 101, 115, 95, 102, 114, 111, 109]⟩, defArgs (inClass (top 18) 8), defBody (inClass (top 18) 8), defScope (inClass (top 18) 8), [], []⟩
def e_b_Hall_is_plain : He.DefD := ⟨(⟨#[72, 97, 108, 108]⟩, some ⟨#[105, 115, 95, 112, 108, 97, 105, 110]⟩), ⟨#[105, 115, 95, 112, 108, 97, 105, 110]⟩, ⟨#[72, 97, 108, 108, 46, 105, 115, 95, 112, 108, 97, 105, 110]⟩, defArgs (inClass (top 18) 9), defBody (inClass (top 18) 9), defScope (inClass (top 18) 9), [], []⟩
def e_b_Hall_power_from : He.DefD := ⟨(⟨#[72, 97, 108, 108]⟩, some ⟨#[112, 111, 119, 101, 114, 95, 102, 114, 111, 109]⟩), ⟨#[112, 111, 119, 101, 114, 95, 102, 114, 111, 109]⟩, ⟨#[72, 97, 108, 108, 46, 112, 111, 119, 101, 114, 95, 102, 114, 111, 109]⟩, defArgs (inClass (top 18) 10), defBody (inClass (top 18) 10), defScope (inClass (top 18) 10), [], []⟩
def e_b_Hall_back_from : He.DefD := ⟨(⟨#[72, 97, 108, 108]⟩, some ⟨#[98, 97, 99, 107, 95, 102, 114, 111, 109]⟩), ⟨#[98, 97, 99, 107, 95, 102, 114, 111, 109]⟩, ⟨#[72, 97, 108, 108, 46, 98, 97, 99, 107, 95, 102, 114, 111, 109]⟩, defArgs (inClass (top 18) 11), defBody (inClass (top 18) 11), defScope (inClass (top 18) 11), [], []⟩
def e_b_Hall_times : He.DefD := ⟨(⟨#[72, 97, 108, 108]⟩, some ⟨#[116, 105, 109, 101, 115]⟩), ⟨#[116, 105, 109, 101, 115]⟩, ⟨#[72, 97, 108, 108, 46, 116, 105, 109, 101, 115]⟩, defArgs (inClass (top 18) 12), defBody (inClass (top 18) 12), defScope (inClass (top 18) 12), [], []⟩
def e_b_Hall_power : He.DefD := ⟨(⟨#[72, 97, 108, 108]⟩, some ⟨#[112, 111, 119, 101, 114]⟩), ⟨#[112, 111, 119, 101, 114]⟩, ⟨#[72, 97, 108, 108, 46, 112, 111, 119, 101, 114]⟩, defArgs (inClass (top 18) 13), defBody (inClass (top 18) 13), defScope (inClass (top 18) 13), [], []⟩
def e_b_Hall_back : He.DefD := ⟨(⟨#[72, 97, 108, 108]⟩, some ⟨#[98, 97, 99, 107]⟩), ⟨#[98, 97, 99, 107]⟩, ⟨#[72, 97, 108, 108, 46, 98, 97, 99, 107]⟩, defArgs (inClass (top 18) 14), defBody (inClass (top 18) 14), defScope (inClass (top 18) 14), [], []⟩
def e_b_Hall_carried : He.DefD := ⟨(⟨#[72, 97, 108, 108]⟩, some ⟨#[99, 97, 114, 114, 105, 101, 100]⟩), ⟨#[99, 97, 114, 114, 105, 101, 100]⟩, ⟨#[72, 97, 108, 108, 46, 99, 97, 114, 114, 105, 101, 100]⟩, defArgs (inClass (top 18) 15), defBody (inClass (top 18) 15), defScope (inClass (top 18) 15), [], []⟩
def e_b_Hall_exchange : He.DefD := ⟨(⟨#[72, 97, 108, 108]⟩, some ⟨#[101, 120, 99, 104, 97, 110, 103, 101]⟩), ⟨#[101, 120, 99, 104, 97, 110, 103, 101]⟩, ⟨#[72, 97, 108, 108, 46, 101, 120, 99, 104, 97, 110, 103, 101]⟩, defArgs (inClass (top 18) 16), defBody (inClass (top 18) 16), defScope (inClass (top 18) 16), [], []⟩
def e_b_Hall_word : He.DefD := ⟨(⟨#[72, 97, 108, 108]⟩, some ⟨#[119, 111, 114, 100]⟩), ⟨#[119, 111, 114, 100]⟩, ⟨#[72, 97, 108, 108, 46, 119, 111, 114, 100]⟩, defArgs (inClass (top 18) 17), defBody (inClass (top 18) 17), defScope (inClass (top 18) 17), [], []⟩
def fnl : List He.DefD := [e_b_is_number, e_b_is_within, e_b_sure_within, e_b_is_long, e_b_are_numbers, e_b_tupled, e_b_common, e_b_chosen, e_b_tie_of, e_b_lead_of, e_b_is_member_in, e_b_sure_member, e_b_sure_word, e_b_is_line, e_b_pairs_of, e_b_is_book_of, e_b_is_small_book, e_b_overlaps_at, e_b_sides_in, e_b_first_parting, e_b_sure_shape, e_b_sure_book, e_b_is_member, e_b_is_word, e_b_collected, e_b_multiplied, e_b_powered, e_b_turned_back, e_b_carried_by, e_b_exchanged, e_b_do_commute, e_b_weights_in, e_b_tops_of, e_b_below, e_b_differences, e_b_fitted, e_b_product_polys, e_b_power_polys, e_b_sure_endless, e_b_letter_weights, e_b_product_row, e_b_power_row, e_b_size_of, e_b_book_size, e_b_order_in, e_b_steps_at, e_b_roots_in, e_b_first_gap, e_b_member_order, e_b_roots, e_b_root, e_b_is_root, e_b_why_no_root, e_b_law_box, e_b_law_take, e_b_law_cells, e_b_law_pick, e_b_law_same, e_b_law_unmarked, e_b_law_flat, e_b_law_pairs, e_b_law_places, e_b_law_grid_book, e_b_law_call, e_b_law_none_fits, e_b_law_heard, e_b_law_refusals, e_b_law, e_b_Hall__init_, e_b_Hall_letter, e_b_Hall_joined, e_b_Hall_is_flat, e_b_Hall_images, e_b_Hall_images_anew, e_b_Hall_back_images, e_b_Hall_led, e_b_Hall_times_from, e_b_Hall_is_plain, e_b_Hall_power_from, e_b_Hall_back_from, e_b_Hall_times, e_b_Hall_power, e_b_Hall_back, e_b_Hall_carried, e_b_Hall_exchange, e_b_Hall_word]
def loose : List Str := ([⟨#[105, 115, 95, 110, 117, 109, 98, 101, 114]⟩, ⟨#[105, 115, 95, 119, 105, 116, 104, 105, 110]⟩, ⟨#[115, 117, 114, 101, 95, 119, 105, 116, 104, 105, 110]⟩, ⟨#[105, 115, 95, 108, 111, 110, 103]⟩, ⟨#[97, 114, 101, 95, 110, 117, 109, 98, 101, 114, 115]⟩, ⟨#[116, 117, 112, 108, 101, 100]⟩, ⟨#[99, 111, 109, 109, 111, 110]⟩, ⟨#[99, 104, 111, 115, 101, 110]⟩, ⟨#[116, 105, 101, 95, 111, 102]⟩, ⟨#[108, 101, 97, 100, 95, 111, 102]⟩, ⟨#[105, 115, 95, 109, 101, 109, 98, 101, 114, 95, 105, 110]⟩, ⟨#[115, 117, 114, 101, 95, 109, 101, 109, 98, 101, 114]⟩, ⟨#[115, 117, 114, 101, 95, 119, 111, 114, 100]⟩, ⟨#[105, 115, 95, 108, 105, 110, 101]⟩, ⟨#[112, 97, 105, 114, 115, 95, 111, 102]⟩, ⟨#[105, 115, 95, 98, 111, 111, 107, 95, 111, 102]⟩, ⟨#[105, 115, 95, 115, 109, 97, 108, 108, 95, 98, 111, 111, 107]⟩, ⟨#[111, 118, 101, 114, 108, 97, 112, 115, 95, 97, 116]⟩, ⟨#[115, 105, 100, 101, 115, 95, 105, 110]⟩, ⟨#[102, 105, 114, 115, 116, 95, 112, 97, 114, 116, 105, 110, 103]⟩, ⟨#[115, 117, 114, 101, 95, 115, 104, 97, 112, 101]⟩, ⟨#[115, 117, 114, 101, 95, 98, 111, 111, 107]⟩, ⟨#[105, 115, 95, 109, 101, 109, 98, 101, 114]⟩, ⟨#[105, 115, 95, 119, 111, 114, 100]⟩, ⟨#[99, 111, 108, 108, 101, 99, 116, 101, 100]⟩, ⟨#[109, 117, 108, 116, 105, 112, 108, 105, 101, 100]⟩, ⟨#[112, 111, 119, 101, 114, 101, 100]⟩, ⟨#[116, 117, 114, 110, 101, 100, 95, 98, 97, 99, 107]⟩, ⟨#[99, 97, 114, 114, 105, 101, 100, 95, 98, 121]⟩, ⟨#[101, 120, 99, 104, 97, 110, 103, 101, 100]⟩] : List Str) ++ ([⟨#[100, 111, 95, 99, 111, 109, 109, 117, 116, 101]⟩, ⟨#[119, 101, 105, 103, 104, 116, 115, 95, 105, 110]⟩, ⟨#[116, 111, 112, 115, 95, 111, 102]⟩, ⟨#[98, 101, 108, 111, 119]⟩, ⟨#[100, 105, 102, 102, 101, 114, 101, 110, 99, 101, 115]⟩, ⟨#[102, 105, 116, 116, 101, 100]⟩, ⟨#[112, 114, 111, 100, 117, 99, 116, 95, 112, 111, 108, 121, 115]⟩, ⟨#[112, 111, 119, 101, 114, 95, 112, 111, 108, 121, 115]⟩, ⟨#[115, 117, 114, 101, 95, 101, 110, 100, 108, 101, 115, 115]⟩, ⟨#[108, 101, 116, 116, 101, 114, 95, 119, 101, 105, 103, 104, 116, 115]⟩, ⟨#[112, 114, 111, 100, 117, 99, 116, 95, 114, 111, 119]⟩, ⟨#[112, 111, 119, 101, 114, 95, 114, 111, 119]⟩, ⟨#[115, 105, 122, 101, 95, 111, 102]⟩, ⟨#[98, 111, 111, 107, 95, 115, 105, 122, 101]⟩, ⟨#[111, 114, 100, 101, 114, 95, 105, 110]⟩, ⟨#[115, 116, 101, 112, 115, 95, 97, 116]⟩, ⟨#[114, 111, 111, 116, 115, 95, 105, 110]⟩, ⟨#[102, 105, 114, 115, 116, 95, 103, 97, 112]⟩, ⟨#[109, 101, 109, 98, 101, 114, 95, 111, 114, 100, 101, 114]⟩, ⟨#[114, 111, 111, 116, 115]⟩, ⟨#[114, 111, 111, 116]⟩, ⟨#[105, 115, 95, 114, 111, 111, 116]⟩, ⟨#[119, 104, 121, 95, 110, 111, 95, 114, 111, 111, 116]⟩, ⟨#[95, 108, 97, 119, 95, 98, 111, 120]⟩, ⟨#[95, 108, 97, 119, 95, 116, 97, 107, 101]⟩, ⟨#[95, 108, 97, 119, 95, 99, 101, 108, 108, 115]⟩, ⟨#[95, 108, 97, 119, 95, 112, 105, 99, 107]⟩, ⟨#[95, 108, 97, 119, 95, 115, 97, 109, 101]⟩, ⟨#[95, 108, 97, 119, 95, 117, 110, 109, 97, 114, 107, 101, 100]⟩, ⟨#[95, 108, 97, 119, 95, 102, 108, 97, 116]⟩] : List Str) ++ ([⟨#[95, 108, 97, 119, 95, 112, 97, 105, 114, 115]⟩, ⟨#[95, 108, 97, 119, 95, 112, 108, 97, 99, 101, 115]⟩, ⟨#[95, 108, 97, 119, 95, 103, 114, 105, 100, 95, 98, 111, 111, 107]⟩, ⟨#[95, 108, 97, 119, 95, 99, 97, 108, 108]⟩, ⟨#[95, 108, 97, 119, 95, 110, 111, 110, 101, 95, 102, 105, 116, 115]⟩, ⟨#[95, 108, 97, 119, 95, 104, 101, 97, 114, 100]⟩, ⟨#[95, 108, 97, 119, 95, 114, 101, 102, 117, 115, 97, 108, 115]⟩, ⟨#[67, 97, 110, 78, 111, 116]⟩, ⟨#[84, 111, 111, 77, 97, 110, 121]⟩, ⟨#[85, 110, 102, 105, 116]⟩, ⟨#[72, 97, 108, 108]⟩, ⟨#[77, 79, 83, 84, 95, 76, 69, 84, 84, 69, 82, 83]⟩, ⟨#[77, 79, 83, 84, 95, 78, 85, 77, 66, 69, 82]⟩, ⟨#[77, 79, 83, 84, 95, 79, 82, 68, 69, 82]⟩, ⟨#[77, 79, 83, 84, 95, 82, 79, 79, 84, 83]⟩, ⟨#[77, 79, 83, 84, 95, 84, 73, 77, 69, 83]⟩] : List Str)
abbrev Rw : PySem.W.OpenRow := PySem.W.OpenLaw.row PySem.Challenge.rw_collectedwords_k26_whole_refused_members
abbrev hkL : PySem.W.Hook := hookM 4 (tab.xcs.map (·.1)) (faOf tab cas) fnl
def obL (s : PySem.W.SharedT) : ObM := obsM 4 (tab.xcs.map (·.1)) (faOf tab cas) fnl (HandSHeadRun.getT s)
theorem obL_eq (s : PySem.W.SharedT) : obL s = hkL.obs s.abs := obsM_eq (HandSHeadRun.getT_eq s)

section
open HandSHeadRun PySem.W
theorem runA (w : World) : ∀ os : OsState, (endF (stepQ (denQ tabQ) Rw.prog w) 20000 Rw.prog w os).map (fun s => (looksF Rw.prog (boot_heap w.params) s.abs, seenQ (PySem.W.view Rw.prog [85]) loose (importedModules Rw.prog.main.body) (fun s => xlAt (PySem.W.view Rw.prog [85]) [] s && recOk Rw.toRowW.records s) s.abs, PySem.W.nsIn (frM (getT s) 4) cStatics "sys.int_max_str_digits", exiA (frM (getT s) 4) (tab.xcs.map (·.1)))) = some (true, openGood (PySem.W.view Rw.prog [85]) loose, some none, true) := by
  intro os
  kernel_rfl
theorem runB (w : World) : ∀ os : OsState, (endF (stepQ (denQ tabQ) Rw.prog w) 20000 Rw.prog w os).map (fun s => (faOf tab cas).all fun f => f.ok (frM (getT s) 4)) = some true := by
  intro os
  kernel_rfl
theorem runC (w : World) : ∀ os : OsState, (endF (stepQ (denQ tabQ) Rw.prog w) 20000 Rw.prog w os).map (fun s => okFn (fnl.take 43) (frM (getT s) 4)) = some (true, (fnl.take 43).map He.DefD.val) := by
  intro os
  kernel_rfl
theorem runD (w : World) : ∀ os : OsState, (endF (stepQ (denQ tabQ) Rw.prog w) 20000 Rw.prog w os).map (fun s => okFn (fnl.drop 43) (frM (getT s) 4)) = some (true, (fnl.drop 43).map He.DefD.val) := by
  intro os
  kernel_rfl
theorem runL (w : World) : RunEq Rw (PySem.W.view Rw.prog [85]) hkL obL 20000 loose w := by
  unfold RunEq
  intro os
  have hA := runA w os
  have hB := runB w os
  have hC := runC w os
  have hD := runD w os
  generalize endF (stepQ (denQ tabQ) Rw.prog w) 20000 Rw.prog w os = e at hA hB hC hD ⊢
  cases e with
  | none => cases hA
  | some s =>
    rw [Option.map_some] at hA hB hC hD ⊢
    have hA := Option.some.inj hA
    have hB := Option.some.inj hB
    have hC := Option.some.inj hC
    have hD := Option.some.inj hD
    have a1 := congrArg (fun z => z.1) hA
    have a2 := congrArg (fun z => z.2.1) hA
    have a3 := congrArg (fun z => z.2.2.1) hA
    have a4 := congrArg (fun z => z.2.2.2) hA
    have o : obL s = (He.valD fnl, some none, true) := obs_join 43 hB hC hD a3 a4
    rw [o]
    dsimp only at a1 a2
    rw [a1, a2]
    rfl
end
theorem s_b_is_number : FnScope [⟨#[116, 104, 105, 110, 103]⟩] [⟨#[116, 104, 105, 110, 103]⟩] (defScope (top 8)) := ⟨rfl, rfl, rfl, by decide +kernel, rfl, by decide +kernel, by decide +kernel⟩
theorem o_b_is_number : okSs tab b_is_number ⟨[⟨#[116, 104, 105, 110, 103]⟩], defScope (top 8), none⟩ (defBody (top 8)) = true := by decide +kernel
theorem f_b_is_number {K : PySem.W.Frag} {mg : Str → Option Value} (c : He.SaysD (faOf tab cas) fnl K) : DefF tab (gOf ats cas K) K mg prog 0 d_b_is_number (pss.getD 0 []) :=
  defF_of c 0 (d := e_b_is_number) rfl rfl rfl rfl _ _ s_b_is_number rfl rfl (by decide) rfl o_b_is_number (fun kV doc pm an cdv ct us hl => match us, hl with | [_], _ => rfl) (fun n ks hm => .inl (plainPat (by decide +kernel) hm))
theorem s_b_is_within : FnScope [⟨#[116, 104, 105, 110, 103]⟩, ⟨#[108, 101, 97, 115, 116]⟩, ⟨#[109, 111, 115, 116]⟩] [⟨#[116, 104, 105, 110, 103]⟩, ⟨#[108, 101, 97, 115, 116]⟩, ⟨#[109, 111, 115, 116]⟩] (defScope (top 9)) := ⟨rfl, rfl, rfl, by decide +kernel, rfl, by decide +kernel, by decide +kernel⟩
theorem o_b_is_within : okSs tab b_is_within ⟨[⟨#[116, 104, 105, 110, 103]⟩, ⟨#[108, 101, 97, 115, 116]⟩, ⟨#[109, 111, 115, 116]⟩], defScope (top 9), none⟩ (defBody (top 9)) = true := by decide +kernel
theorem f_b_is_within {K : PySem.W.Frag} {mg : Str → Option Value} (c : He.SaysD (faOf tab cas) fnl K) : DefF tab (gOf ats cas K) K mg prog 1 d_b_is_within (pss.getD 1 []) :=
  defF_of c 1 (d := e_b_is_within) rfl rfl rfl rfl _ _ s_b_is_within rfl rfl (by decide) rfl o_b_is_within (fun kV doc pm an cdv ct us hl => match us, hl with | [_, _, _], _ => rfl) (fun n ks hm => .inl (plainPat (by decide +kernel) hm))
theorem s_b_sure_within : FnScope [⟨#[116, 104, 105, 110, 103]⟩, ⟨#[108, 101, 97, 115, 116]⟩, ⟨#[109, 111, 115, 116]⟩] [⟨#[116, 104, 105, 110, 103]⟩, ⟨#[108, 101, 97, 115, 116]⟩, ⟨#[109, 111, 115, 116]⟩] (defScope (top 10)) := ⟨rfl, rfl, rfl, by decide +kernel, rfl, by decide +kernel, by decide +kernel⟩
theorem o_b_sure_within : okSs tab b_sure_within ⟨[⟨#[116, 104, 105, 110, 103]⟩, ⟨#[108, 101, 97, 115, 116]⟩, ⟨#[109, 111, 115, 116]⟩], defScope (top 10), none⟩ (defBody (top 10)) = true := by decide +kernel
theorem f_b_sure_within {K : PySem.W.Frag} {mg : Str → Option Value} (c : He.SaysD (faOf tab cas) fnl K) : DefF tab (gOf ats cas K) K mg prog 2 d_b_sure_within (pss.getD 2 []) :=
  defF_of c 2 (d := e_b_sure_within) rfl rfl rfl rfl _ _ s_b_sure_within rfl rfl (by decide) rfl o_b_sure_within (fun kV doc pm an cdv ct us hl => match us, hl with | [_, _, _], _ => rfl) (fun n ks hm => .inl (plainPat (by decide +kernel) hm))
theorem s_b_is_long : FnScope [⟨#[116, 104, 105, 110, 103]⟩, ⟨#[108, 101, 110, 103, 116, 104]⟩] [⟨#[116, 104, 105, 110, 103]⟩, ⟨#[108, 101, 110, 103, 116, 104]⟩] (defScope (top 11)) := ⟨rfl, rfl, rfl, by decide +kernel, rfl, by decide +kernel, by decide +kernel⟩
theorem o_b_is_long : okSs tab b_is_long ⟨[⟨#[116, 104, 105, 110, 103]⟩, ⟨#[108, 101, 110, 103, 116, 104]⟩], defScope (top 11), none⟩ (defBody (top 11)) = true := by decide +kernel
theorem f_b_is_long {K : PySem.W.Frag} {mg : Str → Option Value} (c : He.SaysD (faOf tab cas) fnl K) : DefF tab (gOf ats cas K) K mg prog 3 d_b_is_long (pss.getD 3 []) :=
  defF_of c 3 (d := e_b_is_long) rfl rfl rfl rfl _ _ s_b_is_long rfl rfl (by decide) rfl o_b_is_long (fun kV doc pm an cdv ct us hl => match us, hl with | [_, _], _ => rfl) (fun n ks hm => .inl (plainPat (by decide +kernel) hm))
theorem s_b_are_numbers : FnScope [⟨#[116, 104, 105, 110, 103]⟩, ⟨#[111, 119, 110]⟩] [⟨#[116, 104, 105, 110, 103]⟩] (defScope (top 12)) := ⟨rfl, rfl, rfl, by decide +kernel, rfl, by decide +kernel, by decide +kernel⟩
theorem o_b_are_numbers : okSs tab b_are_numbers ⟨[⟨#[116, 104, 105, 110, 103]⟩, ⟨#[111, 119, 110]⟩], defScope (top 12), none⟩ (defBody (top 12)) = true := by decide +kernel
theorem f_b_are_numbers {K : PySem.W.Frag} {mg : Str → Option Value} (c : He.SaysD (faOf tab cas) fnl K) : DefF tab (gOf ats cas K) K mg prog 4 d_b_are_numbers (pss.getD 4 []) :=
  defF_of c 4 (d := e_b_are_numbers) rfl rfl rfl rfl _ _ s_b_are_numbers rfl rfl (by decide) rfl o_b_are_numbers (fun kV doc pm an cdv ct us hl => match us, hl with | [_], _ => rfl) (fun n ks hm => .inl (plainPat (by decide +kernel) hm))
theorem s_b_tupled : FnScope [⟨#[118, 97, 108, 117, 101]⟩, ⟨#[111, 119, 110]⟩] [⟨#[118, 97, 108, 117, 101]⟩] (defScope (top 13)) := ⟨rfl, rfl, rfl, by decide +kernel, rfl, by decide +kernel, by decide +kernel⟩
theorem o_b_tupled : okSs tab b_tupled ⟨[⟨#[118, 97, 108, 117, 101]⟩, ⟨#[111, 119, 110]⟩], defScope (top 13), none⟩ (defBody (top 13)) = true := by decide +kernel
theorem f_b_tupled {K : PySem.W.Frag} {mg : Str → Option Value} (c : He.SaysD (faOf tab cas) fnl K) : DefF tab (gOf ats cas K) K mg prog 5 d_b_tupled (pss.getD 5 []) :=
  defF_of c 5 (d := e_b_tupled) rfl rfl rfl rfl _ _ s_b_tupled rfl rfl (by decide) rfl o_b_tupled (fun kV doc pm an cdv ct us hl => match us, hl with | [_], _ => rfl) (fun n ks hm => .inl (plainPat (by decide +kernel) hm))
theorem s_b_common : FnScope [⟨#[111, 110, 101]⟩, ⟨#[111, 116, 104, 101, 114]⟩] [⟨#[111, 110, 101]⟩, ⟨#[111, 116, 104, 101, 114]⟩] (defScope (top 14)) := ⟨rfl, rfl, rfl, by decide +kernel, rfl, by decide +kernel, by decide +kernel⟩
theorem o_b_common : okSs tab b_common ⟨[⟨#[111, 110, 101]⟩, ⟨#[111, 116, 104, 101, 114]⟩], defScope (top 14), none⟩ (defBody (top 14)) = true := by decide +kernel
theorem f_b_common {K : PySem.W.Frag} {mg : Str → Option Value} (c : He.SaysD (faOf tab cas) fnl K) : DefF tab (gOf ats cas K) K mg prog 6 d_b_common (pss.getD 6 []) :=
  defF_of c 6 (d := e_b_common) rfl rfl rfl rfl _ _ s_b_common rfl rfl (by decide) rfl o_b_common (fun kV doc pm an cdv ct us hl => match us, hl with | [_, _], _ => rfl) (fun n ks hm => .inl (plainPat (by decide +kernel) hm))
theorem s_b_chosen : FnScope [⟨#[109, 97, 110, 121]⟩, ⟨#[115, 111, 109, 101]⟩, ⟨#[102, 111, 117, 110, 100]⟩, ⟨#[111, 119, 110]⟩] [⟨#[109, 97, 110, 121]⟩, ⟨#[115, 111, 109, 101]⟩] (defScope (top 15)) := ⟨rfl, rfl, rfl, by decide +kernel, rfl, by decide +kernel, by decide +kernel⟩
theorem o_b_chosen : okSs tab b_chosen ⟨[⟨#[109, 97, 110, 121]⟩, ⟨#[115, 111, 109, 101]⟩, ⟨#[102, 111, 117, 110, 100]⟩, ⟨#[111, 119, 110]⟩], defScope (top 15), none⟩ (defBody (top 15)) = true := by decide +kernel
theorem f_b_chosen {K : PySem.W.Frag} {mg : Str → Option Value} (c : He.SaysD (faOf tab cas) fnl K) : DefF tab (gOf ats cas K) K mg prog 7 d_b_chosen (pss.getD 7 []) :=
  defF_of c 7 (d := e_b_chosen) rfl rfl rfl rfl _ _ s_b_chosen rfl rfl (by decide) rfl o_b_chosen (fun kV doc pm an cdv ct us hl => match us, hl with | [_, _], _ => rfl) (fun n ks hm => .inl (plainPat (by decide +kernel) hm))
theorem s_b_tie_of : FnScope [⟨#[98, 111, 111, 107]⟩, ⟨#[108, 111, 119]⟩, ⟨#[104, 105, 103, 104]⟩, ⟨#[109, 97, 110, 121]⟩] [⟨#[98, 111, 111, 107]⟩, ⟨#[108, 111, 119]⟩, ⟨#[104, 105, 103, 104]⟩] (defScope (top 17)) := ⟨rfl, rfl, rfl, by decide +kernel, rfl, by decide +kernel, by decide +kernel⟩
theorem o_b_tie_of : okSs tab b_tie_of ⟨[⟨#[98, 111, 111, 107]⟩, ⟨#[108, 111, 119]⟩, ⟨#[104, 105, 103, 104]⟩, ⟨#[109, 97, 110, 121]⟩], defScope (top 17), none⟩ (defBody (top 17)) = true := by decide +kernel
theorem f_b_tie_of {K : PySem.W.Frag} {mg : Str → Option Value} (c : He.SaysD (faOf tab cas) fnl K) : DefF tab (gOf ats cas K) K mg prog 8 d_b_tie_of (pss.getD 8 []) :=
  defF_of c 8 (d := e_b_tie_of) rfl rfl rfl rfl _ _ s_b_tie_of rfl rfl (by decide) rfl o_b_tie_of (fun kV doc pm an cdv ct us hl => match us, hl with | [_, _, _], _ => rfl) (fun n ks hm => .inl (plainPat (by decide +kernel) hm))
theorem s_b_lead_of : FnScope [⟨#[109, 101, 109, 98, 101, 114]⟩, ⟨#[103, 111, 111, 100]⟩, ⟨#[112, 108, 97, 99, 101]⟩, ⟨#[111, 119, 110]⟩] [⟨#[109, 101, 109, 98, 101, 114]⟩] (defScope (top 19)) := ⟨rfl, rfl, rfl, by decide +kernel, rfl, by decide +kernel, by decide +kernel⟩
theorem o_b_lead_of : okSs tab b_lead_of ⟨[⟨#[109, 101, 109, 98, 101, 114]⟩, ⟨#[103, 111, 111, 100]⟩, ⟨#[112, 108, 97, 99, 101]⟩, ⟨#[111, 119, 110]⟩], defScope (top 19), none⟩ (defBody (top 19)) = true := by decide +kernel
theorem f_b_lead_of {K : PySem.W.Frag} {mg : Str → Option Value} (c : He.SaysD (faOf tab cas) fnl K) : DefF tab (gOf ats cas K) K mg prog 9 d_b_lead_of (pss.getD 9 []) :=
  defF_of c 9 (d := e_b_lead_of) rfl rfl rfl rfl _ _ s_b_lead_of rfl rfl (by decide) rfl o_b_lead_of (fun kV doc pm an cdv ct us hl => match us, hl with | [_], _ => rfl) (fun n ks hm => .inl (plainPat (by decide +kernel) hm))
theorem s_b_is_member_in : FnScope [⟨#[98, 111, 111, 107]⟩, ⟨#[116, 104, 105, 110, 103]⟩, ⟨#[111, 119, 110]⟩, ⟨#[111, 114, 100, 101, 114]⟩] [⟨#[98, 111, 111, 107]⟩, ⟨#[116, 104, 105, 110, 103]⟩] (defScope (top 20)) := ⟨rfl, rfl, rfl, by decide +kernel, rfl, by decide +kernel, by decide +kernel⟩
theorem o_b_is_member_in : okSs tab b_is_member_in ⟨[⟨#[98, 111, 111, 107]⟩, ⟨#[116, 104, 105, 110, 103]⟩, ⟨#[111, 119, 110]⟩, ⟨#[111, 114, 100, 101, 114]⟩], defScope (top 20), none⟩ (defBody (top 20)) = true := by decide +kernel
theorem f_b_is_member_in {K : PySem.W.Frag} {mg : Str → Option Value} (c : He.SaysD (faOf tab cas) fnl K) : DefF tab (gOf ats cas K) K mg prog 10 d_b_is_member_in (pss.getD 10 []) :=
  defF_of c 10 (d := e_b_is_member_in) rfl rfl rfl rfl _ _ s_b_is_member_in rfl rfl (by decide) rfl o_b_is_member_in (fun kV doc pm an cdv ct us hl => match us, hl with | [_, _], _ => rfl) (fun n ks hm => .inl (plainPat (by decide +kernel) hm))
theorem s_b_sure_member : FnScope [⟨#[98, 111, 111, 107]⟩, ⟨#[118, 97, 108, 117, 101]⟩, ⟨#[111, 119, 110]⟩, ⟨#[105, 116, 115]⟩] [⟨#[98, 111, 111, 107]⟩, ⟨#[118, 97, 108, 117, 101]⟩] (defScope (top 21)) := ⟨rfl, rfl, rfl, by decide +kernel, rfl, by decide +kernel, by decide +kernel⟩
theorem o_b_sure_member : okSs tab b_sure_member ⟨[⟨#[98, 111, 111, 107]⟩, ⟨#[118, 97, 108, 117, 101]⟩, ⟨#[111, 119, 110]⟩, ⟨#[105, 116, 115]⟩], defScope (top 21), none⟩ (defBody (top 21)) = true := by decide +kernel
theorem f_b_sure_member {K : PySem.W.Frag} {mg : Str → Option Value} (c : He.SaysD (faOf tab cas) fnl K) : DefF tab (gOf ats cas K) K mg prog 11 d_b_sure_member (pss.getD 11 []) :=
  defF_of c 11 (d := e_b_sure_member) rfl rfl rfl rfl _ _ s_b_sure_member rfl rfl (by decide) rfl o_b_sure_member (fun kV doc pm an cdv ct us hl => match us, hl with | [_, _], _ => rfl) (fun n ks hm => .inl (plainPat (by decide +kernel) hm))
theorem s_b_sure_word : FnScope [⟨#[98, 111, 111, 107]⟩, ⟨#[118, 97, 108, 117, 101]⟩, ⟨#[111, 119, 110]⟩, ⟨#[108, 101, 116, 116, 101, 114]⟩, ⟨#[111, 102, 116, 101, 110]⟩, ⟨#[112, 97, 105, 114]⟩] [⟨#[98, 111, 111, 107]⟩, ⟨#[118, 97, 108, 117, 101]⟩] (defScope (top 22)) := ⟨rfl, rfl, rfl, by decide +kernel, rfl, by decide +kernel, by decide +kernel⟩
theorem o_b_sure_word : okSs tab b_sure_word ⟨[⟨#[98, 111, 111, 107]⟩, ⟨#[118, 97, 108, 117, 101]⟩, ⟨#[111, 119, 110]⟩, ⟨#[108, 101, 116, 116, 101, 114]⟩, ⟨#[111, 102, 116, 101, 110]⟩, ⟨#[112, 97, 105, 114]⟩], defScope (top 22), none⟩ (defBody (top 22)) = true := by decide +kernel
theorem f_b_sure_word {K : PySem.W.Frag} {mg : Str → Option Value} (c : He.SaysD (faOf tab cas) fnl K) : DefF tab (gOf ats cas K) K mg prog 12 d_b_sure_word (pss.getD 12 []) :=
  defF_of c 12 (d := e_b_sure_word) rfl rfl rfl rfl _ _ s_b_sure_word rfl rfl (by decide) rfl o_b_sure_word (fun kV doc pm an cdv ct us hl => match us, hl with | [_, _], _ => rfl) (fun n ks hm => .inl (plainPat (by decide +kernel) hm))
theorem s_b_is_line : FnScope [⟨#[111, 114, 100, 101, 114, 115]⟩, ⟨#[108, 105, 110, 101]⟩, ⟨#[102, 105, 114, 115, 116]⟩, ⟨#[111, 119, 110]⟩, ⟨#[111, 114, 100, 101, 114]⟩] [⟨#[111, 114, 100, 101, 114, 115]⟩, ⟨#[108, 105, 110, 101]⟩, ⟨#[102, 105, 114, 115, 116]⟩] (defScope (top 24)) := ⟨rfl, rfl, rfl, by decide +kernel, rfl, by decide +kernel, by decide +kernel⟩
theorem o_b_is_line : okSs tab b_is_line ⟨[⟨#[111, 114, 100, 101, 114, 115]⟩, ⟨#[108, 105, 110, 101]⟩, ⟨#[102, 105, 114, 115, 116]⟩, ⟨#[111, 119, 110]⟩, ⟨#[111, 114, 100, 101, 114]⟩], defScope (top 24), none⟩ (defBody (top 24)) = true := by decide +kernel
theorem f_b_is_line {K : PySem.W.Frag} {mg : Str → Option Value} (c : He.SaysD (faOf tab cas) fnl K) : DefF tab (gOf ats cas K) K mg prog 13 d_b_is_line (pss.getD 13 []) :=
  defF_of c 13 (d := e_b_is_line) rfl rfl rfl rfl _ _ s_b_is_line rfl rfl (by decide) rfl o_b_is_line (fun kV doc pm an cdv ct us hl => match us, hl with | [_, _, _], _ => rfl) (fun n ks hm => .inl (plainPat (by decide +kernel) hm))
theorem s_b_pairs_of : FnScope [⟨#[109, 97, 110, 121]⟩, ⟨#[108, 111, 119]⟩, ⟨#[104, 105, 103, 104]⟩] [⟨#[109, 97, 110, 121]⟩] (defScope (top 25)) := ⟨rfl, rfl, rfl, by decide +kernel, rfl, by decide +kernel, by decide +kernel⟩
theorem o_b_pairs_of : okSs tab b_pairs_of ⟨[⟨#[109, 97, 110, 121]⟩, ⟨#[108, 111, 119]⟩, ⟨#[104, 105, 103, 104]⟩], defScope (top 25), none⟩ (defBody (top 25)) = true := by decide +kernel
theorem f_b_pairs_of {K : PySem.W.Frag} {mg : Str → Option Value} (c : He.SaysD (faOf tab cas) fnl K) : DefF tab (gOf ats cas K) K mg prog 14 d_b_pairs_of (pss.getD 14 []) :=
  defF_of c 14 (d := e_b_pairs_of) rfl rfl rfl rfl _ _ s_b_pairs_of rfl rfl (by decide) rfl o_b_pairs_of (fun kV doc pm an cdv ct us hl => match us, hl with | [_], _ => rfl) (fun n ks hm => .inl (plainPat (by decide +kernel) hm))
theorem s_b_is_book_of : FnScope [⟨#[116, 104, 105, 110, 103]⟩, ⟨#[112, 97, 105, 114, 115]⟩, ⟨#[111, 114, 100, 101, 114, 115]⟩, ⟨#[112, 111, 119, 101, 114, 115]⟩, ⟨#[116, 105, 101, 115]⟩, ⟨#[112, 108, 97, 99, 101]⟩, ⟨#[111, 119, 110]⟩, ⟨#[108, 111, 119]⟩, ⟨#[104, 105, 103, 104]⟩, ⟨#[105, 116, 115]⟩] [⟨#[116, 104, 105, 110, 103]⟩] (defScope (top 26)) := ⟨rfl, rfl, rfl, by decide +kernel, rfl, by decide +kernel, by decide +kernel⟩
theorem o_b_is_book_of : okSs tab b_is_book_of ⟨[⟨#[116, 104, 105, 110, 103]⟩, ⟨#[112, 97, 105, 114, 115]⟩, ⟨#[111, 114, 100, 101, 114, 115]⟩, ⟨#[112, 111, 119, 101, 114, 115]⟩, ⟨#[116, 105, 101, 115]⟩, ⟨#[112, 108, 97, 99, 101]⟩, ⟨#[111, 119, 110]⟩, ⟨#[108, 111, 119]⟩, ⟨#[104, 105, 103, 104]⟩, ⟨#[105, 116, 115]⟩], defScope (top 26), none⟩ (defBody (top 26)) = true := by decide +kernel
theorem f_b_is_book_of {K : PySem.W.Frag} {mg : Str → Option Value} (c : He.SaysD (faOf tab cas) fnl K) : DefF tab (gOf ats cas K) K mg prog 15 d_b_is_book_of (pss.getD 15 []) :=
  defF_of c 15 (d := e_b_is_book_of) rfl rfl rfl rfl _ _ s_b_is_book_of rfl rfl (by decide) rfl o_b_is_book_of (fun kV doc pm an cdv ct us hl => match us, hl with | [_], _ => rfl) (fun n ks hm => .inl (plainPat (by decide +kernel) hm))
theorem s_b_is_small_book : FnScope [⟨#[98, 111, 111, 107]⟩, ⟨#[108, 105, 110, 101]⟩, ⟨#[111, 119, 110]⟩] [⟨#[98, 111, 111, 107]⟩] (defScope (top 27)) := ⟨rfl, rfl, rfl, by decide +kernel, rfl, by decide +kernel, by decide +kernel⟩
theorem o_b_is_small_book : okSs tab b_is_small_book ⟨[⟨#[98, 111, 111, 107]⟩, ⟨#[108, 105, 110, 101]⟩, ⟨#[111, 119, 110]⟩], defScope (top 27), none⟩ (defBody (top 27)) = true := by decide +kernel
theorem f_b_is_small_book {K : PySem.W.Frag} {mg : Str → Option Value} (c : He.SaysD (faOf tab cas) fnl K) : DefF tab (gOf ats cas K) K mg prog 16 d_b_is_small_book (pss.getD 16 []) :=
  defF_of c 16 (d := e_b_is_small_book) rfl rfl rfl rfl _ _ s_b_is_small_book rfl rfl (by decide) rfl o_b_is_small_book (fun kV doc pm an cdv ct us hl => match us, hl with | [_], _ => rfl) (fun n ks hm => .inl (plainPat (by decide +kernel) hm))
theorem s_b_overlaps_at : FnScope [⟨#[98, 111, 111, 107]⟩, ⟨#[108, 111, 119]⟩, ⟨#[102, 111, 117, 110, 100]⟩, ⟨#[109, 97, 110, 121]⟩, ⟨#[111, 114, 100, 101, 114, 115]⟩, ⟨#[111, 110, 101]⟩, ⟨#[116, 119, 111]⟩] [⟨#[98, 111, 111, 107]⟩, ⟨#[108, 111, 119]⟩] (defScope (top 28)) := ⟨rfl, rfl, rfl, by decide +kernel, rfl, by decide +kernel, by decide +kernel⟩
theorem o_b_overlaps_at : okSs tab b_overlaps_at ⟨[⟨#[98, 111, 111, 107]⟩, ⟨#[108, 111, 119]⟩, ⟨#[102, 111, 117, 110, 100]⟩, ⟨#[109, 97, 110, 121]⟩, ⟨#[111, 114, 100, 101, 114, 115]⟩, ⟨#[111, 110, 101]⟩, ⟨#[116, 119, 111]⟩], defScope (top 28), none⟩ (defBody (top 28)) = true := by decide +kernel
theorem f_b_overlaps_at {K : PySem.W.Frag} {mg : Str → Option Value} (c : He.SaysD (faOf tab cas) fnl K) : DefF tab (gOf ats cas K) K mg prog 17 d_b_overlaps_at (pss.getD 17 []) :=
  defF_of c 17 (d := e_b_overlaps_at) rfl rfl rfl rfl _ _ s_b_overlaps_at rfl rfl (by decide) rfl o_b_overlaps_at (fun kV doc pm an cdv ct us hl => match us, hl with | [_, _], _ => rfl) (fun n ks hm => .inl (plainPat (by decide +kernel) hm))
theorem s_b_sides_in : FnScope [⟨#[104, 97, 108, 108]⟩, ⟨#[111, 118, 101, 114, 108, 97, 112]⟩, ⟨#[105, 109, 97, 103, 101, 115]⟩, ⟨#[112, 111, 119, 101, 114]⟩, ⟨#[119, 111, 114, 100]⟩, ⟨#[108, 111, 119]⟩, ⟨#[98, 111, 111, 107]⟩, ⟨#[110, 101, 120, 116, 95, 111, 110, 101]⟩, ⟨#[116, 105, 101]⟩, ⟨#[111, 119, 110]⟩, ⟨#[111, 110, 101]⟩, ⟨#[116, 119, 111]⟩] [⟨#[104, 97, 108, 108]⟩, ⟨#[111, 118, 101, 114, 108, 97, 112]⟩] (defScope (top 29)) := ⟨rfl, rfl, rfl, by decide +kernel, rfl, by decide +kernel, by decide +kernel⟩
theorem o_b_sides_in : okSs tab b_sides_in ⟨[⟨#[104, 97, 108, 108]⟩, ⟨#[111, 118, 101, 114, 108, 97, 112]⟩, ⟨#[105, 109, 97, 103, 101, 115]⟩, ⟨#[112, 111, 119, 101, 114]⟩, ⟨#[119, 111, 114, 100]⟩, ⟨#[108, 111, 119]⟩, ⟨#[98, 111, 111, 107]⟩, ⟨#[110, 101, 120, 116, 95, 111, 110, 101]⟩, ⟨#[116, 105, 101]⟩, ⟨#[111, 119, 110]⟩, ⟨#[111, 110, 101]⟩, ⟨#[116, 119, 111]⟩], defScope (top 29), none⟩ (defBody (top 29)) = true := by decide +kernel
theorem f_b_sides_in {K : PySem.W.Frag} {mg : Str → Option Value} (c : He.SaysD (faOf tab cas) fnl K) : DefF tab (gOf ats cas K) K mg prog 18 d_b_sides_in (pss.getD 18 []) :=
  defF_of c 18 (d := e_b_sides_in) rfl rfl rfl rfl _ _ s_b_sides_in rfl rfl (by decide) rfl o_b_sides_in (fun kV doc pm an cdv ct us hl => match us, hl with | [_, _], _ => rfl) (fun n ks hm => .inl (plainPat (by decide +kernel) hm))
theorem s_b_first_parting : FnScope [⟨#[98, 111, 111, 107]⟩, ⟨#[104, 97, 108, 108]⟩, ⟨#[108, 111, 119]⟩, ⟨#[111, 118, 101, 114, 108, 97, 112]⟩, ⟨#[115, 105, 100, 101, 115]⟩] [⟨#[98, 111, 111, 107]⟩] (defScope (top 30)) := ⟨rfl, rfl, rfl, by decide +kernel, rfl, by decide +kernel, by decide +kernel⟩
theorem o_b_first_parting : okSs tab b_first_parting ⟨[⟨#[98, 111, 111, 107]⟩, ⟨#[104, 97, 108, 108]⟩, ⟨#[108, 111, 119]⟩, ⟨#[111, 118, 101, 114, 108, 97, 112]⟩, ⟨#[115, 105, 100, 101, 115]⟩], defScope (top 30), none⟩ (defBody (top 30)) = true := by decide +kernel
theorem f_b_first_parting {K : PySem.W.Frag} {mg : Str → Option Value} (c : He.SaysD (faOf tab cas) fnl K) : DefF tab (gOf ats cas K) K mg prog 19 d_b_first_parting (pss.getD 19 []) :=
  defF_of c 19 (d := e_b_first_parting) rfl rfl rfl rfl _ _ s_b_first_parting rfl rfl (by decide) rfl o_b_first_parting (fun kV doc pm an cdv ct us hl => match us, hl with | [_], _ => rfl) (fun n ks hm => .inl (plainPat (by decide +kernel) hm))
theorem s_b_sure_shape : FnScope [⟨#[118, 97, 108, 117, 101]⟩, ⟨#[111, 119, 110]⟩] [⟨#[118, 97, 108, 117, 101]⟩] (defScope (top 31)) := ⟨rfl, rfl, rfl, by decide +kernel, rfl, by decide +kernel, by decide +kernel⟩
theorem o_b_sure_shape : okSs tab b_sure_shape ⟨[⟨#[118, 97, 108, 117, 101]⟩, ⟨#[111, 119, 110]⟩], defScope (top 31), none⟩ (defBody (top 31)) = true := by decide +kernel
theorem f_b_sure_shape {K : PySem.W.Frag} {mg : Str → Option Value} (c : He.SaysD (faOf tab cas) fnl K) : DefF tab (gOf ats cas K) K mg prog 20 d_b_sure_shape (pss.getD 20 []) :=
  defF_of c 20 (d := e_b_sure_shape) rfl rfl rfl rfl _ _ s_b_sure_shape rfl rfl (by decide) rfl o_b_sure_shape (fun kV doc pm an cdv ct us hl => match us, hl with | [_], _ => rfl) (fun n ks hm => .inl (plainPat (by decide +kernel) hm))
theorem s_b_sure_book : FnScope [⟨#[118, 97, 108, 117, 101]⟩, ⟨#[111, 119, 110]⟩] [⟨#[118, 97, 108, 117, 101]⟩] (defScope (top 32)) := ⟨rfl, rfl, rfl, by decide +kernel, rfl, by decide +kernel, by decide +kernel⟩
theorem o_b_sure_book : okSs tab b_sure_book ⟨[⟨#[118, 97, 108, 117, 101]⟩, ⟨#[111, 119, 110]⟩], defScope (top 32), none⟩ (defBody (top 32)) = true := by decide +kernel
theorem f_b_sure_book {K : PySem.W.Frag} {mg : Str → Option Value} (c : He.SaysD (faOf tab cas) fnl K) : DefF tab (gOf ats cas K) K mg prog 21 d_b_sure_book (pss.getD 21 []) :=
  defF_of c 21 (d := e_b_sure_book) rfl rfl rfl rfl _ _ s_b_sure_book rfl rfl (by decide) rfl o_b_sure_book (fun kV doc pm an cdv ct us hl => match us, hl with | [_], _ => rfl) (fun n ks hm => .inl (plainPat (by decide +kernel) hm))
theorem s_b_is_member : FnScope [⟨#[98, 111, 111, 107]⟩, ⟨#[116, 104, 105, 110, 103]⟩] [⟨#[98, 111, 111, 107]⟩, ⟨#[116, 104, 105, 110, 103]⟩] (defScope (top 34)) := ⟨rfl, rfl, rfl, by decide +kernel, rfl, by decide +kernel, by decide +kernel⟩
theorem o_b_is_member : okSs tab b_is_member ⟨[⟨#[98, 111, 111, 107]⟩, ⟨#[116, 104, 105, 110, 103]⟩], defScope (top 34), none⟩ (defBody (top 34)) = true := by decide +kernel
theorem f_b_is_member {K : PySem.W.Frag} {mg : Str → Option Value} (c : He.SaysD (faOf tab cas) fnl K) : DefF tab (gOf ats cas K) K mg prog 22 d_b_is_member (pss.getD 22 []) :=
  defF_of c 22 (d := e_b_is_member) rfl rfl rfl rfl _ _ s_b_is_member rfl rfl (by decide) rfl o_b_is_member (fun kV doc pm an cdv ct us hl => match us, hl with | [_, _], _ => rfl) (fun n ks hm => .inl (plainPat (by decide +kernel) hm))
theorem s_b_is_word : FnScope [⟨#[98, 111, 111, 107]⟩, ⟨#[116, 104, 105, 110, 103]⟩, ⟨#[111, 119, 110]⟩, ⟨#[108, 101, 116, 116, 101, 114]⟩, ⟨#[111, 102, 116, 101, 110]⟩, ⟨#[112, 97, 105, 114]⟩] [⟨#[98, 111, 111, 107]⟩, ⟨#[116, 104, 105, 110, 103]⟩] (defScope (top 35)) := ⟨rfl, rfl, rfl, by decide +kernel, rfl, by decide +kernel, by decide +kernel⟩
theorem o_b_is_word : okSs tab b_is_word ⟨[⟨#[98, 111, 111, 107]⟩, ⟨#[116, 104, 105, 110, 103]⟩, ⟨#[111, 119, 110]⟩, ⟨#[108, 101, 116, 116, 101, 114]⟩, ⟨#[111, 102, 116, 101, 110]⟩, ⟨#[112, 97, 105, 114]⟩], defScope (top 35), none⟩ (defBody (top 35)) = true := by decide +kernel
theorem f_b_is_word {K : PySem.W.Frag} {mg : Str → Option Value} (c : He.SaysD (faOf tab cas) fnl K) : DefF tab (gOf ats cas K) K mg prog 23 d_b_is_word (pss.getD 23 []) :=
  defF_of c 23 (d := e_b_is_word) rfl rfl rfl rfl _ _ s_b_is_word rfl rfl (by decide) rfl o_b_is_word (fun kV doc pm an cdv ct us hl => match us, hl with | [_, _], _ => rfl) (fun n ks hm => .inl (plainPat (by decide +kernel) hm))
theorem s_b_collected : FnScope [⟨#[98, 111, 111, 107]⟩, ⟨#[119, 111, 114, 100]⟩, ⟨#[104, 97, 108, 108]⟩] [⟨#[98, 111, 111, 107]⟩, ⟨#[119, 111, 114, 100]⟩] (defScope (top 36)) := ⟨rfl, rfl, rfl, by decide +kernel, rfl, by decide +kernel, by decide +kernel⟩
theorem o_b_collected : okSs tab b_collected ⟨[⟨#[98, 111, 111, 107]⟩, ⟨#[119, 111, 114, 100]⟩, ⟨#[104, 97, 108, 108]⟩], defScope (top 36), none⟩ (defBody (top 36)) = true := by decide +kernel
theorem f_b_collected {K : PySem.W.Frag} {mg : Str → Option Value} (c : He.SaysD (faOf tab cas) fnl K) : DefF tab (gOf ats cas K) K mg prog 24 d_b_collected (pss.getD 24 []) :=
  defF_of c 24 (d := e_b_collected) rfl rfl rfl rfl _ _ s_b_collected rfl rfl (by decide) rfl o_b_collected (fun kV doc pm an cdv ct us hl => match us, hl with | [_, _], _ => rfl) (fun n ks hm => .inl (plainPat (by decide +kernel) hm))
theorem s_b_multiplied : FnScope [⟨#[98, 111, 111, 107]⟩, ⟨#[111, 110, 101]⟩, ⟨#[111, 116, 104, 101, 114]⟩, ⟨#[104, 97, 108, 108]⟩, ⟨#[110, 101, 97, 114]⟩] [⟨#[98, 111, 111, 107]⟩, ⟨#[111, 110, 101]⟩, ⟨#[111, 116, 104, 101, 114]⟩] (defScope (top 37)) := ⟨rfl, rfl, rfl, by decide +kernel, rfl, by decide +kernel, by decide +kernel⟩
theorem o_b_multiplied : okSs tab b_multiplied ⟨[⟨#[98, 111, 111, 107]⟩, ⟨#[111, 110, 101]⟩, ⟨#[111, 116, 104, 101, 114]⟩, ⟨#[104, 97, 108, 108]⟩, ⟨#[110, 101, 97, 114]⟩], defScope (top 37), none⟩ (defBody (top 37)) = true := by decide +kernel
theorem f_b_multiplied {K : PySem.W.Frag} {mg : Str → Option Value} (c : He.SaysD (faOf tab cas) fnl K) : DefF tab (gOf ats cas K) K mg prog 25 d_b_multiplied (pss.getD 25 []) :=
  defF_of c 25 (d := e_b_multiplied) rfl rfl rfl rfl _ _ s_b_multiplied rfl rfl (by decide) rfl o_b_multiplied (fun kV doc pm an cdv ct us hl => match us, hl with | [_, _, _], _ => rfl) (fun n ks hm => .inl (plainPat (by decide +kernel) hm))
theorem s_b_powered : FnScope [⟨#[98, 111, 111, 107]⟩, ⟨#[109, 101, 109, 98, 101, 114]⟩, ⟨#[111, 102, 116, 101, 110]⟩, ⟨#[104, 97, 108, 108]⟩, ⟨#[111, 119, 110]⟩] [⟨#[98, 111, 111, 107]⟩, ⟨#[109, 101, 109, 98, 101, 114]⟩, ⟨#[111, 102, 116, 101, 110]⟩] (defScope (top 38)) := ⟨rfl, rfl, rfl, by decide +kernel, rfl, by decide +kernel, by decide +kernel⟩
theorem o_b_powered : okSs tab b_powered ⟨[⟨#[98, 111, 111, 107]⟩, ⟨#[109, 101, 109, 98, 101, 114]⟩, ⟨#[111, 102, 116, 101, 110]⟩, ⟨#[104, 97, 108, 108]⟩, ⟨#[111, 119, 110]⟩], defScope (top 38), none⟩ (defBody (top 38)) = true := by decide +kernel
theorem f_b_powered {K : PySem.W.Frag} {mg : Str → Option Value} (c : He.SaysD (faOf tab cas) fnl K) : DefF tab (gOf ats cas K) K mg prog 26 d_b_powered (pss.getD 26 []) :=
  defF_of c 26 (d := e_b_powered) rfl rfl rfl rfl _ _ s_b_powered rfl rfl (by decide) rfl o_b_powered (fun kV doc pm an cdv ct us hl => match us, hl with | [_, _, _], _ => rfl) (fun n ks hm => .inl (plainPat (by decide +kernel) hm))
theorem s_b_turned_back : FnScope [⟨#[98, 111, 111, 107]⟩, ⟨#[109, 101, 109, 98, 101, 114]⟩, ⟨#[104, 97, 108, 108]⟩] [⟨#[98, 111, 111, 107]⟩, ⟨#[109, 101, 109, 98, 101, 114]⟩] (defScope (top 39)) := ⟨rfl, rfl, rfl, by decide +kernel, rfl, by decide +kernel, by decide +kernel⟩
theorem o_b_turned_back : okSs tab b_turned_back ⟨[⟨#[98, 111, 111, 107]⟩, ⟨#[109, 101, 109, 98, 101, 114]⟩, ⟨#[104, 97, 108, 108]⟩], defScope (top 39), none⟩ (defBody (top 39)) = true := by decide +kernel
theorem f_b_turned_back {K : PySem.W.Frag} {mg : Str → Option Value} (c : He.SaysD (faOf tab cas) fnl K) : DefF tab (gOf ats cas K) K mg prog 27 d_b_turned_back (pss.getD 27 []) :=
  defF_of c 27 (d := e_b_turned_back) rfl rfl rfl rfl _ _ s_b_turned_back rfl rfl (by decide) rfl o_b_turned_back (fun kV doc pm an cdv ct us hl => match us, hl with | [_, _], _ => rfl) (fun n ks hm => .inl (plainPat (by decide +kernel) hm))
theorem s_b_carried_by : FnScope [⟨#[98, 111, 111, 107]⟩, ⟨#[111, 110, 101]⟩, ⟨#[111, 116, 104, 101, 114]⟩, ⟨#[104, 97, 108, 108]⟩, ⟨#[110, 101, 97, 114]⟩] [⟨#[98, 111, 111, 107]⟩, ⟨#[111, 110, 101]⟩, ⟨#[111, 116, 104, 101, 114]⟩] (defScope (top 40)) := ⟨rfl, rfl, rfl, by decide +kernel, rfl, by decide +kernel, by decide +kernel⟩
theorem o_b_carried_by : okSs tab b_carried_by ⟨[⟨#[98, 111, 111, 107]⟩, ⟨#[111, 110, 101]⟩, ⟨#[111, 116, 104, 101, 114]⟩, ⟨#[104, 97, 108, 108]⟩, ⟨#[110, 101, 97, 114]⟩], defScope (top 40), none⟩ (defBody (top 40)) = true := by decide +kernel
theorem f_b_carried_by {K : PySem.W.Frag} {mg : Str → Option Value} (c : He.SaysD (faOf tab cas) fnl K) : DefF tab (gOf ats cas K) K mg prog 28 d_b_carried_by (pss.getD 28 []) :=
  defF_of c 28 (d := e_b_carried_by) rfl rfl rfl rfl _ _ s_b_carried_by rfl rfl (by decide) rfl o_b_carried_by (fun kV doc pm an cdv ct us hl => match us, hl with | [_, _, _], _ => rfl) (fun n ks hm => .inl (plainPat (by decide +kernel) hm))
theorem s_b_exchanged : FnScope [⟨#[98, 111, 111, 107]⟩, ⟨#[111, 110, 101]⟩, ⟨#[111, 116, 104, 101, 114]⟩, ⟨#[104, 97, 108, 108]⟩, ⟨#[110, 101, 97, 114]⟩] [⟨#[98, 111, 111, 107]⟩, ⟨#[111, 110, 101]⟩, ⟨#[111, 116, 104, 101, 114]⟩] (defScope (top 41)) := ⟨rfl, rfl, rfl, by decide +kernel, rfl, by decide +kernel, by decide +kernel⟩
theorem o_b_exchanged : okSs tab b_exchanged ⟨[⟨#[98, 111, 111, 107]⟩, ⟨#[111, 110, 101]⟩, ⟨#[111, 116, 104, 101, 114]⟩, ⟨#[104, 97, 108, 108]⟩, ⟨#[110, 101, 97, 114]⟩], defScope (top 41), none⟩ (defBody (top 41)) = true := by decide +kernel
theorem f_b_exchanged {K : PySem.W.Frag} {mg : Str → Option Value} (c : He.SaysD (faOf tab cas) fnl K) : DefF tab (gOf ats cas K) K mg prog 29 d_b_exchanged (pss.getD 29 []) :=
  defF_of c 29 (d := e_b_exchanged) rfl rfl rfl rfl _ _ s_b_exchanged rfl rfl (by decide) rfl o_b_exchanged (fun kV doc pm an cdv ct us hl => match us, hl with | [_, _, _], _ => rfl) (fun n ks hm => .inl (plainPat (by decide +kernel) hm))
theorem s_b_do_commute : FnScope [⟨#[98, 111, 111, 107]⟩, ⟨#[111, 110, 101]⟩, ⟨#[111, 116, 104, 101, 114]⟩, ⟨#[104, 97, 108, 108]⟩, ⟨#[110, 101, 97, 114]⟩] [⟨#[98, 111, 111, 107]⟩, ⟨#[111, 110, 101]⟩, ⟨#[111, 116, 104, 101, 114]⟩] (defScope (top 42)) := ⟨rfl, rfl, rfl, by decide +kernel, rfl, by decide +kernel, by decide +kernel⟩
theorem o_b_do_commute : okSs tab b_do_commute ⟨[⟨#[98, 111, 111, 107]⟩, ⟨#[111, 110, 101]⟩, ⟨#[111, 116, 104, 101, 114]⟩, ⟨#[104, 97, 108, 108]⟩, ⟨#[110, 101, 97, 114]⟩], defScope (top 42), none⟩ (defBody (top 42)) = true := by decide +kernel
theorem f_b_do_commute {K : PySem.W.Frag} {mg : Str → Option Value} (c : He.SaysD (faOf tab cas) fnl K) : DefF tab (gOf ats cas K) K mg prog 30 d_b_do_commute (pss.getD 30 []) :=
  defF_of c 30 (d := e_b_do_commute) rfl rfl rfl rfl _ _ s_b_do_commute rfl rfl (by decide) rfl o_b_do_commute (fun kV doc pm an cdv ct us hl => match us, hl with | [_, _, _], _ => rfl) (fun n ks hm => .inl (plainPat (by decide +kernel) hm))
theorem s_b_weights_in : FnScope [⟨#[98, 111, 111, 107]⟩, ⟨#[109, 97, 110, 121]⟩, ⟨#[102, 111, 117, 110, 100]⟩, ⟨#[104, 105, 103, 104]⟩, ⟨#[108, 111, 119]⟩, ⟨#[111, 110, 101]⟩] [⟨#[98, 111, 111, 107]⟩] (defScope (top 44)) := ⟨rfl, rfl, rfl, by decide +kernel, rfl, by decide +kernel, by decide +kernel⟩
theorem o_b_weights_in : okSs tab b_weights_in ⟨[⟨#[98, 111, 111, 107]⟩, ⟨#[109, 97, 110, 121]⟩, ⟨#[102, 111, 117, 110, 100]⟩, ⟨#[104, 105, 103, 104]⟩, ⟨#[108, 111, 119]⟩, ⟨#[111, 110, 101]⟩], defScope (top 44), none⟩ (defBody (top 44)) = true := by decide +kernel
theorem f_b_weights_in {K : PySem.W.Frag} {mg : Str → Option Value} (c : He.SaysD (faOf tab cas) fnl K) : DefF tab (gOf ats cas K) K mg prog 31 d_b_weights_in (pss.getD 31 []) :=
  defF_of c 31 (d := e_b_weights_in) rfl rfl rfl rfl _ _ s_b_weights_in rfl rfl (by decide) rfl o_b_weights_in (fun kV doc pm an cdv ct us hl => match us, hl with | [_], _ => rfl) (fun n ks hm => .inl (plainPat (by decide +kernel) hm))
theorem s_b_tops_of : FnScope [⟨#[119, 101, 105, 103, 104, 116, 115]⟩, ⟨#[109, 111, 115, 116]⟩, ⟨#[102, 111, 117, 110, 100]⟩, ⟨#[111, 119, 110]⟩, ⟨#[108, 97, 116, 101, 114]⟩, ⟨#[114, 111, 119]⟩, ⟨#[116, 111, 116, 97, 108]⟩, ⟨#[116, 111, 112]⟩] [⟨#[119, 101, 105, 103, 104, 116, 115]⟩, ⟨#[109, 111, 115, 116]⟩] (defScope (top 45)) := ⟨rfl, rfl, rfl, by decide +kernel, rfl, by decide +kernel, by decide +kernel⟩
theorem o_b_tops_of : okSs tab b_tops_of ⟨[⟨#[119, 101, 105, 103, 104, 116, 115]⟩, ⟨#[109, 111, 115, 116]⟩, ⟨#[102, 111, 117, 110, 100]⟩, ⟨#[111, 119, 110]⟩, ⟨#[108, 97, 116, 101, 114]⟩, ⟨#[114, 111, 119]⟩, ⟨#[116, 111, 116, 97, 108]⟩, ⟨#[116, 111, 112]⟩], defScope (top 45), none⟩ (defBody (top 45)) = true := by decide +kernel
theorem f_b_tops_of {K : PySem.W.Frag} {mg : Str → Option Value} (c : He.SaysD (faOf tab cas) fnl K) : DefF tab (gOf ats cas K) K mg prog 32 d_b_tops_of (pss.getD 32 []) :=
  defF_of c 32 (d := e_b_tops_of) rfl rfl rfl rfl _ _ s_b_tops_of rfl rfl (by decide) rfl o_b_tops_of (fun kV doc pm an cdv ct us hl => match us, hl with | [_, _], _ => rfl) (fun n ks hm => .inl (plainPat (by decide +kernel) hm))
theorem s_b_below : FnScope [⟨#[116, 111, 112, 115]⟩, ⟨#[102, 111, 117, 110, 100]⟩, ⟨#[111, 119, 110]⟩, ⟨#[114, 111, 119]⟩, ⟨#[109, 111, 114, 101]⟩] [⟨#[116, 111, 112, 115]⟩] (defScope (top 46)) := ⟨rfl, rfl, rfl, by decide +kernel, rfl, by decide +kernel, by decide +kernel⟩
theorem o_b_below : okSs tab b_below ⟨[⟨#[116, 111, 112, 115]⟩, ⟨#[102, 111, 117, 110, 100]⟩, ⟨#[111, 119, 110]⟩, ⟨#[114, 111, 119]⟩, ⟨#[109, 111, 114, 101]⟩], defScope (top 46), none⟩ (defBody (top 46)) = true := by decide +kernel
theorem f_b_below {K : PySem.W.Frag} {mg : Str → Option Value} (c : He.SaysD (faOf tab cas) fnl K) : DefF tab (gOf ats cas K) K mg prog 33 d_b_below (pss.getD 33 []) :=
  defF_of c 33 (d := e_b_below) rfl rfl rfl rfl _ _ s_b_below rfl rfl (by decide) rfl o_b_below (fun kV doc pm an cdv ct us hl => match us, hl with | [_], _ => rfl) (fun n ks hm => .inl (plainPat (by decide +kernel) hm))
theorem s_b_differences : FnScope [⟨#[118, 97, 108, 117, 101, 115]⟩, ⟨#[116, 111, 112, 115]⟩, ⟨#[102, 111, 117, 110, 100]⟩, ⟨#[114, 111, 119]⟩, ⟨#[111, 119, 110]⟩, ⟨#[116, 111, 112]⟩, ⟨#[105, 116, 115]⟩] [⟨#[118, 97, 108, 117, 101, 115]⟩, ⟨#[116, 111, 112, 115]⟩] (defScope (top 47)) := ⟨rfl, rfl, rfl, by decide +kernel, rfl, by decide +kernel, by decide +kernel⟩
theorem o_b_differences : okSs tab b_differences ⟨[⟨#[118, 97, 108, 117, 101, 115]⟩, ⟨#[116, 111, 112, 115]⟩, ⟨#[102, 111, 117, 110, 100]⟩, ⟨#[114, 111, 119]⟩, ⟨#[111, 119, 110]⟩, ⟨#[116, 111, 112]⟩, ⟨#[105, 116, 115]⟩], defScope (top 47), none⟩ (defBody (top 47)) = true := by decide +kernel
theorem f_b_differences {K : PySem.W.Frag} {mg : Str → Option Value} (c : He.SaysD (faOf tab cas) fnl K) : DefF tab (gOf ats cas K) K mg prog 34 d_b_differences (pss.getD 34 []) :=
  defF_of c 34 (d := e_b_differences) rfl rfl rfl rfl _ _ s_b_differences rfl rfl (by decide) rfl o_b_differences (fun kV doc pm an cdv ct us hl => match us, hl with | [_, _], _ => rfl) (fun n ks hm => .inl (plainPat (by decide +kernel) hm))
theorem s_b_fitted : FnScope [⟨#[118, 97, 108, 117, 101, 115]⟩, ⟨#[114, 111, 119, 115]⟩, ⟨#[112, 97, 105, 114, 115]⟩, ⟨#[114, 111, 119]⟩, ⟨#[111, 119, 110]⟩] [⟨#[118, 97, 108, 117, 101, 115]⟩, ⟨#[114, 111, 119, 115]⟩] (defScope (top 48)) := ⟨rfl, rfl, rfl, by decide +kernel, rfl, by decide +kernel, by decide +kernel⟩
theorem o_b_fitted : okSs tab b_fitted ⟨[⟨#[118, 97, 108, 117, 101, 115]⟩, ⟨#[114, 111, 119, 115]⟩, ⟨#[112, 97, 105, 114, 115]⟩, ⟨#[114, 111, 119]⟩, ⟨#[111, 119, 110]⟩], defScope (top 48), none⟩ (defBody (top 48)) = true := by decide +kernel
theorem f_b_fitted {K : PySem.W.Frag} {mg : Str → Option Value} (c : He.SaysD (faOf tab cas) fnl K) : DefF tab (gOf ats cas K) K mg prog 35 d_b_fitted (pss.getD 35 []) :=
  defF_of c 35 (d := e_b_fitted) rfl rfl rfl rfl _ _ s_b_fitted rfl rfl (by decide) rfl o_b_fitted (fun kV doc pm an cdv ct us hl => match us, hl with | [_, _], _ => rfl) (fun n ks hm => .inl (plainPat (by decide +kernel) hm))
theorem s_b_product_polys : FnScope [⟨#[104, 97, 108, 108]⟩, ⟨#[116, 111, 112]⟩, ⟨#[118, 97, 108, 117, 101, 115]⟩, ⟨#[114, 111, 119]⟩, ⟨#[112, 108, 97, 99, 101]⟩, ⟨#[119, 101, 105, 103, 104, 116, 115]⟩, ⟨#[102, 111, 117, 110, 100]⟩, ⟨#[114, 111, 119, 115]⟩] [⟨#[104, 97, 108, 108]⟩] (defScope (top 49)) := ⟨rfl, rfl, rfl, by decide +kernel, rfl, by decide +kernel, by decide +kernel⟩
theorem o_b_product_polys : okSs tab b_product_polys ⟨[⟨#[104, 97, 108, 108]⟩, ⟨#[116, 111, 112]⟩, ⟨#[118, 97, 108, 117, 101, 115]⟩, ⟨#[114, 111, 119]⟩, ⟨#[112, 108, 97, 99, 101]⟩, ⟨#[119, 101, 105, 103, 104, 116, 115]⟩, ⟨#[102, 111, 117, 110, 100]⟩, ⟨#[114, 111, 119, 115]⟩], defScope (top 49), none⟩ (defBody (top 49)) = true := by decide +kernel
theorem f_b_product_polys {K : PySem.W.Frag} {mg : Str → Option Value} (c : He.SaysD (faOf tab cas) fnl K) : DefF tab (gOf ats cas K) K mg prog 36 d_b_product_polys (pss.getD 36 []) :=
  defF_of c 36 (d := e_b_product_polys) rfl rfl rfl rfl _ _ s_b_product_polys rfl rfl (by decide) rfl o_b_product_polys (fun kV doc pm an cdv ct us hl => match us, hl with | [_], _ => rfl) (fun n ks hm => .inl (plainPat (by decide +kernel) hm))
theorem s_b_power_polys : FnScope [⟨#[104, 97, 108, 108]⟩, ⟨#[112, 108, 97, 99, 101]⟩, ⟨#[119, 101, 105, 103, 104, 116, 115]⟩, ⟨#[102, 111, 117, 110, 100]⟩, ⟨#[114, 111, 119, 115]⟩, ⟨#[118, 97, 108, 117, 101, 115]⟩, ⟨#[114, 111, 119]⟩] [⟨#[104, 97, 108, 108]⟩] (defScope (top 50)) := ⟨rfl, rfl, rfl, by decide +kernel, rfl, by decide +kernel, by decide +kernel⟩
theorem o_b_power_polys : okSs tab b_power_polys ⟨[⟨#[104, 97, 108, 108]⟩, ⟨#[112, 108, 97, 99, 101]⟩, ⟨#[119, 101, 105, 103, 104, 116, 115]⟩, ⟨#[102, 111, 117, 110, 100]⟩, ⟨#[114, 111, 119, 115]⟩, ⟨#[118, 97, 108, 117, 101, 115]⟩, ⟨#[114, 111, 119]⟩], defScope (top 50), none⟩ (defBody (top 50)) = true := by decide +kernel
theorem f_b_power_polys {K : PySem.W.Frag} {mg : Str → Option Value} (c : He.SaysD (faOf tab cas) fnl K) : DefF tab (gOf ats cas K) K mg prog 37 d_b_power_polys (pss.getD 37 []) :=
  defF_of c 37 (d := e_b_power_polys) rfl rfl rfl rfl _ _ s_b_power_polys rfl rfl (by decide) rfl o_b_power_polys (fun kV doc pm an cdv ct us hl => match us, hl with | [_], _ => rfl) (fun n ks hm => .inl (plainPat (by decide +kernel) hm))
theorem s_b_sure_endless : FnScope [⟨#[118, 97, 108, 117, 101]⟩, ⟨#[111, 119, 110]⟩, ⟨#[111, 114, 100, 101, 114]⟩] [⟨#[118, 97, 108, 117, 101]⟩] (defScope (top 51)) := ⟨rfl, rfl, rfl, by decide +kernel, rfl, by decide +kernel, by decide +kernel⟩
theorem o_b_sure_endless : okSs tab b_sure_endless ⟨[⟨#[118, 97, 108, 117, 101]⟩, ⟨#[111, 119, 110]⟩, ⟨#[111, 114, 100, 101, 114]⟩], defScope (top 51), none⟩ (defBody (top 51)) = true := by decide +kernel
theorem f_b_sure_endless {K : PySem.W.Frag} {mg : Str → Option Value} (c : He.SaysD (faOf tab cas) fnl K) : DefF tab (gOf ats cas K) K mg prog 38 d_b_sure_endless (pss.getD 38 []) :=
  defF_of c 38 (d := e_b_sure_endless) rfl rfl rfl rfl _ _ s_b_sure_endless rfl rfl (by decide) rfl o_b_sure_endless (fun kV doc pm an cdv ct us hl => match us, hl with | [_], _ => rfl) (fun n ks hm => .inl (plainPat (by decide +kernel) hm))
theorem s_b_letter_weights : FnScope [⟨#[98, 111, 111, 107]⟩] [⟨#[98, 111, 111, 107]⟩] (defScope (top 52)) := ⟨rfl, rfl, rfl, by decide +kernel, rfl, by decide +kernel, by decide +kernel⟩
theorem o_b_letter_weights : okSs tab b_letter_weights ⟨[⟨#[98, 111, 111, 107]⟩], defScope (top 52), none⟩ (defBody (top 52)) = true := by decide +kernel
theorem f_b_letter_weights {K : PySem.W.Frag} {mg : Str → Option Value} (c : He.SaysD (faOf tab cas) fnl K) : DefF tab (gOf ats cas K) K mg prog 39 d_b_letter_weights (pss.getD 39 []) :=
  defF_of c 39 (d := e_b_letter_weights) rfl rfl rfl rfl _ _ s_b_letter_weights rfl rfl (by decide) rfl o_b_letter_weights (fun kV doc pm an cdv ct us hl => match us, hl with | [_], _ => rfl) (fun n ks hm => .inl (plainPat (by decide +kernel) hm))
theorem s_b_product_row : FnScope [⟨#[98, 111, 111, 107]⟩] [⟨#[98, 111, 111, 107]⟩] (defScope (top 53)) := ⟨rfl, rfl, rfl, by decide +kernel, rfl, by decide +kernel, by decide +kernel⟩
theorem o_b_product_row : okSs tab b_product_row ⟨[⟨#[98, 111, 111, 107]⟩], defScope (top 53), none⟩ (defBody (top 53)) = true := by decide +kernel
theorem f_b_product_row {K : PySem.W.Frag} {mg : Str → Option Value} (c : He.SaysD (faOf tab cas) fnl K) : DefF tab (gOf ats cas K) K mg prog 40 d_b_product_row (pss.getD 40 []) :=
  defF_of c 40 (d := e_b_product_row) rfl rfl rfl rfl _ _ s_b_product_row rfl rfl (by decide) rfl o_b_product_row (fun kV doc pm an cdv ct us hl => match us, hl with | [_], _ => rfl) (fun n ks hm => .inl (plainPat (by decide +kernel) hm))
theorem s_b_power_row : FnScope [⟨#[98, 111, 111, 107]⟩] [⟨#[98, 111, 111, 107]⟩] (defScope (top 54)) := ⟨rfl, rfl, rfl, by decide +kernel, rfl, by decide +kernel, by decide +kernel⟩
theorem o_b_power_row : okSs tab b_power_row ⟨[⟨#[98, 111, 111, 107]⟩], defScope (top 54), none⟩ (defBody (top 54)) = true := by decide +kernel
theorem f_b_power_row {K : PySem.W.Frag} {mg : Str → Option Value} (c : He.SaysD (faOf tab cas) fnl K) : DefF tab (gOf ats cas K) K mg prog 41 d_b_power_row (pss.getD 41 []) :=
  defF_of c 41 (d := e_b_power_row) rfl rfl rfl rfl _ _ s_b_power_row rfl rfl (by decide) rfl o_b_power_row (fun kV doc pm an cdv ct us hl => match us, hl with | [_], _ => rfl) (fun n ks hm => .inl (plainPat (by decide +kernel) hm))
theorem s_b_size_of : FnScope [⟨#[111, 114, 100, 101, 114, 115]⟩, ⟨#[102, 111, 117, 110, 100]⟩, ⟨#[111, 119, 110]⟩] [⟨#[111, 114, 100, 101, 114, 115]⟩] (defScope (top 56)) := ⟨rfl, rfl, rfl, by decide +kernel, rfl, by decide +kernel, by decide +kernel⟩
theorem o_b_size_of : okSs tab b_size_of ⟨[⟨#[111, 114, 100, 101, 114, 115]⟩, ⟨#[102, 111, 117, 110, 100]⟩, ⟨#[111, 119, 110]⟩], defScope (top 56), none⟩ (defBody (top 56)) = true := by decide +kernel
theorem f_b_size_of {K : PySem.W.Frag} {mg : Str → Option Value} (c : He.SaysD (faOf tab cas) fnl K) : DefF tab (gOf ats cas K) K mg prog 42 d_b_size_of (pss.getD 42 []) :=
  defF_of c 42 (d := e_b_size_of) rfl rfl rfl rfl _ _ s_b_size_of rfl rfl (by decide) rfl o_b_size_of (fun kV doc pm an cdv ct us hl => match us, hl with | [_], _ => rfl) (fun n ks hm => .inl (plainPat (by decide +kernel) hm))
theorem s_b_book_size : FnScope [⟨#[98, 111, 111, 107]⟩, ⟨#[111, 119, 110]⟩] [⟨#[98, 111, 111, 107]⟩] (defScope (top 57)) := ⟨rfl, rfl, rfl, by decide +kernel, rfl, by decide +kernel, by decide +kernel⟩
theorem o_b_book_size : okSs tab b_book_size ⟨[⟨#[98, 111, 111, 107]⟩, ⟨#[111, 119, 110]⟩], defScope (top 57), none⟩ (defBody (top 57)) = true := by decide +kernel
theorem f_b_book_size {K : PySem.W.Frag} {mg : Str → Option Value} (c : He.SaysD (faOf tab cas) fnl K) : DefF tab (gOf ats cas K) K mg prog 43 d_b_book_size (pss.getD 43 []) :=
  defF_of c 43 (d := e_b_book_size) rfl rfl rfl rfl _ _ s_b_book_size rfl rfl (by decide) rfl o_b_book_size (fun kV doc pm an cdv ct us hl => match us, hl with | [_], _ => rfl) (fun n ks hm => .inl (plainPat (by decide +kernel) hm))
theorem s_b_order_in : FnScope [⟨#[104, 97, 108, 108]⟩, ⟨#[109, 101, 109, 98, 101, 114]⟩, ⟨#[102, 111, 117, 110, 100]⟩, ⟨#[112, 108, 97, 99, 101]⟩, ⟨#[111, 114, 100, 101, 114]⟩, ⟨#[111, 102, 116, 101, 110]⟩] [⟨#[104, 97, 108, 108]⟩, ⟨#[109, 101, 109, 98, 101, 114]⟩] (defScope (top 61)) := ⟨rfl, rfl, rfl, by decide +kernel, rfl, by decide +kernel, by decide +kernel⟩
theorem o_b_order_in : okSs tab b_order_in ⟨[⟨#[104, 97, 108, 108]⟩, ⟨#[109, 101, 109, 98, 101, 114]⟩, ⟨#[102, 111, 117, 110, 100]⟩, ⟨#[112, 108, 97, 99, 101]⟩, ⟨#[111, 114, 100, 101, 114]⟩, ⟨#[111, 102, 116, 101, 110]⟩], defScope (top 61), none⟩ (defBody (top 61)) = true := by decide +kernel
theorem f_b_order_in {K : PySem.W.Frag} {mg : Str → Option Value} (c : He.SaysD (faOf tab cas) fnl K) : DefF tab (gOf ats cas K) K mg prog 44 d_b_order_in (pss.getD 44 []) :=
  defF_of c 44 (d := e_b_order_in) rfl rfl rfl rfl _ _ s_b_order_in rfl rfl (by decide) rfl o_b_order_in (fun kV doc pm an cdv ct us hl => match us, hl with | [_, _], _ => rfl) (fun n ks hm => .inl (plainPat (by decide +kernel) hm))
theorem s_b_steps_at : FnScope [⟨#[103, 97, 112]⟩, ⟨#[116, 105, 109, 101, 115]⟩, ⟨#[111, 114, 100, 101, 114]⟩, ⟨#[111, 119, 110]⟩] [⟨#[103, 97, 112]⟩, ⟨#[116, 105, 109, 101, 115]⟩, ⟨#[111, 114, 100, 101, 114]⟩] (defScope (top 62)) := ⟨rfl, rfl, rfl, by decide +kernel, rfl, by decide +kernel, by decide +kernel⟩
theorem o_b_steps_at : okSs tab b_steps_at ⟨[⟨#[103, 97, 112]⟩, ⟨#[116, 105, 109, 101, 115]⟩, ⟨#[111, 114, 100, 101, 114]⟩, ⟨#[111, 119, 110]⟩], defScope (top 62), none⟩ (defBody (top 62)) = true := by decide +kernel
theorem f_b_steps_at {K : PySem.W.Frag} {mg : Str → Option Value} (c : He.SaysD (faOf tab cas) fnl K) : DefF tab (gOf ats cas K) K mg prog 45 d_b_steps_at (pss.getD 45 []) :=
  defF_of c 45 (d := e_b_steps_at) rfl rfl rfl rfl _ _ s_b_steps_at rfl rfl (by decide) rfl o_b_steps_at (fun kV doc pm an cdv ct us hl => match us, hl with | [_, _, _], _ => rfl) (fun n ks hm => .inl (plainPat (by decide +kernel) hm))
theorem s_b_roots_in : FnScope [⟨#[104, 97, 108, 108]⟩, ⟨#[109, 101, 109, 98, 101, 114]⟩, ⟨#[116, 105, 109, 101, 115]⟩, ⟨#[102, 111, 117, 110, 100]⟩, ⟨#[112, 108, 97, 99, 101]⟩, ⟨#[108, 97, 116, 101, 114]⟩, ⟨#[111, 119, 110]⟩, ⟨#[103, 97, 112]⟩, ⟨#[115, 116, 101, 112, 115]⟩, ⟨#[109, 111, 114, 101]⟩] [⟨#[104, 97, 108, 108]⟩, ⟨#[109, 101, 109, 98, 101, 114]⟩, ⟨#[116, 105, 109, 101, 115]⟩] (defScope (top 63)) := ⟨rfl, rfl, rfl, by decide +kernel, rfl, by decide +kernel, by decide +kernel⟩
theorem o_b_roots_in : okSs tab b_roots_in ⟨[⟨#[104, 97, 108, 108]⟩, ⟨#[109, 101, 109, 98, 101, 114]⟩, ⟨#[116, 105, 109, 101, 115]⟩, ⟨#[102, 111, 117, 110, 100]⟩, ⟨#[112, 108, 97, 99, 101]⟩, ⟨#[108, 97, 116, 101, 114]⟩, ⟨#[111, 119, 110]⟩, ⟨#[103, 97, 112]⟩, ⟨#[115, 116, 101, 112, 115]⟩, ⟨#[109, 111, 114, 101]⟩], defScope (top 63), none⟩ (defBody (top 63)) = true := by decide +kernel
theorem f_b_roots_in {K : PySem.W.Frag} {mg : Str → Option Value} (c : He.SaysD (faOf tab cas) fnl K) : DefF tab (gOf ats cas K) K mg prog 46 d_b_roots_in (pss.getD 46 []) :=
  defF_of c 46 (d := e_b_roots_in) rfl rfl rfl rfl _ _ s_b_roots_in rfl rfl (by decide) rfl o_b_roots_in (fun kV doc pm an cdv ct us hl => match us, hl with | [_, _, _], _ => rfl) (fun n ks hm => .inl (plainPat (by decide +kernel) hm))
theorem s_b_first_gap : FnScope [⟨#[104, 97, 108, 108]⟩, ⟨#[109, 101, 109, 98, 101, 114]⟩, ⟨#[116, 105, 109, 101, 115]⟩, ⟨#[102, 111, 117, 110, 100]⟩, ⟨#[112, 108, 97, 99, 101]⟩, ⟨#[108, 97, 116, 101, 114]⟩, ⟨#[111, 119, 110]⟩, ⟨#[103, 97, 112]⟩, ⟨#[115, 116, 101, 112, 115]⟩, ⟨#[109, 111, 114, 101]⟩] [⟨#[104, 97, 108, 108]⟩, ⟨#[109, 101, 109, 98, 101, 114]⟩, ⟨#[116, 105, 109, 101, 115]⟩] (defScope (top 64)) := ⟨rfl, rfl, rfl, by decide +kernel, rfl, by decide +kernel, by decide +kernel⟩
theorem o_b_first_gap : okSs tab b_first_gap ⟨[⟨#[104, 97, 108, 108]⟩, ⟨#[109, 101, 109, 98, 101, 114]⟩, ⟨#[116, 105, 109, 101, 115]⟩, ⟨#[102, 111, 117, 110, 100]⟩, ⟨#[112, 108, 97, 99, 101]⟩, ⟨#[108, 97, 116, 101, 114]⟩, ⟨#[111, 119, 110]⟩, ⟨#[103, 97, 112]⟩, ⟨#[115, 116, 101, 112, 115]⟩, ⟨#[109, 111, 114, 101]⟩], defScope (top 64), none⟩ (defBody (top 64)) = true := by decide +kernel
theorem f_b_first_gap {K : PySem.W.Frag} {mg : Str → Option Value} (c : He.SaysD (faOf tab cas) fnl K) : DefF tab (gOf ats cas K) K mg prog 47 d_b_first_gap (pss.getD 47 []) :=
  defF_of c 47 (d := e_b_first_gap) rfl rfl rfl rfl _ _ s_b_first_gap rfl rfl (by decide) rfl o_b_first_gap (fun kV doc pm an cdv ct us hl => match us, hl with | [_, _, _], _ => rfl) (fun n ks hm => .inl (plainPat (by decide +kernel) hm))
theorem s_b_member_order : FnScope [⟨#[98, 111, 111, 107]⟩, ⟨#[109, 101, 109, 98, 101, 114]⟩, ⟨#[104, 97, 108, 108]⟩] [⟨#[98, 111, 111, 107]⟩, ⟨#[109, 101, 109, 98, 101, 114]⟩] (defScope (top 65)) := ⟨rfl, rfl, rfl, by decide +kernel, rfl, by decide +kernel, by decide +kernel⟩
theorem o_b_member_order : okSs tab b_member_order ⟨[⟨#[98, 111, 111, 107]⟩, ⟨#[109, 101, 109, 98, 101, 114]⟩, ⟨#[104, 97, 108, 108]⟩], defScope (top 65), none⟩ (defBody (top 65)) = true := by decide +kernel
theorem f_b_member_order {K : PySem.W.Frag} {mg : Str → Option Value} (c : He.SaysD (faOf tab cas) fnl K) : DefF tab (gOf ats cas K) K mg prog 48 d_b_member_order (pss.getD 48 []) :=
  defF_of c 48 (d := e_b_member_order) rfl rfl rfl rfl _ _ s_b_member_order rfl rfl (by decide) rfl o_b_member_order (fun kV doc pm an cdv ct us hl => match us, hl with | [_, _], _ => rfl) (fun n ks hm => .inl (plainPat (by decide +kernel) hm))
theorem s_b_roots : FnScope [⟨#[98, 111, 111, 107]⟩, ⟨#[109, 101, 109, 98, 101, 114]⟩, ⟨#[111, 102, 116, 101, 110]⟩, ⟨#[104, 97, 108, 108]⟩, ⟨#[111, 119, 110]⟩] [⟨#[98, 111, 111, 107]⟩, ⟨#[109, 101, 109, 98, 101, 114]⟩, ⟨#[111, 102, 116, 101, 110]⟩] (defScope (top 66)) := ⟨rfl, rfl, rfl, by decide +kernel, rfl, by decide +kernel, by decide +kernel⟩
theorem o_b_roots : okSs tab b_roots ⟨[⟨#[98, 111, 111, 107]⟩, ⟨#[109, 101, 109, 98, 101, 114]⟩, ⟨#[111, 102, 116, 101, 110]⟩, ⟨#[104, 97, 108, 108]⟩, ⟨#[111, 119, 110]⟩], defScope (top 66), none⟩ (defBody (top 66)) = true := by decide +kernel
theorem f_b_roots {K : PySem.W.Frag} {mg : Str → Option Value} (c : He.SaysD (faOf tab cas) fnl K) : DefF tab (gOf ats cas K) K mg prog 49 d_b_roots (pss.getD 49 []) :=
  defF_of c 49 (d := e_b_roots) rfl rfl rfl rfl _ _ s_b_roots rfl rfl (by decide) rfl o_b_roots (fun kV doc pm an cdv ct us hl => match us, hl with | [_, _, _], _ => rfl) (fun n ks hm => .inl (plainPat (by decide +kernel) hm))
theorem s_b_root : FnScope [⟨#[98, 111, 111, 107]⟩, ⟨#[109, 101, 109, 98, 101, 114]⟩, ⟨#[111, 102, 116, 101, 110]⟩, ⟨#[104, 97, 108, 108]⟩, ⟨#[111, 119, 110]⟩, ⟨#[116, 105, 109, 101, 115]⟩, ⟨#[102, 111, 117, 110, 100]⟩, ⟨#[111, 114, 100, 101, 114]⟩] [⟨#[98, 111, 111, 107]⟩, ⟨#[109, 101, 109, 98, 101, 114]⟩, ⟨#[111, 102, 116, 101, 110]⟩] (defScope (top 67)) := ⟨rfl, rfl, rfl, by decide +kernel, rfl, by decide +kernel, by decide +kernel⟩
theorem o_b_root : okSs tab b_root ⟨[⟨#[98, 111, 111, 107]⟩, ⟨#[109, 101, 109, 98, 101, 114]⟩, ⟨#[111, 102, 116, 101, 110]⟩, ⟨#[104, 97, 108, 108]⟩, ⟨#[111, 119, 110]⟩, ⟨#[116, 105, 109, 101, 115]⟩, ⟨#[102, 111, 117, 110, 100]⟩, ⟨#[111, 114, 100, 101, 114]⟩], defScope (top 67), none⟩ (defBody (top 67)) = true := by decide +kernel
theorem f_b_root {K : PySem.W.Frag} {mg : Str → Option Value} (c : He.SaysD (faOf tab cas) fnl K) : DefF tab (gOf ats cas K) K mg prog 50 d_b_root (pss.getD 50 []) :=
  defF_of c 50 (d := e_b_root) rfl rfl rfl rfl _ _ s_b_root rfl rfl (by decide) rfl o_b_root (fun kV doc pm an cdv ct us hl => match us, hl with | [_, _, _], _ => rfl) (fun n ks hm => .inl (plainPat (by decide +kernel) hm))
theorem s_b_is_root : FnScope [⟨#[98, 111, 111, 107]⟩, ⟨#[109, 101, 109, 98, 101, 114]⟩, ⟨#[111, 102, 116, 101, 110]⟩, ⟨#[116, 104, 105, 110, 103]⟩, ⟨#[104, 97, 108, 108]⟩, ⟨#[111, 119, 110]⟩, ⟨#[116, 105, 109, 101, 115]⟩] [⟨#[98, 111, 111, 107]⟩, ⟨#[109, 101, 109, 98, 101, 114]⟩, ⟨#[111, 102, 116, 101, 110]⟩, ⟨#[116, 104, 105, 110, 103]⟩] (defScope (top 68)) := ⟨rfl, rfl, rfl, by decide +kernel, rfl, by decide +kernel, by decide +kernel⟩
theorem o_b_is_root : okSs tab b_is_root ⟨[⟨#[98, 111, 111, 107]⟩, ⟨#[109, 101, 109, 98, 101, 114]⟩, ⟨#[111, 102, 116, 101, 110]⟩, ⟨#[116, 104, 105, 110, 103]⟩, ⟨#[104, 97, 108, 108]⟩, ⟨#[111, 119, 110]⟩, ⟨#[116, 105, 109, 101, 115]⟩], defScope (top 68), none⟩ (defBody (top 68)) = true := by decide +kernel
theorem f_b_is_root {K : PySem.W.Frag} {mg : Str → Option Value} (c : He.SaysD (faOf tab cas) fnl K) : DefF tab (gOf ats cas K) K mg prog 51 d_b_is_root (pss.getD 51 []) :=
  defF_of c 51 (d := e_b_is_root) rfl rfl rfl rfl _ _ s_b_is_root rfl rfl (by decide) rfl o_b_is_root (fun kV doc pm an cdv ct us hl => match us, hl with | [_, _, _, _], _ => rfl) (fun n ks hm => .inl (plainPat (by decide +kernel) hm))
theorem s_b_why_no_root : FnScope [⟨#[98, 111, 111, 107]⟩, ⟨#[109, 101, 109, 98, 101, 114]⟩, ⟨#[111, 102, 116, 101, 110]⟩, ⟨#[104, 97, 108, 108]⟩, ⟨#[111, 119, 110]⟩, ⟨#[116, 105, 109, 101, 115]⟩, ⟨#[102, 111, 117, 110, 100]⟩, ⟨#[111, 114, 100, 101, 114]⟩] [⟨#[98, 111, 111, 107]⟩, ⟨#[109, 101, 109, 98, 101, 114]⟩, ⟨#[111, 102, 116, 101, 110]⟩] (defScope (top 69)) := ⟨rfl, rfl, rfl, by decide +kernel, rfl, by decide +kernel, by decide +kernel⟩
theorem o_b_why_no_root : okSs tab b_why_no_root ⟨[⟨#[98, 111, 111, 107]⟩, ⟨#[109, 101, 109, 98, 101, 114]⟩, ⟨#[111, 102, 116, 101, 110]⟩, ⟨#[104, 97, 108, 108]⟩, ⟨#[111, 119, 110]⟩, ⟨#[116, 105, 109, 101, 115]⟩, ⟨#[102, 111, 117, 110, 100]⟩, ⟨#[111, 114, 100, 101, 114]⟩], defScope (top 69), none⟩ (defBody (top 69)) = true := by decide +kernel
theorem f_b_why_no_root {K : PySem.W.Frag} {mg : Str → Option Value} (c : He.SaysD (faOf tab cas) fnl K) : DefF tab (gOf ats cas K) K mg prog 52 d_b_why_no_root (pss.getD 52 []) :=
  defF_of c 52 (d := e_b_why_no_root) rfl rfl rfl rfl _ _ s_b_why_no_root rfl rfl (by decide) rfl o_b_why_no_root (fun kV doc pm an cdv ct us hl => match us, hl with | [_, _, _], _ => rfl) (fun n ks hm => .inl (plainPat (by decide +kernel) hm))
theorem s_b_law_box : FnScope [⟨#[115, 99, 114, 105, 112, 116]⟩, ⟨#[107]⟩, ⟨#[98, 105, 116, 95, 115, 111]⟩] [⟨#[115, 99, 114, 105, 112, 116]⟩, ⟨#[107]⟩] (defScope (top 71)) := ⟨rfl, rfl, rfl, by decide +kernel, rfl, by decide +kernel, by decide +kernel⟩
theorem o_b_law_box : okSs tab b_law_box ⟨[⟨#[115, 99, 114, 105, 112, 116]⟩, ⟨#[107]⟩, ⟨#[98, 105, 116, 95, 115, 111]⟩], defScope (top 71), none⟩ (defBody (top 71)) = true := by decide +kernel
theorem f_b_law_box {K : PySem.W.Frag} {mg : Str → Option Value} (c : He.SaysD (faOf tab cas) fnl K) : DefF tab (gOf ats cas K) K mg prog 53 d_b_law_box (pss.getD 53 []) :=
  defF_of c 53 (d := e_b_law_box) rfl rfl rfl rfl _ _ s_b_law_box rfl rfl (by decide) rfl o_b_law_box (fun kV doc pm an cdv ct us hl => match us, hl with | [_, _], _ => rfl) (fun n ks hm => .inl (plainPat (by decide +kernel) hm))
theorem s_b_law_take : FnScope [⟨#[116, 105, 110]⟩, ⟨#[98, 101, 108, 111, 119, 95, 115, 111]⟩, ⟨#[111, 110, 99, 101, 95, 115, 111]⟩, ⟨#[119, 105, 100, 101, 95, 115, 111]⟩, ⟨#[116, 119, 105, 99, 101, 95, 115, 111]⟩, ⟨#[100, 114, 97, 119, 110, 95, 115, 111]⟩] [⟨#[116, 105, 110]⟩, ⟨#[98, 101, 108, 111, 119, 95, 115, 111]⟩] (defScope (top 72)) := ⟨rfl, rfl, rfl, by decide +kernel, rfl, by decide +kernel, by decide +kernel⟩
theorem o_b_law_take : okSs tab b_law_take ⟨[⟨#[116, 105, 110]⟩, ⟨#[98, 101, 108, 111, 119, 95, 115, 111]⟩, ⟨#[111, 110, 99, 101, 95, 115, 111]⟩, ⟨#[119, 105, 100, 101, 95, 115, 111]⟩, ⟨#[116, 119, 105, 99, 101, 95, 115, 111]⟩, ⟨#[100, 114, 97, 119, 110, 95, 115, 111]⟩], defScope (top 72), none⟩ (defBody (top 72)) = true := by decide +kernel
theorem f_b_law_take {K : PySem.W.Frag} {mg : Str → Option Value} (c : He.SaysD (faOf tab cas) fnl K) : DefF tab (gOf ats cas K) K mg prog 54 d_b_law_take (pss.getD 54 []) :=
  defF_of c 54 (d := e_b_law_take) rfl rfl rfl rfl _ _ s_b_law_take rfl rfl (by decide) rfl o_b_law_take (fun kV doc pm an cdv ct us hl => match us, hl with | [_, _], _ => rfl) (fun n ks hm => .inl (plainPat (by decide +kernel) hm))
theorem s_b_law_cells : FnScope [⟨#[115, 99, 114, 105, 112, 116]⟩, ⟨#[109, 111, 115, 116, 95, 115, 111]⟩, ⟨#[99, 101, 108, 108, 115, 95, 115, 111]⟩, ⟨#[107]⟩, ⟨#[98, 105, 116, 95, 115, 111]⟩, ⟨#[97, 116, 95, 115, 111]⟩] [⟨#[115, 99, 114, 105, 112, 116]⟩, ⟨#[109, 111, 115, 116, 95, 115, 111]⟩] (defScope (top 73)) := ⟨rfl, rfl, rfl, by decide +kernel, rfl, by decide +kernel, by decide +kernel⟩
theorem o_b_law_cells : okSs tab b_law_cells ⟨[⟨#[115, 99, 114, 105, 112, 116]⟩, ⟨#[109, 111, 115, 116, 95, 115, 111]⟩, ⟨#[99, 101, 108, 108, 115, 95, 115, 111]⟩, ⟨#[107]⟩, ⟨#[98, 105, 116, 95, 115, 111]⟩, ⟨#[97, 116, 95, 115, 111]⟩], defScope (top 73), none⟩ (defBody (top 73)) = true := by decide +kernel
theorem f_b_law_cells {K : PySem.W.Frag} {mg : Str → Option Value} (c : He.SaysD (faOf tab cas) fnl K) : DefF tab (gOf ats cas K) K mg prog 55 d_b_law_cells (pss.getD 55 []) :=
  defF_of c 55 (d := e_b_law_cells) rfl rfl rfl rfl _ _ s_b_law_cells rfl rfl (by decide) rfl o_b_law_cells (fun kV doc pm an cdv ct us hl => match us, hl with | [_, _], _ => rfl) (fun n ks hm => .inl (plainPat (by decide +kernel) hm))
theorem s_b_law_pick : FnScope [⟨#[116, 105, 110]⟩, ⟨#[103, 111, 111, 100, 115, 95, 115, 111]⟩, ⟨#[99, 111, 117, 110, 116, 95, 115, 111]⟩, ⟨#[108, 97, 112]⟩, ⟨#[112, 111, 111, 108, 95, 115, 111]⟩, ⟨#[102, 111, 117, 110, 100]⟩] [⟨#[116, 105, 110]⟩, ⟨#[103, 111, 111, 100, 115, 95, 115, 111]⟩, ⟨#[99, 111, 117, 110, 116, 95, 115, 111]⟩] (defScope (top 74)) := ⟨rfl, rfl, rfl, by decide +kernel, rfl, by decide +kernel, by decide +kernel⟩
theorem o_b_law_pick : okSs tab b_law_pick ⟨[⟨#[116, 105, 110]⟩, ⟨#[103, 111, 111, 100, 115, 95, 115, 111]⟩, ⟨#[99, 111, 117, 110, 116, 95, 115, 111]⟩, ⟨#[108, 97, 112]⟩, ⟨#[112, 111, 111, 108, 95, 115, 111]⟩, ⟨#[102, 111, 117, 110, 100]⟩], defScope (top 74), none⟩ (defBody (top 74)) = true := by decide +kernel
theorem f_b_law_pick {K : PySem.W.Frag} {mg : Str → Option Value} (c : He.SaysD (faOf tab cas) fnl K) : DefF tab (gOf ats cas K) K mg prog 56 d_b_law_pick (pss.getD 56 []) :=
  defF_of c 56 (d := e_b_law_pick) rfl rfl rfl rfl _ _ s_b_law_pick rfl rfl (by decide) rfl o_b_law_pick (fun kV doc pm an cdv ct us hl => match us, hl with | [_, _, _], _ => rfl) (fun n ks hm => .inl (plainPat (by decide +kernel) hm))
theorem s_b_law_same : FnScope [⟨#[103, 111, 116]⟩, ⟨#[100, 117, 101]⟩, ⟨#[109, 105, 110, 101]⟩, ⟨#[105, 116, 115]⟩] [⟨#[103, 111, 116]⟩, ⟨#[100, 117, 101]⟩] (defScope (top 75)) := ⟨rfl, rfl, rfl, by decide +kernel, rfl, by decide +kernel, by decide +kernel⟩
theorem o_b_law_same : okSs tab b_law_same ⟨[⟨#[103, 111, 116]⟩, ⟨#[100, 117, 101]⟩, ⟨#[109, 105, 110, 101]⟩, ⟨#[105, 116, 115]⟩], defScope (top 75), none⟩ (defBody (top 75)) = true := by decide +kernel
theorem f_b_law_same {K : PySem.W.Frag} {mg : Str → Option Value} (c : He.SaysD (faOf tab cas) fnl K) : DefF tab (gOf ats cas K) K mg prog 57 d_b_law_same (pss.getD 57 []) :=
  defF_of c 57 (d := e_b_law_same) rfl rfl rfl rfl _ _ s_b_law_same rfl rfl (by decide) rfl o_b_law_same (fun kV doc pm an cdv ct us hl => match us, hl with | [_, _], _ => rfl) (fun n ks hm => .inl (plainPat (by decide +kernel) hm))
theorem s_b_law_unmarked : FnScope [⟨#[116, 111, 108, 100, 95, 115, 111]⟩] [⟨#[116, 111, 108, 100, 95, 115, 111]⟩] (defScope (top 76)) := ⟨rfl, rfl, rfl, by decide +kernel, rfl, by decide +kernel, by decide +kernel⟩
theorem o_b_law_unmarked : okSs tab b_law_unmarked ⟨[⟨#[116, 111, 108, 100, 95, 115, 111]⟩], defScope (top 76), none⟩ (defBody (top 76)) = true := by decide +kernel
theorem f_b_law_unmarked {K : PySem.W.Frag} {mg : Str → Option Value} (c : He.SaysD (faOf tab cas) fnl K) : DefF tab (gOf ats cas K) K mg prog 58 d_b_law_unmarked (pss.getD 58 []) :=
  defF_of c 58 (d := e_b_law_unmarked) rfl rfl rfl rfl _ _ s_b_law_unmarked rfl rfl (by decide) rfl o_b_law_unmarked (fun kV doc pm an cdv ct us hl => match us, hl with | [_], _ => rfl) (fun n ks hm => .inl (plainPat (by decide +kernel) hm))
theorem s_b_law_flat : FnScope [⟨#[114, 111, 119, 115, 95, 115, 111]⟩, ⟨#[102, 111, 117, 110, 100]⟩, ⟨#[111, 119, 110]⟩] [⟨#[114, 111, 119, 115, 95, 115, 111]⟩] (defScope (top 77)) := ⟨rfl, rfl, rfl, by decide +kernel, rfl, by decide +kernel, by decide +kernel⟩
theorem o_b_law_flat : okSs tab b_law_flat ⟨[⟨#[114, 111, 119, 115, 95, 115, 111]⟩, ⟨#[102, 111, 117, 110, 100]⟩, ⟨#[111, 119, 110]⟩], defScope (top 77), none⟩ (defBody (top 77)) = true := by decide +kernel
theorem f_b_law_flat {K : PySem.W.Frag} {mg : Str → Option Value} (c : He.SaysD (faOf tab cas) fnl K) : DefF tab (gOf ats cas K) K mg prog 59 d_b_law_flat (pss.getD 59 []) :=
  defF_of c 59 (d := e_b_law_flat) rfl rfl rfl rfl _ _ s_b_law_flat rfl rfl (by decide) rfl o_b_law_flat (fun kV doc pm an cdv ct us hl => match us, hl with | [_], _ => rfl) (fun n ks hm => .inl (plainPat (by decide +kernel) hm))
theorem s_b_law_pairs : FnScope [⟨#[109, 97, 110, 121, 95, 115, 111]⟩, ⟨#[105]⟩, ⟨#[106]⟩] [⟨#[109, 97, 110, 121, 95, 115, 111]⟩] (defScope (top 78)) := ⟨rfl, rfl, rfl, by decide +kernel, rfl, by decide +kernel, by decide +kernel⟩
theorem o_b_law_pairs : okSs tab b_law_pairs ⟨[⟨#[109, 97, 110, 121, 95, 115, 111]⟩, ⟨#[105]⟩, ⟨#[106]⟩], defScope (top 78), none⟩ (defBody (top 78)) = true := by decide +kernel
theorem f_b_law_pairs {K : PySem.W.Frag} {mg : Str → Option Value} (c : He.SaysD (faOf tab cas) fnl K) : DefF tab (gOf ats cas K) K mg prog 60 d_b_law_pairs (pss.getD 60 []) :=
  defF_of c 60 (d := e_b_law_pairs) rfl rfl rfl rfl _ _ s_b_law_pairs rfl rfl (by decide) rfl o_b_law_pairs (fun kV doc pm an cdv ct us hl => match us, hl with | [_], _ => rfl) (fun n ks hm => .inl (plainPat (by decide +kernel) hm))
theorem s_b_law_places : FnScope [⟨#[114, 111, 119, 115, 95, 115, 111]⟩, ⟨#[111, 119, 110]⟩, ⟨#[105]⟩, ⟨#[106]⟩] [⟨#[114, 111, 119, 115, 95, 115, 111]⟩] (defScope (top 79)) := ⟨rfl, rfl, rfl, by decide +kernel, rfl, by decide +kernel, by decide +kernel⟩
theorem o_b_law_places : okSs tab b_law_places ⟨[⟨#[114, 111, 119, 115, 95, 115, 111]⟩, ⟨#[111, 119, 110]⟩, ⟨#[105]⟩, ⟨#[106]⟩], defScope (top 79), none⟩ (defBody (top 79)) = true := by decide +kernel
theorem f_b_law_places {K : PySem.W.Frag} {mg : Str → Option Value} (c : He.SaysD (faOf tab cas) fnl K) : DefF tab (gOf ats cas K) K mg prog 61 d_b_law_places (pss.getD 61 []) :=
  defF_of c 61 (d := e_b_law_places) rfl rfl rfl rfl _ _ s_b_law_places rfl rfl (by decide) rfl o_b_law_places (fun kV doc pm an cdv ct us hl => match us, hl with | [_], _ => rfl) (fun n ks hm => .inl (plainPat (by decide +kernel) hm))
theorem s_b_law_grid_book : FnScope [⟨#[114, 111, 119, 115, 95, 115, 111]⟩, ⟨#[98, 121, 95, 115, 111]⟩, ⟨#[112, 108, 97, 99, 101, 115, 95, 115, 111]⟩, ⟨#[109, 97, 110, 121, 95, 115, 111]⟩, ⟨#[116, 105, 101, 115, 95, 115, 111]⟩, ⟨#[105]⟩, ⟨#[106]⟩, ⟨#[108, 105, 110, 101, 95, 115, 111]⟩, ⟨#[97]⟩, ⟨#[98]⟩, ⟨#[99]⟩, ⟨#[100]⟩] [⟨#[114, 111, 119, 115, 95, 115, 111]⟩, ⟨#[98, 121, 95, 115, 111]⟩] (defScope (top 80)) := ⟨rfl, rfl, rfl, by decide +kernel, rfl, by decide +kernel, by decide +kernel⟩
theorem o_b_law_grid_book : okSs tab b_law_grid_book ⟨[⟨#[114, 111, 119, 115, 95, 115, 111]⟩, ⟨#[98, 121, 95, 115, 111]⟩, ⟨#[112, 108, 97, 99, 101, 115, 95, 115, 111]⟩, ⟨#[109, 97, 110, 121, 95, 115, 111]⟩, ⟨#[116, 105, 101, 115, 95, 115, 111]⟩, ⟨#[105]⟩, ⟨#[106]⟩, ⟨#[108, 105, 110, 101, 95, 115, 111]⟩, ⟨#[97]⟩, ⟨#[98]⟩, ⟨#[99]⟩, ⟨#[100]⟩], defScope (top 80), none⟩ (defBody (top 80)) = true := by decide +kernel
theorem f_b_law_grid_book {K : PySem.W.Frag} {mg : Str → Option Value} (c : He.SaysD (faOf tab cas) fnl K) : DefF tab (gOf ats cas K) K mg prog 62 d_b_law_grid_book (pss.getD 62 []) :=
  defF_of c 62 (d := e_b_law_grid_book) rfl rfl rfl rfl _ _ s_b_law_grid_book rfl rfl (by decide) rfl o_b_law_grid_book (fun kV doc pm an cdv ct us hl => match us, hl with | [_, _], _ => rfl) (fun n ks hm => .inl (plainPat (by decide +kernel) hm))
theorem s_b_law_call : FnScope [⟨#[100, 111, 111, 114]⟩, ⟨#[103, 111, 111, 100, 115, 95, 115, 111]⟩] [⟨#[100, 111, 111, 114]⟩, ⟨#[103, 111, 111, 100, 115, 95, 115, 111]⟩] (defScope (top 81)) := ⟨rfl, rfl, rfl, by decide +kernel, rfl, by decide +kernel, by decide +kernel⟩
theorem o_b_law_call : okSs tab b_law_call ⟨[⟨#[100, 111, 111, 114]⟩, ⟨#[103, 111, 111, 100, 115, 95, 115, 111]⟩], defScope (top 81), none⟩ (defBody (top 81)) = true := by decide +kernel
theorem f_b_law_call {K : PySem.W.Frag} {mg : Str → Option Value} (c : He.SaysD (faOf tab cas) fnl K) : DefF tab (gOf ats cas K) K mg prog 63 d_b_law_call (pss.getD 63 []) :=
  defF_of c 63 (d := e_b_law_call) rfl rfl rfl rfl _ _ s_b_law_call rfl rfl (by decide) rfl o_b_law_call (fun kV doc pm an cdv ct us hl => match us, hl with | [_, _], _ => rfl) (fun n ks hm => .inl (plainPat (by decide +kernel) hm))
theorem s_b_law_none_fits : FnScope [⟨#[104, 101, 97, 114, 100, 95, 115, 111]⟩, ⟨#[114, 111, 119, 115, 95, 115, 111]⟩, ⟨#[100, 111, 111, 114]⟩, ⟨#[103, 111, 111, 100, 115, 95, 115, 111]⟩, ⟨#[112, 108, 97, 99, 101, 95, 115, 111]⟩, ⟨#[98, 97, 100, 115, 95, 115, 111]⟩, ⟨#[111, 119, 110]⟩] [⟨#[104, 101, 97, 114, 100, 95, 115, 111]⟩, ⟨#[114, 111, 119, 115, 95, 115, 111]⟩] (defScope (top 82)) := ⟨rfl, rfl, rfl, by decide +kernel, rfl, by decide +kernel, by decide +kernel⟩
theorem o_b_law_none_fits : okSs tab b_law_none_fits ⟨[⟨#[104, 101, 97, 114, 100, 95, 115, 111]⟩, ⟨#[114, 111, 119, 115, 95, 115, 111]⟩, ⟨#[100, 111, 111, 114]⟩, ⟨#[103, 111, 111, 100, 115, 95, 115, 111]⟩, ⟨#[112, 108, 97, 99, 101, 95, 115, 111]⟩, ⟨#[98, 97, 100, 115, 95, 115, 111]⟩, ⟨#[111, 119, 110]⟩], defScope (top 82), none⟩ (defBody (top 82)) = true := by decide +kernel
theorem f_b_law_none_fits {K : PySem.W.Frag} {mg : Str → Option Value} (c : He.SaysD (faOf tab cas) fnl K) : DefF tab (gOf ats cas K) K mg prog 64 d_b_law_none_fits (pss.getD 64 []) :=
  defF_of c 64 (d := e_b_law_none_fits) rfl rfl rfl rfl _ _ s_b_law_none_fits rfl rfl (by decide) rfl o_b_law_none_fits (fun kV doc pm an cdv ct us hl => match us, hl with | [_, _], _ => rfl) (fun n ks hm => .inl (plainPat (by decide +kernel) hm))
theorem s_b_law_heard : FnScope [⟨#[100, 111, 111, 114]⟩, ⟨#[103, 111, 111, 100, 115, 95, 115, 111]⟩, ⟨#[101, 114, 114, 111, 114, 95, 97]⟩, ⟨#[101, 114, 114, 111, 114, 95, 98]⟩, ⟨#[101, 114, 114, 111, 114, 95, 99]⟩, ⟨#[99, 97, 117, 103, 104, 116]⟩, ⟨#[116, 111, 108, 100, 95, 115, 111]⟩] [⟨#[100, 111, 111, 114]⟩, ⟨#[103, 111, 111, 100, 115, 95, 115, 111]⟩] (defScope (top 83)) := ⟨rfl, rfl, rfl, by decide +kernel, rfl, by decide +kernel, by decide +kernel⟩
theorem o_b_law_heard : okSs tab b_law_heard ⟨[⟨#[100, 111, 111, 114]⟩, ⟨#[103, 111, 111, 100, 115, 95, 115, 111]⟩, ⟨#[101, 114, 114, 111, 114, 95, 97]⟩, ⟨#[101, 114, 114, 111, 114, 95, 98]⟩, ⟨#[101, 114, 114, 111, 114, 95, 99]⟩, ⟨#[99, 97, 117, 103, 104, 116]⟩, ⟨#[116, 111, 108, 100, 95, 115, 111]⟩], defScope (top 83), none⟩ (defBody (top 83)) = true := by decide +kernel
theorem f_b_law_heard {K : PySem.W.Frag} {mg : Str → Option Value} (c : He.SaysD (faOf tab cas) fnl K) : DefF tab (gOf ats cas K) K mg prog 65 d_b_law_heard (pss.getD 65 []) :=
  defF_of c 65 (d := e_b_law_heard) rfl rfl rfl rfl _ _ s_b_law_heard rfl rfl (by decide) rfl o_b_law_heard (fun kV doc pm an cdv ct us hl => match us, hl with | [_, _], _ => rfl) (fun n ks hm => .inl (plainPat (by decide +kernel) hm))
theorem s_b_law_refusals : FnScope [⟨#[104, 101, 105, 115, 95, 115, 111]⟩, ⟨#[98, 101, 110, 116, 95, 115, 111]⟩, ⟨#[98, 111, 111, 107, 115, 95, 115, 111]⟩, ⟨#[114, 111, 119, 115, 95, 115, 111]⟩, ⟨#[100, 111, 111, 114]⟩, ⟨#[109, 101, 109, 98, 101, 114, 115, 95, 115, 111]⟩, ⟨#[115, 112, 111, 116, 115, 95, 115, 111]⟩, ⟨#[107]⟩, ⟨#[105, 116, 115]⟩] [] (defScope (top 84)) := ⟨rfl, rfl, rfl, by decide +kernel, rfl, by decide +kernel, by decide +kernel⟩
theorem o_b_law_refusals : okSs tab b_law_refusals ⟨[⟨#[104, 101, 105, 115, 95, 115, 111]⟩, ⟨#[98, 101, 110, 116, 95, 115, 111]⟩, ⟨#[98, 111, 111, 107, 115, 95, 115, 111]⟩, ⟨#[114, 111, 119, 115, 95, 115, 111]⟩, ⟨#[100, 111, 111, 114]⟩, ⟨#[109, 101, 109, 98, 101, 114, 115, 95, 115, 111]⟩, ⟨#[115, 112, 111, 116, 115, 95, 115, 111]⟩, ⟨#[107]⟩, ⟨#[105, 116, 115]⟩], defScope (top 84), none⟩ (defBody (top 84)) = true := by decide +kernel
theorem f_b_law_refusals {K : PySem.W.Frag} {mg : Str → Option Value} (c : He.SaysD (faOf tab cas) fnl K) : DefF tab (gOf ats cas K) K mg prog 66 d_b_law_refusals (pss.getD 66 []) :=
  defF_of c 66 (d := e_b_law_refusals) rfl rfl rfl rfl _ _ s_b_law_refusals rfl rfl (by decide) rfl o_b_law_refusals (fun kV doc pm an cdv ct us hl => match us, hl with | [], _ => rfl) (fun n ks hm => .inl (plainPat (by decide +kernel) hm))
theorem s_b_law : FnScope [⟨#[115, 99, 114, 105, 112, 116]⟩, ⟨#[116, 105, 110]⟩, ⟨#[102, 105, 110, 105, 116, 101, 95, 115, 111]⟩, ⟨#[103, 111, 116]⟩] [⟨#[115, 99, 114, 105, 112, 116]⟩] (defScope (top 85)) := ⟨rfl, rfl, rfl, by decide +kernel, rfl, by decide +kernel, by decide +kernel⟩
theorem o_b_law : okSs tab b_law ⟨[⟨#[115, 99, 114, 105, 112, 116]⟩, ⟨#[116, 105, 110]⟩, ⟨#[102, 105, 110, 105, 116, 101, 95, 115, 111]⟩, ⟨#[103, 111, 116]⟩], defScope (top 85), none⟩ (defBody (top 85)) = true := by decide +kernel
theorem f_b_law {K : PySem.W.Frag} {mg : Str → Option Value} (c : He.SaysD (faOf tab cas) fnl K) : DefF tab (gOf ats cas K) K mg prog 67 d_b_law (pss.getD 67 []) :=
  defF_of c 67 (d := e_b_law) rfl rfl rfl rfl _ _ s_b_law rfl rfl (by decide) rfl o_b_law (fun kV doc pm an cdv ct us hl => match us, hl with | [_], _ => rfl) (fun n ks hm => .inl (plainPat (by decide +kernel) hm))
theorem s_b_Hall__init_ : FnScope [⟨#[115, 101, 108, 102]⟩, ⟨#[98, 111, 111, 107]⟩] [⟨#[115, 101, 108, 102]⟩, ⟨#[98, 111, 111, 107]⟩] (defScope (inClass (top 18) 0)) := ⟨rfl, rfl, rfl, by decide +kernel, rfl, by decide +kernel, by decide +kernel⟩
theorem o_b_Hall__init_ : okSs tab b_Hall__init_ ⟨[⟨#[115, 101, 108, 102]⟩, ⟨#[98, 111, 111, 107]⟩], defScope (inClass (top 18) 0), none⟩ (defBody (inClass (top 18) 0)) = true := by decide +kernel
theorem f_b_Hall__init_ {K : PySem.W.Frag} {mg : Str → Option Value} (c : He.SaysD (faOf tab cas) fnl K) : DefF tab (gOf ats cas K) K mg prog 68 d_b_Hall__init_ (pss.getD 68 []) :=
  defF_of c 68 (d := e_b_Hall__init_) rfl rfl rfl rfl _ _ s_b_Hall__init_ rfl rfl (by decide) rfl o_b_Hall__init_ (fun kV doc pm an cdv ct us hl => match us, hl with | [_, _], _ => rfl) (fun n ks hm => .inl (plainPat (by decide +kernel) hm))
theorem s_b_Hall_letter : FnScope [⟨#[115, 101, 108, 102]⟩, ⟨#[112, 108, 97, 99, 101]⟩, ⟨#[111, 102, 116, 101, 110]⟩, ⟨#[111, 114, 100, 101, 114]⟩, ⟨#[104, 101, 97, 100]⟩] [⟨#[115, 101, 108, 102]⟩, ⟨#[112, 108, 97, 99, 101]⟩, ⟨#[111, 102, 116, 101, 110]⟩] (defScope (inClass (top 18) 1)) := ⟨rfl, rfl, rfl, by decide +kernel, rfl, by decide +kernel, by decide +kernel⟩
theorem o_b_Hall_letter : okSs tab b_Hall_letter ⟨[⟨#[115, 101, 108, 102]⟩, ⟨#[112, 108, 97, 99, 101]⟩, ⟨#[111, 102, 116, 101, 110]⟩, ⟨#[111, 114, 100, 101, 114]⟩, ⟨#[104, 101, 97, 100]⟩], defScope (inClass (top 18) 1), none⟩ (defBody (inClass (top 18) 1)) = true := by decide +kernel
theorem f_b_Hall_letter {K : PySem.W.Frag} {mg : Str → Option Value} (c : He.SaysD (faOf tab cas) fnl K) : DefF tab (gOf ats cas K) K mg prog 69 d_b_Hall_letter (pss.getD 69 []) :=
  defF_of1 c 69 (d := e_b_Hall_letter) rfl rfl rfl rfl _ _ s_b_Hall_letter rfl rfl (by decide) rfl o_b_Hall_letter rfl (fun t kV doc pm an cdv ct us its l1 l2 => match us, its, l1, l2 with | [_, _, _], [_], _, _ => ⟨_, rfl, rfl⟩) (fun t kV doc pm an cdv ct us its l1 l2 => match us, its, l1, l2 with | [_, _], [_], _, _ => ⟨_, rfl, rfl⟩) (by decide +kernel)
theorem s_b_Hall_joined : FnScope [⟨#[115, 101, 108, 102]⟩, ⟨#[112, 108, 97, 99, 101]⟩, ⟨#[104, 101, 97, 100]⟩, ⟨#[114, 101, 115, 116]⟩] [⟨#[115, 101, 108, 102]⟩, ⟨#[112, 108, 97, 99, 101]⟩, ⟨#[104, 101, 97, 100]⟩, ⟨#[114, 101, 115, 116]⟩] (defScope (inClass (top 18) 2)) := ⟨rfl, rfl, rfl, by decide +kernel, rfl, by decide +kernel, by decide +kernel⟩
theorem o_b_Hall_joined : okSs tab b_Hall_joined ⟨[⟨#[115, 101, 108, 102]⟩, ⟨#[112, 108, 97, 99, 101]⟩, ⟨#[104, 101, 97, 100]⟩, ⟨#[114, 101, 115, 116]⟩], defScope (inClass (top 18) 2), none⟩ (defBody (inClass (top 18) 2)) = true := by decide +kernel
theorem f_b_Hall_joined {K : PySem.W.Frag} {mg : Str → Option Value} (c : He.SaysD (faOf tab cas) fnl K) : DefF tab (gOf ats cas K) K mg prog 70 d_b_Hall_joined (pss.getD 70 []) :=
  defF_of c 70 (d := e_b_Hall_joined) rfl rfl rfl rfl _ _ s_b_Hall_joined rfl rfl (by decide) rfl o_b_Hall_joined (fun kV doc pm an cdv ct us hl => match us, hl with | [_, _, _, _], _ => rfl) (fun n ks hm => .inl (plainPat (by decide +kernel) hm))
theorem s_b_Hall_is_flat : FnScope [⟨#[115, 101, 108, 102]⟩, ⟨#[112, 108, 97, 99, 101]⟩, ⟨#[108, 111, 119]⟩, ⟨#[104, 105, 103, 104]⟩, ⟨#[111, 119, 110]⟩] [⟨#[115, 101, 108, 102]⟩, ⟨#[112, 108, 97, 99, 101]⟩] (defScope (inClass (top 18) 3)) := ⟨rfl, rfl, rfl, by decide +kernel, rfl, by decide +kernel, by decide +kernel⟩
theorem o_b_Hall_is_flat : okSs tab b_Hall_is_flat ⟨[⟨#[115, 101, 108, 102]⟩, ⟨#[112, 108, 97, 99, 101]⟩, ⟨#[108, 111, 119]⟩, ⟨#[104, 105, 103, 104]⟩, ⟨#[111, 119, 110]⟩], defScope (inClass (top 18) 3), none⟩ (defBody (inClass (top 18) 3)) = true := by decide +kernel
theorem f_b_Hall_is_flat {K : PySem.W.Frag} {mg : Str → Option Value} (c : He.SaysD (faOf tab cas) fnl K) : DefF tab (gOf ats cas K) K mg prog 71 d_b_Hall_is_flat (pss.getD 71 []) :=
  defF_of c 71 (d := e_b_Hall_is_flat) rfl rfl rfl rfl _ _ s_b_Hall_is_flat rfl rfl (by decide) rfl o_b_Hall_is_flat (fun kV doc pm an cdv ct us hl => match us, hl with | [_, _], _ => rfl) (fun n ks hm => .inl (plainPat (by decide +kernel) hm))
theorem s_b_Hall_images : FnScope [⟨#[115, 101, 108, 102]⟩, ⟨#[112, 108, 97, 99, 101]⟩, ⟨#[111, 102, 116, 101, 110]⟩, ⟨#[107, 101, 121]⟩] [⟨#[115, 101, 108, 102]⟩, ⟨#[112, 108, 97, 99, 101]⟩, ⟨#[111, 102, 116, 101, 110]⟩] (defScope (inClass (top 18) 4)) := ⟨rfl, rfl, rfl, by decide +kernel, rfl, by decide +kernel, by decide +kernel⟩
theorem o_b_Hall_images : okSs tab b_Hall_images ⟨[⟨#[115, 101, 108, 102]⟩, ⟨#[112, 108, 97, 99, 101]⟩, ⟨#[111, 102, 116, 101, 110]⟩, ⟨#[107, 101, 121]⟩], defScope (inClass (top 18) 4), none⟩ (defBody (inClass (top 18) 4)) = true := by decide +kernel
theorem f_b_Hall_images {K : PySem.W.Frag} {mg : Str → Option Value} (c : He.SaysD (faOf tab cas) fnl K) : DefF tab (gOf ats cas K) K mg prog 72 d_b_Hall_images (pss.getD 72 []) :=
  defF_of c 72 (d := e_b_Hall_images) rfl rfl rfl rfl _ _ s_b_Hall_images rfl rfl (by decide) rfl o_b_Hall_images (fun kV doc pm an cdv ct us hl => match us, hl with | [_, _, _], _ => rfl) (fun n ks hm => .inl (plainPat (by decide +kernel) hm))
theorem s_b_Hall_images_anew : FnScope [⟨#[115, 101, 108, 102]⟩, ⟨#[112, 108, 97, 99, 101]⟩, ⟨#[111, 102, 116, 101, 110]⟩, ⟨#[104, 97, 108, 102]⟩, ⟨#[110, 101, 97, 114]⟩, ⟨#[102, 97, 114]⟩, ⟨#[111, 119, 110]⟩] [⟨#[115, 101, 108, 102]⟩, ⟨#[112, 108, 97, 99, 101]⟩, ⟨#[111, 102, 116, 101, 110]⟩] (defScope (inClass (top 18) 5)) := ⟨rfl, rfl, rfl, by decide +kernel, rfl, by decide +kernel, by decide +kernel⟩
theorem o_b_Hall_images_anew : okSs tab b_Hall_images_anew ⟨[⟨#[115, 101, 108, 102]⟩, ⟨#[112, 108, 97, 99, 101]⟩, ⟨#[111, 102, 116, 101, 110]⟩, ⟨#[104, 97, 108, 102]⟩, ⟨#[110, 101, 97, 114]⟩, ⟨#[102, 97, 114]⟩, ⟨#[111, 119, 110]⟩], defScope (inClass (top 18) 5), none⟩ (defBody (inClass (top 18) 5)) = true := by decide +kernel
theorem f_b_Hall_images_anew {K : PySem.W.Frag} {mg : Str → Option Value} (c : He.SaysD (faOf tab cas) fnl K) : DefF tab (gOf ats cas K) K mg prog 73 d_b_Hall_images_anew (pss.getD 73 []) :=
  defF_of c 73 (d := e_b_Hall_images_anew) rfl rfl rfl rfl _ _ s_b_Hall_images_anew rfl rfl (by decide) rfl o_b_Hall_images_anew (fun kV doc pm an cdv ct us hl => match us, hl with | [_, _, _], _ => rfl) (fun n ks hm => .inl (plainPat (by decide +kernel) hm))
theorem s_b_Hall_back_images : FnScope [⟨#[115, 101, 108, 102]⟩, ⟨#[112, 108, 97, 99, 101]⟩, ⟨#[102, 111, 117, 110, 100]⟩, ⟨#[111, 119, 110]⟩, ⟨#[116, 105, 101]⟩] [⟨#[115, 101, 108, 102]⟩, ⟨#[112, 108, 97, 99, 101]⟩] (defScope (inClass (top 18) 6)) := ⟨rfl, rfl, rfl, by decide +kernel, rfl, by decide +kernel, by decide +kernel⟩
theorem o_b_Hall_back_images : okSs tab b_Hall_back_images ⟨[⟨#[115, 101, 108, 102]⟩, ⟨#[112, 108, 97, 99, 101]⟩, ⟨#[102, 111, 117, 110, 100]⟩, ⟨#[111, 119, 110]⟩, ⟨#[116, 105, 101]⟩], defScope (inClass (top 18) 6), none⟩ (defBody (inClass (top 18) 6)) = true := by decide +kernel
theorem f_b_Hall_back_images {K : PySem.W.Frag} {mg : Str → Option Value} (c : He.SaysD (faOf tab cas) fnl K) : DefF tab (gOf ats cas K) K mg prog 74 d_b_Hall_back_images (pss.getD 74 []) :=
  defF_of c 74 (d := e_b_Hall_back_images) rfl rfl rfl rfl _ _ s_b_Hall_back_images rfl rfl (by decide) rfl o_b_Hall_back_images (fun kV doc pm an cdv ct us hl => match us, hl with | [_, _], _ => rfl) (fun n ks hm => .inl (plainPat (by decide +kernel) hm))
theorem s_b_Hall_led : FnScope [⟨#[115, 101, 108, 102]⟩, ⟨#[112, 108, 97, 99, 101]⟩, ⟨#[109, 101, 109, 98, 101, 114]⟩, ⟨#[105, 109, 97, 103, 101, 115]⟩, ⟨#[102, 111, 117, 110, 100]⟩, ⟨#[111, 119, 110]⟩, ⟨#[109, 111, 114, 101]⟩] [⟨#[115, 101, 108, 102]⟩, ⟨#[112, 108, 97, 99, 101]⟩, ⟨#[109, 101, 109, 98, 101, 114]⟩, ⟨#[105, 109, 97, 103, 101, 115]⟩] (defScope (inClass (top 18) 7)) := ⟨rfl, rfl, rfl, by decide +kernel, rfl, by decide +kernel, by decide +kernel⟩
theorem o_b_Hall_led : okSs tab b_Hall_led ⟨[⟨#[115, 101, 108, 102]⟩, ⟨#[112, 108, 97, 99, 101]⟩, ⟨#[109, 101, 109, 98, 101, 114]⟩, ⟨#[105, 109, 97, 103, 101, 115]⟩, ⟨#[102, 111, 117, 110, 100]⟩, ⟨#[111, 119, 110]⟩, ⟨#[109, 111, 114, 101]⟩], defScope (inClass (top 18) 7), none⟩ (defBody (inClass (top 18) 7)) = true := by decide +kernel
theorem f_b_Hall_led {K : PySem.W.Frag} {mg : Str → Option Value} (c : He.SaysD (faOf tab cas) fnl K) : DefF tab (gOf ats cas K) K mg prog 75 d_b_Hall_led (pss.getD 75 []) :=
  defF_of c 75 (d := e_b_Hall_led) rfl rfl rfl rfl _ _ s_b_Hall_led rfl rfl (by decide) rfl o_b_Hall_led (fun kV doc pm an cdv ct us hl => match us, hl with | [_, _, _, _], _ => rfl) (fun n ks hm => .inl (plainPat (by decide +kernel) hm))
theorem s_b_Hall_times_from : FnScope [⟨#[115, 101, 108, 102]⟩, ⟨#[112, 108, 97, 99, 101]⟩, ⟨#[111, 110, 101]⟩, ⟨#[111, 116, 104, 101, 114]⟩, ⟨#[111, 102, 116, 101, 110]⟩, ⟨#[114, 101, 115, 116]⟩, ⟨#[116, 111, 116, 97, 108]⟩, ⟨#[111, 114, 100, 101, 114]⟩, ⟨#[111, 119, 110]⟩] [⟨#[115, 101, 108, 102]⟩, ⟨#[112, 108, 97, 99, 101]⟩, ⟨#[111, 110, 101]⟩, ⟨#[111, 116, 104, 101, 114]⟩] (defScope (inClass (top 18) 8)) := ⟨rfl, rfl, rfl, by decide +kernel, rfl, by decide +kernel, by decide +kernel⟩
theorem o_b_Hall_times_from : okSs tab b_Hall_times_from ⟨[⟨#[115, 101, 108, 102]⟩, ⟨#[112, 108, 97, 99, 101]⟩, ⟨#[111, 110, 101]⟩, ⟨#[111, 116, 104, 101, 114]⟩, ⟨#[111, 102, 116, 101, 110]⟩, ⟨#[114, 101, 115, 116]⟩, ⟨#[116, 111, 116, 97, 108]⟩, ⟨#[111, 114, 100, 101, 114]⟩, ⟨#[111, 119, 110]⟩], defScope (inClass (top 18) 8), none⟩ (defBody (inClass (top 18) 8)) = true := by decide +kernel
theorem f_b_Hall_times_from {K : PySem.W.Frag} {mg : Str → Option Value} (c : He.SaysD (faOf tab cas) fnl K) : DefF tab (gOf ats cas K) K mg prog 76 d_b_Hall_times_from (pss.getD 76 []) :=
  defF_of c 76 (d := e_b_Hall_times_from) rfl rfl rfl rfl _ _ s_b_Hall_times_from rfl rfl (by decide) rfl o_b_Hall_times_from (fun kV doc pm an cdv ct us hl => match us, hl with | [_, _, _, _], _ => rfl) (fun n ks hm => .inl (plainPat (by decide +kernel) hm))
theorem s_b_Hall_is_plain : FnScope [⟨#[115, 101, 108, 102]⟩, ⟨#[112, 108, 97, 99, 101]⟩, ⟨#[111, 110, 101]⟩, ⟨#[111, 116, 104, 101, 114]⟩] [⟨#[115, 101, 108, 102]⟩, ⟨#[112, 108, 97, 99, 101]⟩, ⟨#[111, 110, 101]⟩, ⟨#[111, 116, 104, 101, 114]⟩] (defScope (inClass (top 18) 9)) := ⟨rfl, rfl, rfl, by decide +kernel, rfl, by decide +kernel, by decide +kernel⟩
theorem o_b_Hall_is_plain : okSs tab b_Hall_is_plain ⟨[⟨#[115, 101, 108, 102]⟩, ⟨#[112, 108, 97, 99, 101]⟩, ⟨#[111, 110, 101]⟩, ⟨#[111, 116, 104, 101, 114]⟩], defScope (inClass (top 18) 9), none⟩ (defBody (inClass (top 18) 9)) = true := by decide +kernel
theorem f_b_Hall_is_plain {K : PySem.W.Frag} {mg : Str → Option Value} (c : He.SaysD (faOf tab cas) fnl K) : DefF tab (gOf ats cas K) K mg prog 77 d_b_Hall_is_plain (pss.getD 77 []) :=
  defF_of c 77 (d := e_b_Hall_is_plain) rfl rfl rfl rfl _ _ s_b_Hall_is_plain rfl rfl (by decide) rfl o_b_Hall_is_plain (fun kV doc pm an cdv ct us hl => match us, hl with | [_, _, _, _], _ => rfl) (fun n ks hm => .inl (plainPat (by decide +kernel) hm))
theorem s_b_Hall_power_from : FnScope [⟨#[115, 101, 108, 102]⟩, ⟨#[112, 108, 97, 99, 101]⟩, ⟨#[109, 101, 109, 98, 101, 114]⟩, ⟨#[111, 102, 116, 101, 110]⟩, ⟨#[102, 111, 117, 110, 100]⟩, ⟨#[115, 113, 117, 97, 114, 101]⟩] [⟨#[115, 101, 108, 102]⟩, ⟨#[112, 108, 97, 99, 101]⟩, ⟨#[109, 101, 109, 98, 101, 114]⟩, ⟨#[111, 102, 116, 101, 110]⟩] (defScope (inClass (top 18) 10)) := ⟨rfl, rfl, rfl, by decide +kernel, rfl, by decide +kernel, by decide +kernel⟩
theorem o_b_Hall_power_from : okSs tab b_Hall_power_from ⟨[⟨#[115, 101, 108, 102]⟩, ⟨#[112, 108, 97, 99, 101]⟩, ⟨#[109, 101, 109, 98, 101, 114]⟩, ⟨#[111, 102, 116, 101, 110]⟩, ⟨#[102, 111, 117, 110, 100]⟩, ⟨#[115, 113, 117, 97, 114, 101]⟩], defScope (inClass (top 18) 10), none⟩ (defBody (inClass (top 18) 10)) = true := by decide +kernel
theorem f_b_Hall_power_from {K : PySem.W.Frag} {mg : Str → Option Value} (c : He.SaysD (faOf tab cas) fnl K) : DefF tab (gOf ats cas K) K mg prog 78 d_b_Hall_power_from (pss.getD 78 []) :=
  defF_of c 78 (d := e_b_Hall_power_from) rfl rfl rfl rfl _ _ s_b_Hall_power_from rfl rfl (by decide) rfl o_b_Hall_power_from (fun kV doc pm an cdv ct us hl => match us, hl with | [_, _, _, _], _ => rfl) (fun n ks hm => .inl (plainPat (by decide +kernel) hm))
theorem s_b_Hall_back_from : FnScope [⟨#[115, 101, 108, 102]⟩, ⟨#[112, 108, 97, 99, 101]⟩, ⟨#[109, 101, 109, 98, 101, 114]⟩, ⟨#[114, 101, 115, 116]⟩, ⟨#[111, 102, 116, 101, 110]⟩, ⟨#[104, 101, 97, 100]⟩, ⟨#[111, 119, 110]⟩] [⟨#[115, 101, 108, 102]⟩, ⟨#[112, 108, 97, 99, 101]⟩, ⟨#[109, 101, 109, 98, 101, 114]⟩] (defScope (inClass (top 18) 11)) := ⟨rfl, rfl, rfl, by decide +kernel, rfl, by decide +kernel, by decide +kernel⟩
theorem o_b_Hall_back_from : okSs tab b_Hall_back_from ⟨[⟨#[115, 101, 108, 102]⟩, ⟨#[112, 108, 97, 99, 101]⟩, ⟨#[109, 101, 109, 98, 101, 114]⟩, ⟨#[114, 101, 115, 116]⟩, ⟨#[111, 102, 116, 101, 110]⟩, ⟨#[104, 101, 97, 100]⟩, ⟨#[111, 119, 110]⟩], defScope (inClass (top 18) 11), none⟩ (defBody (inClass (top 18) 11)) = true := by decide +kernel
theorem f_b_Hall_back_from {K : PySem.W.Frag} {mg : Str → Option Value} (c : He.SaysD (faOf tab cas) fnl K) : DefF tab (gOf ats cas K) K mg prog 79 d_b_Hall_back_from (pss.getD 79 []) :=
  defF_of c 79 (d := e_b_Hall_back_from) rfl rfl rfl rfl _ _ s_b_Hall_back_from rfl rfl (by decide) rfl o_b_Hall_back_from (fun kV doc pm an cdv ct us hl => match us, hl with | [_, _, _], _ => rfl) (fun n ks hm => .inl (plainPat (by decide +kernel) hm))
theorem s_b_Hall_times : FnScope [⟨#[115, 101, 108, 102]⟩, ⟨#[111, 110, 101]⟩, ⟨#[111, 116, 104, 101, 114]⟩] [⟨#[115, 101, 108, 102]⟩, ⟨#[111, 110, 101]⟩, ⟨#[111, 116, 104, 101, 114]⟩] (defScope (inClass (top 18) 12)) := ⟨rfl, rfl, rfl, by decide +kernel, rfl, by decide +kernel, by decide +kernel⟩
theorem o_b_Hall_times : okSs tab b_Hall_times ⟨[⟨#[115, 101, 108, 102]⟩, ⟨#[111, 110, 101]⟩, ⟨#[111, 116, 104, 101, 114]⟩], defScope (inClass (top 18) 12), none⟩ (defBody (inClass (top 18) 12)) = true := by decide +kernel
theorem f_b_Hall_times {K : PySem.W.Frag} {mg : Str → Option Value} (c : He.SaysD (faOf tab cas) fnl K) : DefF tab (gOf ats cas K) K mg prog 80 d_b_Hall_times (pss.getD 80 []) :=
  defF_of c 80 (d := e_b_Hall_times) rfl rfl rfl rfl _ _ s_b_Hall_times rfl rfl (by decide) rfl o_b_Hall_times (fun kV doc pm an cdv ct us hl => match us, hl with | [_, _, _], _ => rfl) (fun n ks hm => .inl (plainPat (by decide +kernel) hm))
theorem s_b_Hall_power : FnScope [⟨#[115, 101, 108, 102]⟩, ⟨#[109, 101, 109, 98, 101, 114]⟩, ⟨#[111, 102, 116, 101, 110]⟩] [⟨#[115, 101, 108, 102]⟩, ⟨#[109, 101, 109, 98, 101, 114]⟩, ⟨#[111, 102, 116, 101, 110]⟩] (defScope (inClass (top 18) 13)) := ⟨rfl, rfl, rfl, by decide +kernel, rfl, by decide +kernel, by decide +kernel⟩
theorem o_b_Hall_power : okSs tab b_Hall_power ⟨[⟨#[115, 101, 108, 102]⟩, ⟨#[109, 101, 109, 98, 101, 114]⟩, ⟨#[111, 102, 116, 101, 110]⟩], defScope (inClass (top 18) 13), none⟩ (defBody (inClass (top 18) 13)) = true := by decide +kernel
theorem f_b_Hall_power {K : PySem.W.Frag} {mg : Str → Option Value} (c : He.SaysD (faOf tab cas) fnl K) : DefF tab (gOf ats cas K) K mg prog 81 d_b_Hall_power (pss.getD 81 []) :=
  defF_of c 81 (d := e_b_Hall_power) rfl rfl rfl rfl _ _ s_b_Hall_power rfl rfl (by decide) rfl o_b_Hall_power (fun kV doc pm an cdv ct us hl => match us, hl with | [_, _, _], _ => rfl) (fun n ks hm => .inl (plainPat (by decide +kernel) hm))
theorem s_b_Hall_back : FnScope [⟨#[115, 101, 108, 102]⟩, ⟨#[109, 101, 109, 98, 101, 114]⟩] [⟨#[115, 101, 108, 102]⟩, ⟨#[109, 101, 109, 98, 101, 114]⟩] (defScope (inClass (top 18) 14)) := ⟨rfl, rfl, rfl, by decide +kernel, rfl, by decide +kernel, by decide +kernel⟩
theorem o_b_Hall_back : okSs tab b_Hall_back ⟨[⟨#[115, 101, 108, 102]⟩, ⟨#[109, 101, 109, 98, 101, 114]⟩], defScope (inClass (top 18) 14), none⟩ (defBody (inClass (top 18) 14)) = true := by decide +kernel
theorem f_b_Hall_back {K : PySem.W.Frag} {mg : Str → Option Value} (c : He.SaysD (faOf tab cas) fnl K) : DefF tab (gOf ats cas K) K mg prog 82 d_b_Hall_back (pss.getD 82 []) :=
  defF_of c 82 (d := e_b_Hall_back) rfl rfl rfl rfl _ _ s_b_Hall_back rfl rfl (by decide) rfl o_b_Hall_back (fun kV doc pm an cdv ct us hl => match us, hl with | [_, _], _ => rfl) (fun n ks hm => .inl (plainPat (by decide +kernel) hm))
theorem s_b_Hall_carried : FnScope [⟨#[115, 101, 108, 102]⟩, ⟨#[109, 101, 109, 98, 101, 114]⟩, ⟨#[98, 121]⟩] [⟨#[115, 101, 108, 102]⟩, ⟨#[109, 101, 109, 98, 101, 114]⟩, ⟨#[98, 121]⟩] (defScope (inClass (top 18) 15)) := ⟨rfl, rfl, rfl, by decide +kernel, rfl, by decide +kernel, by decide +kernel⟩
theorem o_b_Hall_carried : okSs tab b_Hall_carried ⟨[⟨#[115, 101, 108, 102]⟩, ⟨#[109, 101, 109, 98, 101, 114]⟩, ⟨#[98, 121]⟩], defScope (inClass (top 18) 15), none⟩ (defBody (inClass (top 18) 15)) = true := by decide +kernel
theorem f_b_Hall_carried {K : PySem.W.Frag} {mg : Str → Option Value} (c : He.SaysD (faOf tab cas) fnl K) : DefF tab (gOf ats cas K) K mg prog 83 d_b_Hall_carried (pss.getD 83 []) :=
  defF_of c 83 (d := e_b_Hall_carried) rfl rfl rfl rfl _ _ s_b_Hall_carried rfl rfl (by decide) rfl o_b_Hall_carried (fun kV doc pm an cdv ct us hl => match us, hl with | [_, _, _], _ => rfl) (fun n ks hm => .inl (plainPat (by decide +kernel) hm))
theorem s_b_Hall_exchange : FnScope [⟨#[115, 101, 108, 102]⟩, ⟨#[111, 110, 101]⟩, ⟨#[111, 116, 104, 101, 114]⟩] [⟨#[115, 101, 108, 102]⟩, ⟨#[111, 110, 101]⟩, ⟨#[111, 116, 104, 101, 114]⟩] (defScope (inClass (top 18) 16)) := ⟨rfl, rfl, rfl, by decide +kernel, rfl, by decide +kernel, by decide +kernel⟩
theorem o_b_Hall_exchange : okSs tab b_Hall_exchange ⟨[⟨#[115, 101, 108, 102]⟩, ⟨#[111, 110, 101]⟩, ⟨#[111, 116, 104, 101, 114]⟩], defScope (inClass (top 18) 16), none⟩ (defBody (inClass (top 18) 16)) = true := by decide +kernel
theorem f_b_Hall_exchange {K : PySem.W.Frag} {mg : Str → Option Value} (c : He.SaysD (faOf tab cas) fnl K) : DefF tab (gOf ats cas K) K mg prog 84 d_b_Hall_exchange (pss.getD 84 []) :=
  defF_of c 84 (d := e_b_Hall_exchange) rfl rfl rfl rfl _ _ s_b_Hall_exchange rfl rfl (by decide) rfl o_b_Hall_exchange (fun kV doc pm an cdv ct us hl => match us, hl with | [_, _, _], _ => rfl) (fun n ks hm => .inl (plainPat (by decide +kernel) hm))
theorem s_b_Hall_word : FnScope [⟨#[115, 101, 108, 102]⟩, ⟨#[112, 97, 105, 114, 115]⟩, ⟨#[102, 111, 117, 110, 100]⟩, ⟨#[108, 101, 116, 116, 101, 114]⟩, ⟨#[111, 102, 116, 101, 110]⟩] [⟨#[115, 101, 108, 102]⟩, ⟨#[112, 97, 105, 114, 115]⟩] (defScope (inClass (top 18) 17)) := ⟨rfl, rfl, rfl, by decide +kernel, rfl, by decide +kernel, by decide +kernel⟩
theorem o_b_Hall_word : okSs tab b_Hall_word ⟨[⟨#[115, 101, 108, 102]⟩, ⟨#[112, 97, 105, 114, 115]⟩, ⟨#[102, 111, 117, 110, 100]⟩, ⟨#[108, 101, 116, 116, 101, 114]⟩, ⟨#[111, 102, 116, 101, 110]⟩], defScope (inClass (top 18) 17), none⟩ (defBody (inClass (top 18) 17)) = true := by decide +kernel
theorem f_b_Hall_word {K : PySem.W.Frag} {mg : Str → Option Value} (c : He.SaysD (faOf tab cas) fnl K) : DefF tab (gOf ats cas K) K mg prog 85 d_b_Hall_word (pss.getD 85 []) :=
  defF_of c 85 (d := e_b_Hall_word) rfl rfl rfl rfl _ _ s_b_Hall_word rfl rfl (by decide) rfl o_b_Hall_word (fun kV doc pm an cdv ct us hl => match us, hl with | [_, _], _ => rfl) (fun n ks hm => .inl (plainPat (by decide +kernel) hm))
theorem allDefs {K : PySem.W.Frag} {mg : Str → Option Value} (c : He.SaysD (faOf tab cas) fnl K) : ∀ f d, prog[f]? = some d → DefF tab (gOf ats cas K) K mg prog f d (pss.getD f []) := fun f d h => by
  match f, h with
  | 0, h => cases h; exact f_b_is_number c
  | 1, h => cases h; exact f_b_is_within c
  | 2, h => cases h; exact f_b_sure_within c
  | 3, h => cases h; exact f_b_is_long c
  | 4, h => cases h; exact f_b_are_numbers c
  | 5, h => cases h; exact f_b_tupled c
  | 6, h => cases h; exact f_b_common c
  | 7, h => cases h; exact f_b_chosen c
  | 8, h => cases h; exact f_b_tie_of c
  | 9, h => cases h; exact f_b_lead_of c
  | 10, h => cases h; exact f_b_is_member_in c
  | 11, h => cases h; exact f_b_sure_member c
  | 12, h => cases h; exact f_b_sure_word c
  | 13, h => cases h; exact f_b_is_line c
  | 14, h => cases h; exact f_b_pairs_of c
  | 15, h => cases h; exact f_b_is_book_of c
  | 16, h => cases h; exact f_b_is_small_book c
  | 17, h => cases h; exact f_b_overlaps_at c
  | 18, h => cases h; exact f_b_sides_in c
  | 19, h => cases h; exact f_b_first_parting c
  | 20, h => cases h; exact f_b_sure_shape c
  | 21, h => cases h; exact f_b_sure_book c
  | 22, h => cases h; exact f_b_is_member c
  | 23, h => cases h; exact f_b_is_word c
  | 24, h => cases h; exact f_b_collected c
  | 25, h => cases h; exact f_b_multiplied c
  | 26, h => cases h; exact f_b_powered c
  | 27, h => cases h; exact f_b_turned_back c
  | 28, h => cases h; exact f_b_carried_by c
  | 29, h => cases h; exact f_b_exchanged c
  | 30, h => cases h; exact f_b_do_commute c
  | 31, h => cases h; exact f_b_weights_in c
  | 32, h => cases h; exact f_b_tops_of c
  | 33, h => cases h; exact f_b_below c
  | 34, h => cases h; exact f_b_differences c
  | 35, h => cases h; exact f_b_fitted c
  | 36, h => cases h; exact f_b_product_polys c
  | 37, h => cases h; exact f_b_power_polys c
  | 38, h => cases h; exact f_b_sure_endless c
  | 39, h => cases h; exact f_b_letter_weights c
  | 40, h => cases h; exact f_b_product_row c
  | 41, h => cases h; exact f_b_power_row c
  | 42, h => cases h; exact f_b_size_of c
  | 43, h => cases h; exact f_b_book_size c
  | 44, h => cases h; exact f_b_order_in c
  | 45, h => cases h; exact f_b_steps_at c
  | 46, h => cases h; exact f_b_roots_in c
  | 47, h => cases h; exact f_b_first_gap c
  | 48, h => cases h; exact f_b_member_order c
  | 49, h => cases h; exact f_b_roots c
  | 50, h => cases h; exact f_b_root c
  | 51, h => cases h; exact f_b_is_root c
  | 52, h => cases h; exact f_b_why_no_root c
  | 53, h => cases h; exact f_b_law_box c
  | 54, h => cases h; exact f_b_law_take c
  | 55, h => cases h; exact f_b_law_cells c
  | 56, h => cases h; exact f_b_law_pick c
  | 57, h => cases h; exact f_b_law_same c
  | 58, h => cases h; exact f_b_law_unmarked c
  | 59, h => cases h; exact f_b_law_flat c
  | 60, h => cases h; exact f_b_law_pairs c
  | 61, h => cases h; exact f_b_law_places c
  | 62, h => cases h; exact f_b_law_grid_book c
  | 63, h => cases h; exact f_b_law_call c
  | 64, h => cases h; exact f_b_law_none_fits c
  | 65, h => cases h; exact f_b_law_heard c
  | 66, h => cases h; exact f_b_law_refusals c
  | 67, h => cases h; exact f_b_law c
  | 68, h => cases h; exact f_b_Hall__init_ c
  | 69, h => cases h; exact f_b_Hall_letter c
  | 70, h => cases h; exact f_b_Hall_joined c
  | 71, h => cases h; exact f_b_Hall_is_flat c
  | 72, h => cases h; exact f_b_Hall_images c
  | 73, h => cases h; exact f_b_Hall_images_anew c
  | 74, h => cases h; exact f_b_Hall_back_images c
  | 75, h => cases h; exact f_b_Hall_led c
  | 76, h => cases h; exact f_b_Hall_times_from c
  | 77, h => cases h; exact f_b_Hall_is_plain c
  | 78, h => cases h; exact f_b_Hall_power_from c
  | 79, h => cases h; exact f_b_Hall_back_from c
  | 80, h => cases h; exact f_b_Hall_times c
  | 81, h => cases h; exact f_b_Hall_power c
  | 82, h => cases h; exact f_b_Hall_back c
  | 83, h => cases h; exact f_b_Hall_carried c
  | 84, h => cases h; exact f_b_Hall_exchange c
  | 85, h => cases h; exact f_b_Hall_word c
  | k + 86, h => cases h
theorem ini : ∀ x cl f, (x, cl, f) ∈ tab.mks → IniT tab ats fnl f := fun x cl f hm => by
  have e : tab.mks = [(⟨#[72, 97, 108, 108]⟩, 3, 68)] := rfl
  rw [e] at hm
  have e2 := List.mem_singleton.mp hm
  cases e2
  exact ⟨e_b_Hall__init_, _, _, rfl, rfl, rfl, rfl, s_b_Hall__init_, rfl, rfl, by decide +kernel, fun kV doc pm an cdv ct us hl => match us, hl with | [_, _], _ => rfl⟩
theorem law_join {lv : Nat} (hr : Room lv callerA) (law : ∀ ns : List Int, ns.length ≤ 63 → ∃ h, (cc prog lv).call 67 [.v (.frz (ns.map .int))] [] = .ok (.v (.bl true)) h) : PySem.Challenge.rw_collectedwords_k26_whole_refused_members.Holds := by
  w_on; o_law
  refine HandSHeadRun.head_any (r := PySem.W.OpenLaw.row PySem.Challenge.rw_collectedwords_k26_whole_refused_members) (q := PySem.W.view (PySem.W.OpenLaw.row PySem.Challenge.rw_collectedwords_k26_whole_refused_members).prog [85]) (H := hkL) (ob := obL) (M := 20000) (loose := loose) (d := HandSHeadRun.topDef (PySem.W.OpenLaw.row PySem.Challenge.rw_collectedwords_k26_whole_refused_members).prog 85) (kwd := []) obL_eq
    (by kernel_rfl) (fun s => by kernel_rfl) runL (by kernel_rfl) (by kernel_rfl) (by kernel_rfl) (by rfl) (by first | assumption | decide +kernel) (by decide +kernel) ⟨rfl, rfl, rfl, rfl, rfl, by decide +kernel⟩ ?hw ?hc
  case hw => w_witness2
  case hc =>
    refine L2.walk_ofE (l := PySem.Challenge.rw_collectedwords_k26_whole_refused_members) (n := 63) (k := lv) (x := ⟨#[115, 99, 114, 105, 112, 116]⟩) (CX := L2.CX0) rfl (by decide) (by kernel_rfl) hr ?F (fun _ _ _ _ z => z)
    intro w mg fa h Y G hmg0
    obtain ⟨K, KX, c, dg, ex⟩ := Y
    have hmg : mg (⟨#[108, 97, 119]⟩ : Str) = some (.ref fa) := by
      have e : (HandSHeadRun.topDef (PySem.W.OpenLaw.row PySem.Challenge.rw_collectedwords_k26_whole_refused_members).prog 85).name = (⟨#[108, 97, 119]⟩ : Str) := by kernel_rfl
      rw [← e]
      exact hmg0
    have PF : ProgF tab (gOf ats cas K) K mg prog pss := progF_of (fun _ => dg) ex c KX G (allDefs c) (by decide +kernel) (by decide +kernel) (by decide +kernel) (by decide +kernel) (by decide +kernel) ini
    have hfa : fa = (gOf ats cas K).fa 67 := by
      have := PF.fns ⟨#[108, 97, 119]⟩ 67 (by decide +kernel)
      rw [hmg] at this
      cases this
      rfl
    subst hfa
    obtain ⟨fd, sp, hb, hsp, hF⟩ := law_place c (P := (PySem.Challenge.rw_collectedwords_k26_whole_refused_members).prog) (w := w) (d := d_b_law) (x := ⟨#[115, 99, 114, 105, 112, 116]⟩) (dd := e_b_law) PF rfl rfl rfl rfl rfl rfl (fun kV doc pm an cdv ct us hl => match us, hl with | [_], _ => rfl) law
    exact ⟨K, fd, sp, KX, hb, hsp, fun base _ _ => hF base⟩
end VM

namespace VM
open PySem
/-! ### what is drawn -/
/-- the law's box after at most t draws -/
def Tin (t : Nat) (xs : List U) : Prop := ∃ a b c : Int, xs = [.int a, .int b, .int c] ∧ 0 ≤ c ∧ c ≤ t
theorem small_of {i : Int} (h0 : -18446744073709551616 < i) (h : i < 18446744073709551616) : small64 i = true := by
  unfold small64
  simp [h0, h]
theorem mulOk_r {i j : Int} (h0 : -18446744073709551616 < j) (h : j < 18446744073709551616) : mulOk i j = true := by
  unfold mulOk
  rw [small_of h0 h]
  simp
theorem mulOk_l {i j : Int} (h0 : -18446744073709551616 < i) (h : i < 18446744073709551616) : mulOk i j = true := by
  unfold mulOk
  rw [small_of h0 h]
  simp
theorem log_small {m : Nat} (h : m < 2 ^ 250) : m.log2 < 8000 := by
  by_cases h0 : m = 0
  · subst h0; decide
  · exact Nat.lt_trans ((Nat.log2_lt h0).mpr h) (by decide)
theorem take_ok (n t : Nat) (xs : List U) (m : Int) (hT : Tin t xs) (ht : t < 1000000000) (hm : 0 < m) (hm2 : m.natAbs < 2 ^ 250) :
    ∃ r xs', (cc prog (n + 1)).call 54 [.r 0, .v (.int m)] [.lst xs] = .ok (.v (.int r)) [.lst xs'] ∧ 0 ≤ r ∧ r < m ∧ Tin (t + 1) xs' := by
  obtain ⟨a, b, c, rfl, h0, h1⟩ := hT
  have x0 : ∀ i j k : Int, idxS [.lst [.int i, .int j, .int k]] (.r 0) (.v (.int 0)) = some (.v (.int i)) := fun i j k => X_r _ rfl rfl rfl
  have x1 : ∀ i j k : Int, idxS [.lst [.int i, .int j, .int k]] (.r 0) (.v (.int 1)) = some (.v (.int j)) := fun i j k => X_r _ rfl rfl rfl
  have x2 : ∀ i j k : Int, idxS [.lst [.int i, .int j, .int k]] (.r 0) (.v (.int 2)) = some (.v (.int k)) := fun i j k => X_r _ rfl rfl rfl
  have g0 : ∀ i j k u : Int, gSubS [.lst [.int i, .int j, .int k]] (.r 0) (.v (.int 0)) (.int u) = some [.lst [.int u, .int j, .int k]] := fun i j k u => rfl
  have g2 : ∀ i j k u : Int, gSubS [.lst [.int i, .int j, .int k]] (.r 0) (.v (.int 2)) (.int u) = some [.lst [.int i, .int j, .int u]] := fun i j k u => rfl
  by_cases ha : 0 < a
  · refine ⟨a % m, [.int (a / m), .int b, .int c], ?_, Int.emod_nonneg _ (by omega), Int.emod_lt_of_pos _ hm, a / m, b, c, rfl, h0, by omega⟩
    rw [call_eq (d := d_b_law_take) rfl, runF_eq _ _ _ _ _ rfl]
    simp only [d_b_law_take, b_law_take, Nat.reduceSub]
    simp only [e_s, e_t, e_var, e_c, e_gl, e_fn, e_bin, e_cmp, e_ch, e_nt, e_and, e_or, e_ife, e_tup, e_lst, e_neg, e_idx, e_slc, e_on, e_os, e_rev, e_nr, e_nil, e_cons, e_call, e_bi, e_isi, e_met, e_lc, r_v, r_r, i_v, i_r, i_l, t_ok, b1_ok, b2_ok, c1_ok, c2_ok, oB_ok, h1_ok, h2_ok, h3_t, h3_f, h4_ok, n1_ok, a1_ok, a2_t, a2_f, o1_ok, o2_t, o2_f, tr_v, tr_l, tr_r, ts_v, f1_t, f1_f, p1_ok, l1_ok, au_n, au_c, om_s, g1_ok, x1_ok, x2_ok, s1_ok, s2_ok, s3_ok, q1_ok, v1_ok, w1_n, w1_r, k1_ok, k2_ok, d1_ok, d2_ok, d3_ok, y1_ok, z1_ok, z2_ok, m1_ok, mG_ok, m2_ok, lc1_ok, lc2_ok, ofO_s, ofP_s, s_cons, s_nil, s_asg, s_ifs, s_for, s_ret, s_ex, g_nm, g_sub, S1_ok, nE_ok, N1_ok, R_ok, I1_t, I1_f, F1_ok, T1_ok, E1_ok, B0_ok, B1_ok, B2_ok, B3_ok, A_nx, A_rt, V_v, V_r, V_l, W_v, W_l, i_val, i_rng, i_enm, i_zip, iv_s, iv_l, iv_t, iv_f, ir_1, ir_2, ie_l, iz_1, iz_l, iz_t, t1_nm, t1_tp, ts_nil, ts_cons, k_none, k_some, B_add, B_sub, C_lt, C_le, C_gt, C_ge, C_eq, C_ne, C_eqs, C_nes, L_int, L_intb, L_abs, L_lenl, L_lent, L_lenf, L_tup, truU, List.getElem?_cons_succ, List.getElem?_cons_zero, List.set_cons_succ, List.set_cons_zero, List.map_cons, List.map_nil, List.cons_append, List.nil_append, List.replicate_succ, List.replicate_zero, x0, g0, decide_eq_true ha, B_mod _ _ _ hm, B_fdiv _ _ _ ⟨hm, log_small hm2⟩]
    rfl
  · have key : ∃ z : Int, (cc prog (n + 1)).call 54 [.r 0, .v (.int m)] [.lst [.int a, .int b, .int c]] = .ok (.v (.int (z % m))) [.lst [.int a, .int b, .int (c + 1)]] := by
      rw [call_eq (d := d_b_law_take) rfl, runF_eq _ _ _ _ _ rfl]
      simp only [d_b_law_take, b_law_take, Nat.reduceSub]
      have w1 : ∀ (h : Hs) (i z : Int), binS .mul h (.v (.int i)) (.v (.int (z % 40009 + 7))) = some (.v (.int (i * (z % 40009 + 7)))) := fun h i z => B_mul _ _ _ (mulOk_r (by omega) (by omega))
      simp only [e_s, e_t, e_var, e_c, e_gl, e_fn, e_bin, e_cmp, e_ch, e_nt, e_and, e_or, e_ife, e_tup, e_lst, e_neg, e_idx, e_slc, e_on, e_os, e_rev, e_nr, e_nil, e_cons, e_call, e_bi, e_isi, e_met, e_lc, r_v, r_r, i_v, i_r, i_l, t_ok, b1_ok, b2_ok, c1_ok, c2_ok, oB_ok, h1_ok, h2_ok, h3_t, h3_f, h4_ok, n1_ok, a1_ok, a2_t, a2_f, o1_ok, o2_t, o2_f, tr_v, tr_l, tr_r, ts_v, f1_t, f1_f, p1_ok, l1_ok, au_n, au_c, om_s, g1_ok, x1_ok, x2_ok, s1_ok, s2_ok, s3_ok, q1_ok, v1_ok, w1_n, w1_r, k1_ok, k2_ok, d1_ok, d2_ok, d3_ok, y1_ok, z1_ok, z2_ok, m1_ok, mG_ok, m2_ok, lc1_ok, lc2_ok, ofO_s, ofP_s, s_cons, s_nil, s_asg, s_ifs, s_for, s_ret, s_ex, g_nm, g_sub, S1_ok, nE_ok, N1_ok, R_ok, I1_t, I1_f, F1_ok, T1_ok, E1_ok, B0_ok, B1_ok, B2_ok, B3_ok, A_nx, A_rt, V_v, V_r, V_l, W_v, W_l, i_val, i_rng, i_enm, i_zip, iv_s, iv_l, iv_t, iv_f, ir_1, ir_2, ie_l, iz_1, iz_l, iz_t, t1_nm, t1_tp, ts_nil, ts_cons, k_none, k_some, B_add, B_sub, C_lt, C_le, C_gt, C_ge, C_eq, C_ne, C_eqs, C_nes, L_int, L_intb, L_abs, L_lenl, L_lent, L_lenf, L_tup, truU, List.getElem?_cons_succ, List.getElem?_cons_zero, List.set_cons_succ, List.set_cons_zero, List.map_cons, List.map_nil, List.cons_append, List.nil_append, List.replicate_succ, List.replicate_zero, x0, x1, x2, g2, decide_eq_false ha, B_mod _ _ _ hm, B_mod _ _ 2147483647 (by decide), B_mod _ _ 40009 (by decide), B_mod _ _ 2147483629 (by decide), B_mod _ _ 2147483587 (by decide), B_fdiv _ _ 1000003 (by decide), B_fdiv _ _ 64 (by decide),
        B_mul _ 48271 _ (mulOk_l (by decide) (by decide)), B_mul _ _ (39373 + (c + 1)) (mulOk_r (by omega) (by omega)), B_mul _ _ 48271 (mulOk_r (by decide) (by decide)), w1]
      exact ⟨_, rfl⟩
    obtain ⟨z, e⟩ := key
    exact ⟨z % m, _, e, Int.emod_nonneg _ (by omega), Int.emod_lt_of_pos _ hm, a, b, c + 1, rfl, by omega, by omega⟩
theorem ar2 (f n : Nat) (a b : S) (e : prog[f]?.map FD.np = some 2) (e2 : prog[f]?.map FD.df = some []) : argsOf (cc prog n) f [a, b] [] [] = some [a, b] := by
  unfold argsOf
  have h1 : (cc prog n).np f = 2 := by have : (cc prog n).np f = (prog[f]?.map FD.np).getD 0 := by cases n <;> rfl
                                       rw [this, e]; rfl
  have h2 : (cc prog n).df f = [] := by have : (cc prog n).df f = (prog[f]?.map FD.df).getD [] := by cases n <;> rfl
                                        rw [this, e2]; rfl
  rw [h1, h2]
  rfl
theorem ar1 (f n : Nat) (a : S) (e : prog[f]?.map FD.np = some 1) (e2 : prog[f]?.map FD.df = some []) : argsOf (cc prog n) f [a] [] [] = some [a] := by
  unfold argsOf
  have h1 : (cc prog n).np f = 1 := by have : (cc prog n).np f = (prog[f]?.map FD.np).getD 0 := by cases n <;> rfl
                                       rw [this, e]; rfl
  have h2 : (cc prog n).df f = [] := by have : (cc prog n).df f = (prog[f]?.map FD.df).getD [] := by cases n <;> rfl
                                        rw [this, e2]; rfl
  rw [h1, h2]
  rfl
theorem take_hp (n t : Nat) {h : Hs} {i : Nat} {xs : List U} {m : Int} (hi : h[i]? = some (.lst xs)) (hT : Tin t xs) (ht : t < 1000000000) (hm : 0 < m) (hm2 : m.natAbs < 2 ^ 250) :
    ∃ r xs', doCall (cc prog (n + 1)) 54 [.r i, .v (.int m)] h = .ok (.v (.int r)) (h.set i (.lst xs')) ∧ 0 ≤ r ∧ r < m ∧ Tin (t + 1) xs' := by
  obtain ⟨r, xs', e, h1, h2, h3⟩ := take_ok n t xs m hT ht hm hm2
  exact ⟨r, xs', doCall_t (us := [.int m]) (r := .v (.int r)) hi e, h1, h2, h3⟩
theorem enm_at (h : Hs) (us : List U) (i : Nat) : srcAt h (.enm (.v (.lst us))) i = (us[i]?).map fun u => .tup [.int i, u] := rfl
theorem enm_end (h : Hs) (us : List U) : srcEnd h (.enm (.v (.lst us))) us.length = true := Nat.ble_eq_true_of_le (Nat.le_refl _)
theorem slc_f (h : Hs) (xs : List U) (lo hi : Option Int) : slcS h (.v (.frz xs)) lo hi = some (.nw (.lst (cut xs lo hi))) := rfl
theorem L_list (h : Hs) (xs : List U) : bltS .list h [.v (.lst xs)] = some (.nw (.lst xs)) := rfl
theorem cells_loop (n : Nat) (sc : S) (z0 : Int) (js : List Int) (hj : js.length ≤ 63) : ∃ z ρ', forL (.enm (.v (.lst (js.map U.int)))) (evT1 (cc prog n) (.tp (.cons (.nm 3) (.cons (.nm 4) .nil)))) (evSs (cc prog n) 1000000 b_law_cells_1) js.length 0 [some sc, some (.v (.int 1)), some (.r 0), none, none, none] [.lst [.int z0]] = .nx (some sc :: some (.v (.int 1)) :: some (.r 0) :: ρ') [.lst [.int z]] := by
  obtain ⟨ρ', h', e, z, k, b, a, rfl, rfl⟩ := for_ex (src := .enm (.v (.lst (js.map U.int)))) (g := evT1 (cc prog n) (.tp (.cons (.nm 3) (.cons (.nm 4) .nil)))) (b := evSs (cc prog n) 1000000 b_law_cells_1) (N := js.length)
    (Inv := fun i ρ h => ∃ (z : Int) (k b a : Option S), ρ = [some sc, some (.v (.int 1)), some (.r 0), k, b, a] ∧ h = [.lst [.int z]])
    (fun ρ h _ => by have := enm_end h (js.map U.int); rw [List.length_map] at this; exact this)
    (fun i ρ h hi ⟨z, k, b, a, e1, e2⟩ => by
      subst e1 e2
      have hx : (js.map U.int)[i]? = some (.int js[i]) := by rw [List.getElem?_map, List.getElem?_eq_getElem hi]; rfl
      refine ⟨_, [some sc, some (.v (.int 1)), some (.r 0), some (.v (.int i)), some (.v (.int js[i])), a], by rw [enm_at, hx]; rfl, by simp only [e_s, e_t, e_var, e_c, e_gl, e_fn, e_bin, e_cmp, e_ch, e_nt, e_and, e_or, e_ife, e_tup, e_lst, e_neg, e_idx, e_slc, e_on, e_os, e_rev, e_nr, e_nil, e_cons, e_call, e_bi, e_isi, e_met, e_lc, r_v, r_r, i_v, i_r, i_l, t_ok, b1_ok, b2_ok, c1_ok, c2_ok, oB_ok, h1_ok, h2_ok, h3_t, h3_f, h4_ok, n1_ok, a1_ok, a2_t, a2_f, o1_ok, o2_t, o2_f, tr_v, tr_l, tr_r, ts_v, f1_t, f1_f, p1_ok, l1_ok, au_n, au_c, om_s, g1_ok, x1_ok, x2_ok, s1_ok, s2_ok, s3_ok, q1_ok, v1_ok, w1_n, w1_r, k1_ok, k2_ok, d1_ok, d2_ok, d3_ok, y1_ok, z1_ok, z2_ok, m1_ok, mG_ok, m2_ok, lc1_ok, lc2_ok, ofO_s, ofP_s, s_cons, s_nil, s_asg, s_ifs, s_for, s_ret, s_ex, g_nm, g_sub, S1_ok, nE_ok, N1_ok, R_ok, I1_t, I1_f, F1_ok, T1_ok, E1_ok, B0_ok, B1_ok, B2_ok, B3_ok, A_nx, A_rt, V_v, V_r, V_l, W_v, W_l, i_val, i_rng, i_enm, i_zip, iv_s, iv_l, iv_t, iv_f, ir_1, ir_2, ie_l, iz_1, iz_l, iz_t, t1_nm, t1_tp, ts_nil, ts_cons, k_none, k_some, B_add, B_sub, C_lt, C_le, C_gt, C_ge, C_eq, C_ne, C_eqs, C_nes, L_int, L_intb, L_abs, L_lenl, L_lent, L_lenf, L_tup, truU, List.getElem?_cons_succ, List.getElem?_cons_zero, List.set_cons_succ, List.set_cons_zero, List.map_cons, List.map_nil, List.cons_append, List.nil_append, List.replicate_succ, List.replicate_zero], ?_⟩
      have x0 : ∀ i : Int, idxS [.lst [.int i]] (.r 0) (.v (.int 0)) = some (.v (.int i)) := fun i => X_r _ rfl rfl rfl
      have g0 : ∀ i u : Int, gSubS [.lst [.int i]] (.r 0) (.v (.int 0)) (.int u) = some [.lst [.int u]] := fun i u => rfl
      have m1 : ∀ h, binS .mod h (.v (.int (i : Int))) (.v (.int 1)) = some (.v (.int 0)) := fun h => by rw [B_mod _ _ _ (by decide), Int.emod_one]
      simp only [b_law_cells_1]
      simp only [e_s, e_t, e_var, e_c, e_gl, e_fn, e_bin, e_cmp, e_ch, e_nt, e_and, e_or, e_ife, e_tup, e_lst, e_neg, e_idx, e_slc, e_on, e_os, e_rev, e_nr, e_nil, e_cons, e_call, e_bi, e_isi, e_met, e_lc, r_v, r_r, i_v, i_r, i_l, t_ok, b1_ok, b2_ok, c1_ok, c2_ok, oB_ok, h1_ok, h2_ok, h3_t, h3_f, h4_ok, n1_ok, a1_ok, a2_t, a2_f, o1_ok, o2_t, o2_f, tr_v, tr_l, tr_r, ts_v, f1_t, f1_f, p1_ok, l1_ok, au_n, au_c, om_s, g1_ok, x1_ok, x2_ok, s1_ok, s2_ok, s3_ok, q1_ok, v1_ok, w1_n, w1_r, k1_ok, k2_ok, d1_ok, d2_ok, d3_ok, y1_ok, z1_ok, z2_ok, m1_ok, mG_ok, m2_ok, lc1_ok, lc2_ok, ofO_s, ofP_s, s_cons, s_nil, s_asg, s_ifs, s_for, s_ret, s_ex, g_nm, g_sub, S1_ok, nE_ok, N1_ok, R_ok, I1_t, I1_f, F1_ok, T1_ok, E1_ok, B0_ok, B1_ok, B2_ok, B3_ok, A_nx, A_rt, V_v, V_r, V_l, W_v, W_l, i_val, i_rng, i_enm, i_zip, iv_s, iv_l, iv_t, iv_f, ir_1, ir_2, ie_l, iz_1, iz_l, iz_t, t1_nm, t1_tp, ts_nil, ts_cons, k_none, k_some, B_add, B_sub, C_lt, C_le, C_gt, C_ge, C_eq, C_ne, C_eqs, C_nes, L_int, L_intb, L_abs, L_lenl, L_lent, L_lenf, L_tup, truU, List.getElem?_cons_succ, List.getElem?_cons_zero, List.set_cons_succ, List.set_cons_zero, List.map_cons, List.map_nil, List.cons_append, List.nil_append, List.replicate_succ, List.replicate_zero, m1, x0, g0, B_mul _ _ ((i : Int) + 2) (mulOk_r (by omega) (by omega))]
      exact ⟨_, _, rfl, _, _, _, _, rfl, rfl⟩) js.length 0 _ _ (by omega) ⟨z0, none, none, none, rfl, rfl⟩
  exact ⟨z, _, e⟩
theorem cut_tail (ns : List Int) : ∃ js : List Int, cut (ns.map U.int) (some 1) (some 63) = js.map U.int ∧ js.length ≤ 63 := by
  refine ⟨cut ns (some 1) (some 63), by unfold cut sIx; simp [List.map_take, List.map_drop], ?_⟩
  unfold cut sIx
  simp
  omega
theorem cells_ok (n : Nat) (ns : List Int) : ∃ z : Int, (cc prog (n + 1)).call 55 [.v (.frz (ns.map .int)), .v (.int 1)] [] = .ok (.nw (.lst [.int z])) [] := by
  obtain ⟨js, e1, e2⟩ := cut_tail ns
  rw [call_eq (d := d_b_law_cells) rfl, runF_eq _ _ _ _ _ rfl]
  simp only [d_b_law_cells, b_law_cells, Nat.reduceSub]
  cases ns with
  | nil =>
    have c1 : cut ([] : List U) none (some 1) = [] := rfl
    rw [List.map_nil] at e1
    obtain ⟨z, ρ', e3⟩ := cells_loop n (.v (.frz [])) 0 js e2
    simp only [e_s, e_t, e_var, e_c, e_gl, e_fn, e_bin, e_cmp, e_ch, e_nt, e_and, e_or, e_ife, e_tup, e_lst, e_neg, e_idx, e_slc, e_on, e_os, e_rev, e_nr, e_nil, e_cons, e_call, e_bi, e_isi, e_met, e_lc, r_v, r_r, i_v, i_r, i_l, t_ok, b1_ok, b2_ok, c1_ok, c2_ok, oB_ok, h1_ok, h2_ok, h3_t, h3_f, h4_ok, n1_ok, a1_ok, a2_t, a2_f, o1_ok, o2_t, o2_f, tr_v, tr_l, tr_r, ts_v, f1_t, f1_f, p1_ok, l1_ok, au_n, au_c, om_s, g1_ok, x1_ok, x2_ok, s1_ok, s2_ok, s3_ok, q1_ok, v1_ok, w1_n, w1_r, k1_ok, k2_ok, d1_ok, d2_ok, d3_ok, y1_ok, z1_ok, z2_ok, m1_ok, mG_ok, m2_ok, lc1_ok, lc2_ok, ofO_s, ofP_s, s_cons, s_nil, s_asg, s_ifs, s_for, s_ret, s_ex, g_nm, g_sub, S1_ok, nE_ok, N1_ok, R_ok, I1_t, I1_f, F1_ok, T1_ok, E1_ok, B0_ok, B1_ok, B2_ok, B3_ok, A_nx, A_rt, V_v, V_r, V_l, W_v, W_l, i_val, i_rng, i_enm, i_zip, iv_s, iv_l, iv_t, iv_f, ir_1, ir_2, ie_l, iz_1, iz_l, iz_t, t1_nm, t1_tp, ts_nil, ts_cons, k_none, k_some, B_add, B_sub, C_lt, C_le, C_gt, C_ge, C_eq, C_ne, C_eqs, C_nes, L_int, L_intb, L_abs, L_lenl, L_lent, L_lenf, L_tup, truU, List.getElem?_cons_succ, List.getElem?_cons_zero, List.set_cons_succ, List.set_cons_zero, List.map_cons, List.map_nil, List.cons_append, List.nil_append, List.replicate_succ, List.replicate_zero, slc_f, L_list, c1, List.isEmpty_nil, Bool.not_true, l2_ok _ [.int 0] (by decide), List.length_nil, e1, List.length_map, e3]
    exact ⟨z, rfl⟩
  | cons i ns =>
    have c1 : cut (.int i :: ns.map U.int) none (some 1) = [.int i] := by unfold cut sIx; simp
    rw [List.map_cons] at e1
    obtain ⟨z, ρ', e3⟩ := cells_loop n (.v (.frz (.int i :: ns.map U.int))) i js e2
    simp only [e_s, e_t, e_var, e_c, e_gl, e_fn, e_bin, e_cmp, e_ch, e_nt, e_and, e_or, e_ife, e_tup, e_lst, e_neg, e_idx, e_slc, e_on, e_os, e_rev, e_nr, e_nil, e_cons, e_call, e_bi, e_isi, e_met, e_lc, r_v, r_r, i_v, i_r, i_l, t_ok, b1_ok, b2_ok, c1_ok, c2_ok, oB_ok, h1_ok, h2_ok, h3_t, h3_f, h4_ok, n1_ok, a1_ok, a2_t, a2_f, o1_ok, o2_t, o2_f, tr_v, tr_l, tr_r, ts_v, f1_t, f1_f, p1_ok, l1_ok, au_n, au_c, om_s, g1_ok, x1_ok, x2_ok, s1_ok, s2_ok, s3_ok, q1_ok, v1_ok, w1_n, w1_r, k1_ok, k2_ok, d1_ok, d2_ok, d3_ok, y1_ok, z1_ok, z2_ok, m1_ok, mG_ok, m2_ok, lc1_ok, lc2_ok, ofO_s, ofP_s, s_cons, s_nil, s_asg, s_ifs, s_for, s_ret, s_ex, g_nm, g_sub, S1_ok, nE_ok, N1_ok, R_ok, I1_t, I1_f, F1_ok, T1_ok, E1_ok, B0_ok, B1_ok, B2_ok, B3_ok, A_nx, A_rt, V_v, V_r, V_l, W_v, W_l, i_val, i_rng, i_enm, i_zip, iv_s, iv_l, iv_t, iv_f, ir_1, ir_2, ie_l, iz_1, iz_l, iz_t, t1_nm, t1_tp, ts_nil, ts_cons, k_none, k_some, B_add, B_sub, C_lt, C_le, C_gt, C_ge, C_eq, C_ne, C_eqs, C_nes, L_int, L_intb, L_abs, L_lenl, L_lent, L_lenf, L_tup, truU, List.getElem?_cons_succ, List.getElem?_cons_zero, List.set_cons_succ, List.set_cons_zero, List.map_cons, List.map_nil, List.cons_append, List.nil_append, List.replicate_succ, List.replicate_zero, slc_f, L_list, c1, List.isEmpty_cons, Bool.not_false, List.length_nil, e1, List.length_map, e3]
    exact ⟨z, rfl⟩
theorem box_ok (n : Nat) (z : Int) : ∃ xs, (cc prog (n + 1)).call 53 [.v (.lst [.int z]), .v (.int 0)] [] = .ok (.nw (.lst xs)) [] ∧ Tin 0 xs := by
  have key : ∃ a b : Int, (cc prog (n + 1)).call 53 [.v (.lst [.int z]), .v (.int 0)] [] = .ok (.nw (.lst [.int a, .int b, .int 0])) [] := by
    rw [call_eq (d := d_b_law_box) rfl, runF_eq _ _ _ _ _ rfl]
    simp only [d_b_law_box, b_law_box, Nat.reduceSub]
    have x0 : idxS [] (.v (.lst [.int z])) (.v (.int 0)) = some (.v (.int z)) := X_l _ rfl rfl
    have l1 : decide ((0 : Int) < ((([U.int z] : List U).length : Nat) : Int)) = true := by simp
    have pw : binS .pow [] (.v (.int 10)) (.v (.int 18)) = some (.v (.int (10 ^ 18))) := rfl
    have mb : ∀ (i : Int) (b : Bool), binS .mul [] (.v (.int i)) (.v (.int (if b = true then 1 else 0))) = some (.v (.int (i * (if b = true then 1 else 0)))) := fun i b => B_mul _ _ _ (by cases b <;> exact mulOk_r (by decide) (by decide))
    simp only [e_s, e_t, e_var, e_c, e_gl, e_fn, e_bin, e_cmp, e_ch, e_nt, e_and, e_or, e_ife, e_tup, e_lst, e_neg, e_idx, e_slc, e_on, e_os, e_rev, e_nr, e_nil, e_cons, e_call, e_bi, e_isi, e_met, e_lc, r_v, r_r, i_v, i_r, i_l, t_ok, b1_ok, b2_ok, c1_ok, c2_ok, oB_ok, h1_ok, h2_ok, h3_t, h3_f, h4_ok, n1_ok, a1_ok, a2_t, a2_f, o1_ok, o2_t, o2_f, tr_v, tr_l, tr_r, ts_v, f1_t, f1_f, p1_ok, l1_ok, au_n, au_c, om_s, g1_ok, x1_ok, x2_ok, s1_ok, s2_ok, s3_ok, q1_ok, v1_ok, w1_n, w1_r, k1_ok, k2_ok, d1_ok, d2_ok, d3_ok, y1_ok, z1_ok, z2_ok, m1_ok, mG_ok, m2_ok, lc1_ok, lc2_ok, ofO_s, ofP_s, s_cons, s_nil, s_asg, s_ifs, s_for, s_ret, s_ex, g_nm, g_sub, S1_ok, nE_ok, N1_ok, R_ok, I1_t, I1_f, F1_ok, T1_ok, E1_ok, B0_ok, B1_ok, B2_ok, B3_ok, A_nx, A_rt, V_v, V_r, V_l, W_v, W_l, i_val, i_rng, i_enm, i_zip, iv_s, iv_l, iv_t, iv_f, ir_1, ir_2, ie_l, iz_1, iz_l, iz_t, t1_nm, t1_tp, ts_nil, ts_cons, k_none, k_some, B_add, B_sub, C_lt, C_le, C_gt, C_ge, C_eq, C_ne, C_eqs, C_nes, L_int, L_intb, L_abs, L_lenl, L_lent, L_lenf, L_tup, truU, List.getElem?_cons_succ, List.getElem?_cons_zero, List.set_cons_succ, List.set_cons_zero, List.map_cons, List.map_nil, List.cons_append, List.nil_append, List.replicate_succ, List.replicate_zero, l1, x0, pw, mb, B_mod _ _ 2305843009213693951 (by decide), B_mul _ 39373 0 (mulOk_l (by decide) (by decide))]
    rw [l2_ok _ _ (by show 3 ≤ lim; decide)]
    exact ⟨_, _, rfl⟩
  obtain ⟨a, b, e⟩ := key
  exact ⟨_, e, a, b, 0, rfl, by omega, by omega⟩

theorem tin_le {t t' : Nat} {xs : List U} (h : Tin t xs) (e : t ≤ t') : Tin t' xs := by
  obtain ⟨a, b, c, h1, h2, h3⟩ := h
  exact ⟨a, b, c, h1, h2, by omega⟩
theorem seq1 {c : CC} {k : Nat} {s : IS} {ss : ISs} {ρ ρ1 : Rho} {h h1 : Hs} (e : evS c k s ρ h = .nx ρ1 h1) : evSs c k (.cons s ss) ρ h = evSs c k ss ρ1 h1 := by
  rw [s_cons, e]
  rfl
theorem take_hd (n t : Nat) {xs : List U} {m : Int} (hs : Hs) (hT : Tin t xs) (ht : t < 1000000000) (hm : 0 < m) (hm2 : m.natAbs < 2 ^ 250) :
    ∃ r xs', doCall (cc prog (n + 1)) 54 [.r 0, .v (.int m)] (.lst xs :: hs) = .ok (.v (.int r)) (.lst xs' :: hs) ∧ 0 ≤ r ∧ r < m ∧ Tin (t + 1) xs' := take_hp n t (h := .lst xs :: hs) (i := 0) rfl hT ht hm hm2
theorem pop_at {h : Hs} {k : Nat} {ps : List U} {r : Int} {j : Nat} {u : U} (hk : h[k]? = some (.lst ps)) (hl : ps.length ≤ lim) (ix : ixU ps.length r = some j) (hj : ps[j]? = some u) : metS .pop h (.r k) [.v (.int r)] = some (.v u, h.set k (.lst (ps.eraseIdx j))) := by
  show popM h (.r k) [.v (.int r)] = _
  unfold popM onL
  simp only [hk, hl, ix, hj, if_true]
theorem app_at {h : Hs} {k : Nat} {ps : List U} {u : U} (hk : h[k]? = some (.lst ps)) (hl : ps.length < lim) : metS .append h (.r k) [.v u] = some (.v .non, h.set k (.lst (ps ++ [u]))) := by
  show appM h (.r k) [.v u] = _
  unfold appM onL
  simp only [hk, hl, if_true]
theorem mem_erase {us ps : List U} {j : Nat} (h : ∀ p ∈ ps, p ∈ us) : ∀ p ∈ ps.eraseIdx j, p ∈ us := fun p hp => h p (List.mem_of_mem_eraseIdx hp)
theorem lim_of {a : Nat} (h : a ≤ 1000) : a < lim := Nat.lt_of_le_of_lt h (by decide)
theorem pickN_ok (n t : Nat) (xs us : List U) (m : Int) (hT : Tin t xs) (ht : t + us.length < 1000000000) (hl : us.length ≤ 1000) (hm : 0 ≤ m) (hm2 : m ≤ 1000) :
    ∃ vs xs', (cc prog (n + 2)).call 56 [.r 0, .v (.lst us), .v (.int m)] [.lst xs] = .ok (.nw (.lst vs)) [.lst xs'] ∧ (∀ v ∈ vs, v ∈ us) ∧ vs.length ≤ 1000 ∧ Tin (t + us.length) xs' := by
  obtain ⟨N, hN, hN2, hN3⟩ : ∃ N : Nat, (if (us.length : Int) < m then (us.length : Int) else m) = (N : Int) ∧ N ≤ us.length ∧ N ≤ 1000 := by
    split
    · exact ⟨us.length, rfl, Nat.le_refl _, hl⟩
    · exact ⟨m.toNat, by omega, by omega, by omega⟩
  obtain ⟨ρ', h', e, x2, ps, fs, lp, rfl, rfl, T2, l2, p2, f2, l3⟩ := for_ex (src := .rng 0 1 N) (g := evT1 (cc prog (n + 1)) (.nm 3)) (b := evSs (cc prog (n + 1)) 1000000 b_law_pick_1) (N := N)
    (Inv := fun i ρ h => ∃ (x2 ps fs : List U) (lp : Option S), ρ = [some (.r 0), some (.v (.lst us)), some (.v (.int m)), lp, some (.r 1), some (.r 2)] ∧ h = [.lst x2, .lst ps, .lst fs] ∧ Tin (t + i) x2 ∧ ps.length = us.length - i ∧ (∀ p ∈ ps, p ∈ us) ∧ (∀ f ∈ fs, f ∈ us) ∧ fs.length = i)
    (fun ρ h _ => rng_end _ _ _ _)
    (fun i ρ h hi ⟨x2, ps, fs, lp, q1, q2, T, l1, p1, f1, l3⟩ => by
      subst q1 q2
      have hp : 0 < ps.length := by omega
      obtain ⟨r, x3, e1, r0, r1, T1⟩ := take_hd n (t + i) (m := (ps.length : Int)) [.lst ps, .lst fs] T (by omega) (by omega) (by rw [Int.natAbs_natCast]; exact Nat.lt_of_le_of_lt (show ps.length ≤ 1000 by omega) (by decide))
      have hr : r.toNat < ps.length := by omega
      have ix : ixU ps.length r = some r.toNat := by unfold ixU; rw [if_pos r0, if_pos r1]
      have hg : ps[r.toNat]? = some ps[r.toNat] := List.getElem?_eq_getElem hr
      have e2 := pop_at (h := [.lst x3, .lst ps, .lst fs]) (k := 1) rfl (Nat.le_of_lt (lim_of (by omega))) ix hg
      have e3 := app_at (h := [.lst x3, .lst (ps.eraseIdx r.toNat), .lst fs]) (k := 2) (u := ps[r.toNat]) rfl (lim_of (by omega))
      have m1 : ∀ a b c : List U, metT .append [.lst a, .lst b, .lst c] (.r 2) = true := fun _ _ _ => rfl
      have m2 : ∀ a b c : List U, metT .pop [.lst a, .lst b, .lst c] (.r 1) = true := fun _ _ _ => rfl
      have ln : ∀ a b c : List U, bltS .len [.lst a, .lst b, .lst c] [.r 1] = some (.v (.int b.length)) := fun _ _ _ => rfl
      have hmem : ps[r.toNat] ∈ us := p1 _ (List.getElem_mem hr)
      have le : (ps.eraseIdx r.toNat).length = us.length - (i + 1) := by rw [List.length_eraseIdx_of_lt hr]; omega
      generalize ps[r.toNat] = pu at e2 e3 hmem
      have mm := mem_erase (j := r.toNat) p1
      generalize ps.eraseIdx r.toNat = pe at e2 e3 le mm
      refine ⟨.int (0 + i * 1), [some (.r 0), some (.v (.lst us)), some (.v (.int m)), some (.v (.int (0 + i * 1))), some (.r 1), some (.r 2)], rng_at _ hi, by simp only [e_s, e_t, e_var, e_c, e_gl, e_fn, e_bin, e_cmp, e_ch, e_nt, e_and, e_or, e_ife, e_tup, e_lst, e_neg, e_idx, e_slc, e_on, e_os, e_rev, e_nr, e_nil, e_cons, e_call, e_bi, e_isi, e_met, e_lc, r_v, r_r, i_v, i_r, i_l, t_ok, b1_ok, b2_ok, c1_ok, c2_ok, oB_ok, h1_ok, h2_ok, h3_t, h3_f, h4_ok, n1_ok, a1_ok, a2_t, a2_f, o1_ok, o2_t, o2_f, tr_v, tr_l, tr_r, ts_v, f1_t, f1_f, p1_ok, l1_ok, au_n, au_c, om_s, g1_ok, x1_ok, x2_ok, s1_ok, s2_ok, s3_ok, q1_ok, v1_ok, w1_n, w1_r, k1_ok, k2_ok, d1_ok, d2_ok, d3_ok, y1_ok, z1_ok, z2_ok, m1_ok, mG_ok, m2_ok, lc1_ok, lc2_ok, ofO_s, ofP_s, s_cons, s_nil, s_asg, s_ifs, s_for, s_ret, s_ex, g_nm, g_sub, S1_ok, nE_ok, N1_ok, R_ok, I1_t, I1_f, F1_ok, T1_ok, E1_ok, B0_ok, B1_ok, B2_ok, B3_ok, A_nx, A_rt, V_v, V_r, V_l, W_v, W_l, i_val, i_rng, i_enm, i_zip, iv_s, iv_l, iv_t, iv_f, ir_1, ir_2, ie_l, iz_1, iz_l, iz_t, t1_nm, t1_tp, ts_nil, ts_cons, k_none, k_some, B_add, B_sub, C_lt, C_le, C_gt, C_ge, C_eq, C_ne, C_eqs, C_nes, L_int, L_intb, L_abs, L_lenl, L_lent, L_lenf, L_tup, truU, List.getElem?_cons_succ, List.getElem?_cons_zero, List.set_cons_succ, List.set_cons_zero, List.map_cons, List.map_nil, List.cons_append, List.nil_append, List.replicate_succ, List.replicate_zero], ?_⟩
      have eb : evSs (cc prog (n + 1)) 1000000 b_law_pick_1 [some (.r 0), some (.v (.lst us)), some (.v (.int m)), some (.v (.int (0 + i * 1))), some (.r 1), some (.r 2)] [.lst x2, .lst ps, .lst fs] = .nx [some (.r 0), some (.v (.lst us)), some (.v (.int m)), some (.v (.int (0 + i * 1))), some (.r 1), some (.r 2)] [.lst x3, .lst pe, .lst (fs ++ [pu])] := by
        simp only [b_law_pick_1]
        simp only [e_s, e_t, e_var, e_c, e_gl, e_fn, e_bin, e_cmp, e_ch, e_nt, e_and, e_or, e_ife, e_tup, e_lst, e_neg, e_idx, e_slc, e_on, e_os, e_rev, e_nr, e_nil, e_cons, e_call, e_bi, e_isi, e_met, e_lc, r_v, r_r, i_v, i_r, i_l, t_ok, b1_ok, b2_ok, c1_ok, c2_ok, oB_ok, h1_ok, h2_ok, h3_t, h3_f, h4_ok, n1_ok, a1_ok, a2_t, a2_f, o1_ok, o2_t, o2_f, tr_v, tr_l, tr_r, ts_v, f1_t, f1_f, p1_ok, l1_ok, au_n, au_c, om_s, g1_ok, x1_ok, x2_ok, s1_ok, s2_ok, s3_ok, q1_ok, v1_ok, w1_n, w1_r, k1_ok, k2_ok, d1_ok, d2_ok, d3_ok, y1_ok, z1_ok, z2_ok, m1_ok, mG_ok, m2_ok, lc1_ok, lc2_ok, ofO_s, ofP_s, s_cons, s_nil, s_asg, s_ifs, s_for, s_ret, s_ex, g_nm, g_sub, S1_ok, nE_ok, N1_ok, R_ok, I1_t, I1_f, F1_ok, T1_ok, E1_ok, B0_ok, B1_ok, B2_ok, B3_ok, A_nx, A_rt, V_v, V_r, V_l, W_v, W_l, i_val, i_rng, i_enm, i_zip, iv_s, iv_l, iv_t, iv_f, ir_1, ir_2, ie_l, iz_1, iz_l, iz_t, t1_nm, t1_tp, ts_nil, ts_cons, k_none, k_some, B_add, B_sub, C_lt, C_le, C_gt, C_ge, C_eq, C_ne, C_eqs, C_nes, L_int, L_intb, L_abs, L_lenl, L_lent, L_lenf, L_tup, truU, List.getElem?_cons_succ, List.getElem?_cons_zero, List.set_cons_succ, List.set_cons_zero, List.map_cons, List.map_nil, List.cons_append, List.nil_append, List.replicate_succ, List.replicate_zero, m1, m2, ln, ar2 54 _ _ _ rfl rfl, e1, e2, e3]
      exact ⟨_, _, eb, x3, pe, fs ++ [pu], _, rfl, rfl, T1, le, mm, fun f hf => by
        rcases List.mem_append.mp hf with q | q
        · exact f1 f q
        · have : f = pu := by simpa using q
          subst this; exact hmem, by rw [List.length_append, l3]; rfl⟩) N 0 [some (.r 0), some (.v (.lst us)), some (.v (.int m)), none, some (.r 1), some (.r 2)] [.lst xs, .lst us, .lst []] (by omega) ⟨xs, us, [], none, rfl, rfl, hT, by omega, fun p hp => hp, fun f hf => (by cases hf), rfl⟩
  refine ⟨fs, x2, ?_, f2, by omega, tin_le T2 (by omega)⟩
  rw [call_eq (d := d_b_law_pick) rfl, runF_eq _ _ _ _ _ rfl]
  have hB : d_b_law_pick.body = .cons (.par [4, 5] (.cons (.nr (.bi .list (.cons (.var 1) .nil))) (.cons (.nr (.lst .nil)) .nil))) (.cons (.fors (.nm 3) (.rng (.cons (.bi .min (.cons (.bi .int (.cons (.var 2) .nil)) (.cons (.bi .len (.cons (.var 4) .nil)) .nil))) .nil)) b_law_pick_1) (.cons (.ret (.var 5)) .nil)) := rfl
  rw [hB]
  simp only [show d_b_law_pick.ns = 6 from rfl, show d_b_law_pick.np = 3 from rfl, Nat.reduceSub]
  generalize b_law_pick_1 = lb at *
  have p0 : evS (cc prog (n + 1)) 1000000 (.par [4, 5] (.cons (.nr (.bi .list (.cons (.var 1) .nil))) (.cons (.nr (.lst .nil)) .nil))) [some (.r 0), some (.v (.lst us)), some (.v (.int m)), none, none, none] [.lst xs] = .nx [some (.r 0), some (.v (.lst us)), some (.v (.int m)), none, some (.r 1), some (.r 2)] [.lst xs, .lst us, .lst []] := by kernel_rfl
  have ln : ∀ a b c : List U, bltS .len [.lst a, .lst b, .lst c] [.r 1] = some (.v (.int b.length)) := fun _ _ _ => rfl
  have mn : ∀ (h : Hs) (i j : Int), bltS .min h [.v (.int i), .v (.int j)] = some (.v (.int (if j < i then j else i))) := fun _ _ _ => rfl
  have rn : rngN 0 (N : Int) 1 = some N := by rw [rN_up (by omega) (by omega)]; congr 1
  have e0 : evSs (cc prog (n + 1)) 1000000 (.cons (.fors (.nm 3) (.rng (.cons (.bi .min (.cons (.bi .int (.cons (.var 2) .nil)) (.cons (.bi .len (.cons (.var 4) .nil)) .nil))) .nil)) lb) (.cons (.ret (.var 5)) .nil)) [some (.r 0), some (.v (.lst us)), some (.v (.int m)), none, some (.r 1), some (.r 2)] [.lst xs, .lst us, .lst []] = .rt (.r 2) [.lst x2, .lst ps, .lst fs] := by
    simp only [e_s, e_t, e_var, e_c, e_gl, e_fn, e_bin, e_cmp, e_ch, e_nt, e_and, e_or, e_ife, e_tup, e_lst, e_neg, e_idx, e_slc, e_on, e_os, e_rev, e_nr, e_nil, e_cons, e_call, e_bi, e_isi, e_met, e_lc, r_v, r_r, i_v, i_r, i_l, t_ok, b1_ok, b2_ok, c1_ok, c2_ok, oB_ok, h1_ok, h2_ok, h3_t, h3_f, h4_ok, n1_ok, a1_ok, a2_t, a2_f, o1_ok, o2_t, o2_f, tr_v, tr_l, tr_r, ts_v, f1_t, f1_f, p1_ok, l1_ok, au_n, au_c, om_s, g1_ok, x1_ok, x2_ok, s1_ok, s2_ok, s3_ok, q1_ok, v1_ok, w1_n, w1_r, k1_ok, k2_ok, d1_ok, d2_ok, d3_ok, y1_ok, z1_ok, z2_ok, m1_ok, mG_ok, m2_ok, lc1_ok, lc2_ok, ofO_s, ofP_s, s_cons, s_nil, s_asg, s_ifs, s_for, s_ret, s_ex, g_nm, g_sub, S1_ok, nE_ok, N1_ok, R_ok, I1_t, I1_f, F1_ok, T1_ok, E1_ok, B0_ok, B1_ok, B2_ok, B3_ok, A_nx, A_rt, V_v, V_r, V_l, W_v, W_l, i_val, i_rng, i_enm, i_zip, iv_s, iv_l, iv_t, iv_f, ir_1, ir_2, ie_l, iz_1, iz_l, iz_t, t1_nm, t1_tp, ts_nil, ts_cons, k_none, k_some, B_add, B_sub, C_lt, C_le, C_gt, C_ge, C_eq, C_ne, C_eqs, C_nes, L_int, L_intb, L_abs, L_lenl, L_lent, L_lenf, L_tup, truU, List.getElem?_cons_succ, List.getElem?_cons_zero, List.set_cons_succ, List.set_cons_zero, List.map_cons, List.map_nil, List.cons_append, List.nil_append, List.replicate_succ, List.replicate_zero, ln, mn, hN, rn, e]
  have e1 := (seq1 p0).trans e0
  show (match evSs (cc prog (n + 1)) 1000000 _ [some (.r 0), some (.v (.lst us)), some (.v (.int m)), none, none, none] [.lst xs] with
    | .nx _ h => _
    | .rt r h => leave 1 r h
    | .ex e _ h => _
    | _ => .bad) = _
  rw [e1]
  rfl
theorem pick_hd (n t : Nat) {xs us : List U} (hs : Hs) (m : Int) (hT : Tin t xs) (ht : t + us.length < 1000000000) (hl : us.length ≤ 1000) (hm : 0 ≤ m) (hm2 : m ≤ 1000) :
    ∃ vs xs', doCall (cc prog (n + 2)) 56 [.r 0, .v (.lst us), .v (.int m)] (.lst xs :: hs) = .ok (.nw (.lst vs)) (.lst xs' :: hs) ∧ (∀ v ∈ vs, v ∈ us) ∧ vs.length ≤ 1000 ∧ Tin (t + us.length) xs' := by
  obtain ⟨vs, xs', e, h1, h2, h3⟩ := pickN_ok n t xs us m hT ht hl hm hm2
  exact ⟨vs, xs', doCall_tl (h := .lst xs :: hs) (i := 0) (us := [.lst us, .int m]) rfl e, h1, h2, h3⟩
end VM

namespace VM
open PySem
def kr0 : U := .tup [.tup [.int 0, .int 0, .int 0], .tup [.int 0, .int 0, .int 0], .tup [.int 0, .int 0, .int 0]]
def kr1 : U := .tup [.tup [.int 0, .int 0, .int (-1)], .tup [.int 0, .int 0, .int 0], .tup [.int 0, .int 0, .int 0]]
def kr2 : U := .tup [.tup [.tup [.int 0, .int 0, .int 0], kr0, kr1], .tup []]
def kr3 : U := .tup [.tup [.int 0, .int 0, .int 1], .tup [.int 0, .int 0, .int 0], .tup [.int 0, .int 0, .int 0]]
def kr4 : U := .tup [.tup [.int 0, .int 0], .tup [.tup [.int 0, .int 0], .tup [.int 0, .int 0]], .tup []]
def kr5 : U := .lst [.non, .int 5, .tup [], .str ⟨#[98, 111, 111, 107]⟩, .tup [.tup [.int 0, .int 2, .int 0], kr0, kr3], .tup [.tup [.int 1], .tup [.tup [.int 0]], .tup []], kr4]
def kr6 : U := .tup [.tup [.int 0, .int 1], .tup [.int 0, .int 1], .tup [.int 0, .int 1], .tup [.int 0, .int 1], .tup [.int 0, .int 1], .tup [.int 0, .int 1], .tup [.int 0, .int 1], .tup [.int 0, .int 1], .tup [.int 0, .int 1], .tup [.int 0, .int 1], .tup [.int 0, .int 1], .tup [.int 0, .int 1], .tup [.int 0, .int 1], .tup [.int 0, .int 1], .tup [.int 0, .int 1], .tup [.int 0, .int 1], .tup [.int 0, .int 1], .tup [.int 0, .int 1], .tup [.int 0, .int 1], .tup [.int 0, .int 1], .tup [.int 0, .int 1], .tup [.int 0, .int 1], .tup [.int 0, .int 1], .tup [.int 0, .int 1], .tup [.int 0, .int 1], .tup [.int 0, .int 1], .tup [.int 0, .int 1], .tup [.int 0, .int 1], .tup [.int 0, .int 1], .tup [.int 0, .int 1], .tup [.int 0, .int 1], .tup [.int 0, .int 1], .tup [.int 0, .int 1], .tup [.int 0, .int 1], .tup [.int 0, .int 1], .tup [.int 0, .int 1], .tup [.int 0, .int 1], .tup [.int 0, .int 1], .tup [.int 0, .int 1], .tup [.int 0, .int 1], .tup [.int 0, .int 1], .tup [.int 0, .int 1], .tup [.int 0, .int 1], .tup [.int 0, .int 1], .tup [.int 0, .int 1], .tup [.int 0, .int 1], .tup [.int 0, .int 1], .tup [.int 0, .int 1], .tup [.int 0, .int 1], .tup [.int 0, .int 1], .tup [.int 0, .int 1], .tup [.int 0, .int 1], .tup [.int 0, .int 1], .tup [.int 0, .int 1], .tup [.int 0, .int 1], .tup [.int 0, .int 1], .tup [.int 0, .int 1], .tup [.int 0, .int 1], .tup [.int 0, .int 1], .tup [.int 0, .int 1], .tup [.int 0, .int 1]]
def kr7 : U := .lst [.non, .int 5, .tup [.tup [.int 3, .int 1]], .tup [.tup [.int 0, .int 1001]], .tup [.tup [.int 0]], .tup [.tup [.int 0, .bl true]], kr6, .str ⟨#[119, 111, 114, 100]⟩]
def kr8 : U := .tup [.tup [.tup [.int 0, .int 0, .int 0], kr0, kr1], .tup [.int 0, .int 0, .int 1], .tup [.int 1, .int 0, .int 0]]
def kr9 : U := .lst [.non, .int 5, .tup [.int 0, .int 0], .tup [.int 0, .int 0, .int 0, .int 0], .tup [.int 0, .int 0, .str ⟨#[48]⟩], .tup [.int 0, .int 0, .bl true], .tup [.int 1001, .int 0, .int 0], .str ⟨#[109, 101, 109, 98, 101, 114]⟩]
def kr10 : U := .tup [.tup [.tup [.int 0, .int 0, .int 0], kr0, kr1], .tup [.int 1, .int 0, .int 0]]
def kr11 : U := .tup [.tup [.tup [.int 0, .int 0, .int 0], kr0, kr1], .tup [.int 1, .int 0, .int 0], .int 2]
def kr12 : U := .lst [.non, .bl true, .str ⟨#[49]⟩, .tup [.int 1], .int 1001, .int (-1001)]
def kr13 : U := .tup [.fn 22, .tup [.tup [.tup [.int 0, .int 0, .int 0], kr0, kr1], .non], .int 0, kr5]
def kr14 : U := .tup [.fn 23, .tup [.tup [.tup [.int 0, .int 0, .int 0], kr0, kr1], .non], .int 0, kr5]
def kr15 : U := .tup [.fn 39, .tup [.tup [.tup [.int 0, .int 0, .int 0], kr0, kr1]], .int 0, kr5]
def kr16 : U := .tup [.fn 40, .tup [.tup [.tup [.int 0, .int 0, .int 0], kr0, kr1]], .int 0, kr5]
def kr17 : U := .tup [.fn 41, .tup [.tup [.tup [.int 0, .int 0, .int 0], kr0, kr1]], .int 0, kr5]
def kr18 : U := .tup [.fn 43, .tup [.tup [.tup [.int 0, .int 0, .int 0], kr0, kr1]], .int 0, kr5]
def kr19 : U := .tup [.tup [.tup [.int 0, .int 0, .int 0], kr0, kr1], .tup [.int 1, .int 0, .int 0], .int 1]
def kr20 : U := .lst [.non, .bl true, .str ⟨#[49]⟩, .tup [.int 1], .int 0, .int 61]
def kr21 : U := .tup [.tup [.tup [.int 0, .int 0, .int 0], kr0, kr1], .tup [.int 1, .int 0, .int 0], .int 1, .non]
def ROWS : List U := [.tup [.fn 24, kr2, .int 0, kr5], .tup [.fn 24, kr2, .int 1, kr7], .tup [.fn 25, kr8, .int 0, kr5], .tup [.fn 25, kr8, .int 1, kr9], .tup [.fn 25, kr8, .int 2, kr9], .tup [.fn 28, kr8, .int 0, kr5], .tup [.fn 28, kr8, .int 1, kr9], .tup [.fn 28, kr8, .int 2, kr9], .tup [.fn 29, kr8, .int 0, kr5], .tup [.fn 29, kr8, .int 1, kr9], .tup [.fn 29, kr8, .int 2, kr9], .tup [.fn 30, kr8, .int 0, kr5], .tup [.fn 30, kr8, .int 1, kr9], .tup [.fn 30, kr8, .int 2, kr9], .tup [.fn 27, kr10, .int 0, kr5], .tup [.fn 27, kr10, .int 1, kr9], .tup [.fn 26, kr11, .int 0, kr5], .tup [.fn 26, kr11, .int 1, kr9], .tup [.fn 26, kr11, .int 2, kr12], kr13, kr14, kr15, kr16, kr17, kr18, .tup [.fn 48, kr10, .int 0, kr5], .tup [.fn 48, kr10, .int 1, kr9], .tup [.fn 49, kr19, .int 0, kr5], .tup [.fn 49, kr19, .int 1, kr9], .tup [.fn 49, kr19, .int 2, kr20], .tup [.fn 50, kr19, .int 0, kr5], .tup [.fn 50, kr19, .int 1, kr9], .tup [.fn 50, kr19, .int 2, kr20], .tup [.fn 52, kr19, .int 0, kr5], .tup [.fn 52, kr19, .int 1, kr9], .tup [.fn 52, kr19, .int 2, kr20], .tup [.fn 51, kr21, .int 0, kr5], .tup [.fn 51, kr21, .int 1, kr9], .tup [.fn 51, kr21, .int 2, kr20]]
def RowOk (u : U) : Prop := ∃ d g p b l : U, u = .tup [d, g, p, b] ∧ ∀ (n : Nat) (a1 a6 : Option S), evSs (cc prog (n + 16)) 1000000 b_law_none_fits_2 [some (.v (.fn 65)), a1, some (.v d), some (.v g), some (.v p), some (.v b), a6] [] = .nx [some (.v (.fn 65)), a1, some (.v d), some (.v g), some (.v p), some (.v b), some (.v l)] []
end VM

namespace VM
open PySem
theorem row_0 : RowOk (.tup [.fn 24, kr2, .int 0, kr5]) := ⟨.fn 24, kr2, .int 0, kr5, kr4, rfl, fun n a1 a6 => by kernel_rfl⟩
theorem row_5 : RowOk (.tup [.fn 28, kr8, .int 0, kr5]) := ⟨.fn 28, kr8, .int 0, kr5, kr4, rfl, fun n a1 a6 => by kernel_rfl⟩
theorem row_10 : RowOk (.tup [.fn 29, kr8, .int 2, kr9]) := ⟨.fn 29, kr8, .int 2, kr9, .str ⟨#[109, 101, 109, 98, 101, 114]⟩, rfl, fun n a1 a6 => by kernel_rfl⟩
theorem row_15 : RowOk (.tup [.fn 27, kr10, .int 1, kr9]) := ⟨.fn 27, kr10, .int 1, kr9, .str ⟨#[109, 101, 109, 98, 101, 114]⟩, rfl, fun n a1 a6 => by kernel_rfl⟩
theorem row_20 : RowOk (kr14) := ⟨.fn 23, .tup [.tup [.tup [.int 0, .int 0, .int 0], kr0, kr1], .non], .int 0, kr5, kr4, rfl, fun n a1 a6 => by kernel_rfl⟩
theorem row_25 : RowOk (.tup [.fn 48, kr10, .int 0, kr5]) := ⟨.fn 48, kr10, .int 0, kr5, kr4, rfl, fun n a1 a6 => by kernel_rfl⟩
theorem row_30 : RowOk (.tup [.fn 50, kr19, .int 0, kr5]) := ⟨.fn 50, kr19, .int 0, kr5, kr4, rfl, fun n a1 a6 => by kernel_rfl⟩
theorem row_35 : RowOk (.tup [.fn 52, kr19, .int 2, kr20]) := ⟨.fn 52, kr19, .int 2, kr20, .int 61, rfl, fun n a1 a6 => by kernel_rfl⟩
end VM

namespace VM
open PySem
theorem row_1 : RowOk (.tup [.fn 24, kr2, .int 1, kr7]) := ⟨.fn 24, kr2, .int 1, kr7, .str ⟨#[119, 111, 114, 100]⟩, rfl, fun n a1 a6 => by kernel_rfl⟩
theorem row_6 : RowOk (.tup [.fn 28, kr8, .int 1, kr9]) := ⟨.fn 28, kr8, .int 1, kr9, .str ⟨#[109, 101, 109, 98, 101, 114]⟩, rfl, fun n a1 a6 => by kernel_rfl⟩
theorem row_11 : RowOk (.tup [.fn 30, kr8, .int 0, kr5]) := ⟨.fn 30, kr8, .int 0, kr5, kr4, rfl, fun n a1 a6 => by kernel_rfl⟩
theorem row_16 : RowOk (.tup [.fn 26, kr11, .int 0, kr5]) := ⟨.fn 26, kr11, .int 0, kr5, kr4, rfl, fun n a1 a6 => by kernel_rfl⟩
theorem row_21 : RowOk (kr15) := ⟨.fn 39, .tup [.tup [.tup [.int 0, .int 0, .int 0], kr0, kr1]], .int 0, kr5, kr4, rfl, fun n a1 a6 => by kernel_rfl⟩
theorem row_26 : RowOk (.tup [.fn 48, kr10, .int 1, kr9]) := ⟨.fn 48, kr10, .int 1, kr9, .str ⟨#[109, 101, 109, 98, 101, 114]⟩, rfl, fun n a1 a6 => by kernel_rfl⟩
theorem row_31 : RowOk (.tup [.fn 50, kr19, .int 1, kr9]) := ⟨.fn 50, kr19, .int 1, kr9, .str ⟨#[109, 101, 109, 98, 101, 114]⟩, rfl, fun n a1 a6 => by kernel_rfl⟩
theorem row_36 : RowOk (.tup [.fn 51, kr21, .int 0, kr5]) := ⟨.fn 51, kr21, .int 0, kr5, kr4, rfl, fun n a1 a6 => by kernel_rfl⟩
end VM

namespace VM
open PySem
theorem row_2 : RowOk (.tup [.fn 25, kr8, .int 0, kr5]) := ⟨.fn 25, kr8, .int 0, kr5, kr4, rfl, fun n a1 a6 => by kernel_rfl⟩
theorem row_7 : RowOk (.tup [.fn 28, kr8, .int 2, kr9]) := ⟨.fn 28, kr8, .int 2, kr9, .str ⟨#[109, 101, 109, 98, 101, 114]⟩, rfl, fun n a1 a6 => by kernel_rfl⟩
theorem row_12 : RowOk (.tup [.fn 30, kr8, .int 1, kr9]) := ⟨.fn 30, kr8, .int 1, kr9, .str ⟨#[109, 101, 109, 98, 101, 114]⟩, rfl, fun n a1 a6 => by kernel_rfl⟩
theorem row_17 : RowOk (.tup [.fn 26, kr11, .int 1, kr9]) := ⟨.fn 26, kr11, .int 1, kr9, .str ⟨#[109, 101, 109, 98, 101, 114]⟩, rfl, fun n a1 a6 => by kernel_rfl⟩
theorem row_22 : RowOk (kr16) := ⟨.fn 40, .tup [.tup [.tup [.int 0, .int 0, .int 0], kr0, kr1]], .int 0, kr5, kr4, rfl, fun n a1 a6 => by kernel_rfl⟩
theorem row_27 : RowOk (.tup [.fn 49, kr19, .int 0, kr5]) := ⟨.fn 49, kr19, .int 0, kr5, kr4, rfl, fun n a1 a6 => by kernel_rfl⟩
theorem row_32 : RowOk (.tup [.fn 50, kr19, .int 2, kr20]) := ⟨.fn 50, kr19, .int 2, kr20, .int 61, rfl, fun n a1 a6 => by kernel_rfl⟩
theorem row_37 : RowOk (.tup [.fn 51, kr21, .int 1, kr9]) := ⟨.fn 51, kr21, .int 1, kr9, .str ⟨#[109, 101, 109, 98, 101, 114]⟩, rfl, fun n a1 a6 => by kernel_rfl⟩
end VM

namespace VM
open PySem
theorem row_3 : RowOk (.tup [.fn 25, kr8, .int 1, kr9]) := ⟨.fn 25, kr8, .int 1, kr9, .str ⟨#[109, 101, 109, 98, 101, 114]⟩, rfl, fun n a1 a6 => by kernel_rfl⟩
theorem row_8 : RowOk (.tup [.fn 29, kr8, .int 0, kr5]) := ⟨.fn 29, kr8, .int 0, kr5, kr4, rfl, fun n a1 a6 => by kernel_rfl⟩
theorem row_13 : RowOk (.tup [.fn 30, kr8, .int 2, kr9]) := ⟨.fn 30, kr8, .int 2, kr9, .str ⟨#[109, 101, 109, 98, 101, 114]⟩, rfl, fun n a1 a6 => by kernel_rfl⟩
theorem row_18 : RowOk (.tup [.fn 26, kr11, .int 2, kr12]) := ⟨.fn 26, kr11, .int 2, kr12, .int (-1001), rfl, fun n a1 a6 => by kernel_rfl⟩
theorem row_23 : RowOk (kr17) := ⟨.fn 41, .tup [.tup [.tup [.int 0, .int 0, .int 0], kr0, kr1]], .int 0, kr5, kr4, rfl, fun n a1 a6 => by kernel_rfl⟩
theorem row_28 : RowOk (.tup [.fn 49, kr19, .int 1, kr9]) := ⟨.fn 49, kr19, .int 1, kr9, .str ⟨#[109, 101, 109, 98, 101, 114]⟩, rfl, fun n a1 a6 => by kernel_rfl⟩
theorem row_33 : RowOk (.tup [.fn 52, kr19, .int 0, kr5]) := ⟨.fn 52, kr19, .int 0, kr5, kr4, rfl, fun n a1 a6 => by kernel_rfl⟩
theorem row_38 : RowOk (.tup [.fn 51, kr21, .int 2, kr20]) := ⟨.fn 51, kr21, .int 2, kr20, .int 61, rfl, fun n a1 a6 => by kernel_rfl⟩
end VM

namespace VM
open PySem
theorem row_4 : RowOk (.tup [.fn 25, kr8, .int 2, kr9]) := ⟨.fn 25, kr8, .int 2, kr9, .str ⟨#[109, 101, 109, 98, 101, 114]⟩, rfl, fun n a1 a6 => by kernel_rfl⟩
theorem row_9 : RowOk (.tup [.fn 29, kr8, .int 1, kr9]) := ⟨.fn 29, kr8, .int 1, kr9, .str ⟨#[109, 101, 109, 98, 101, 114]⟩, rfl, fun n a1 a6 => by kernel_rfl⟩
theorem row_14 : RowOk (.tup [.fn 27, kr10, .int 0, kr5]) := ⟨.fn 27, kr10, .int 0, kr5, kr4, rfl, fun n a1 a6 => by kernel_rfl⟩
theorem row_19 : RowOk (kr13) := ⟨.fn 22, .tup [.tup [.tup [.int 0, .int 0, .int 0], kr0, kr1], .non], .int 0, kr5, kr4, rfl, fun n a1 a6 => by kernel_rfl⟩
theorem row_24 : RowOk (kr18) := ⟨.fn 43, .tup [.tup [.tup [.int 0, .int 0, .int 0], kr0, kr1]], .int 0, kr5, kr4, rfl, fun n a1 a6 => by kernel_rfl⟩
theorem row_29 : RowOk (.tup [.fn 49, kr19, .int 2, kr20]) := ⟨.fn 49, kr19, .int 2, kr20, .int 61, rfl, fun n a1 a6 => by kernel_rfl⟩
theorem row_34 : RowOk (.tup [.fn 52, kr19, .int 1, kr9]) := ⟨.fn 52, kr19, .int 1, kr9, .str ⟨#[109, 101, 109, 98, 101, 114]⟩, rfl, fun n a1 a6 => by kernel_rfl⟩
end VM

namespace VM
open PySem
theorem rows_ok : ∀ u ∈ ROWS, RowOk u := by
  intro u hu
  unfold ROWS at hu
  simp only [List.mem_cons, List.not_mem_nil, or_false] at hu
  rcases hu with rfl | rfl | rfl | rfl | rfl | rfl | rfl | rfl | rfl | rfl | rfl | rfl | rfl | rfl | rfl | rfl | rfl | rfl | rfl | rfl | rfl | rfl | rfl | rfl | rfl | rfl | rfl | rfl | rfl | rfl | rfl | rfl | rfl | rfl | rfl | rfl | rfl | rfl | rfl
  · exact row_0
  · exact row_1
  · exact row_2
  · exact row_3
  · exact row_4
  · exact row_5
  · exact row_6
  · exact row_7
  · exact row_8
  · exact row_9
  · exact row_10
  · exact row_11
  · exact row_12
  · exact row_13
  · exact row_14
  · exact row_15
  · exact row_16
  · exact row_17
  · exact row_18
  · exact row_19
  · exact row_20
  · exact row_21
  · exact row_22
  · exact row_23
  · exact row_24
  · exact row_25
  · exact row_26
  · exact row_27
  · exact row_28
  · exact row_29
  · exact row_30
  · exact row_31
  · exact row_32
  · exact row_33
  · exact row_34
  · exact row_35
  · exact row_36
  · exact row_37
  · exact row_38
theorem refusals_ok (n : Nat) : (cc prog (n + 16)).call 66 [] [] = .ok (.nw (.lst ROWS)) [] := by kernel_rfl
theorem nf_ok (n : Nat) (vs : List U) (hv : ∀ v ∈ vs, v ∈ ROWS) (hl : vs.length ≤ 1000) : (cc prog (n + 17)).call 64 [.v (.fn 65), .v (.lst vs)] [] = .ok (.v (.bl true)) [] := by
  obtain ⟨ρ', h', e, a2, a3, a4, a5, a6, rfl, rfl⟩ := for_ex (src := .seq (.v (.lst vs))) (g := evT1 (cc prog (n + 16)) (.tp (.cons (.nm 2) (.cons (.nm 3) (.cons (.nm 4) (.cons (.nm 5) .nil)))))) (b := evSs (cc prog (n + 16)) 1000000 b_law_none_fits_2) (N := vs.length)
    (Inv := fun i ρ h => ∃ a2 a3 a4 a5 a6 : Option S, ρ = [some (.v (.fn 65)), some (.v (.lst vs)), a2, a3, a4, a5, a6] ∧ h = [])
    (fun ρ h _ => lst_end _ _)
    (fun i ρ h hi ⟨a2, a3, a4, a5, a6, q1, q2⟩ => by
      subst q1 q2
      have hg : vs[i]? = some vs[i] := List.getElem?_eq_getElem hi
      obtain ⟨d, g, p, b, l, e1, e2⟩ := rows_ok _ (hv _ (List.getElem_mem hi))
      rw [e1] at hg
      exact ⟨_, [some (.v (.fn 65)), some (.v (.lst vs)), some (.v d), some (.v g), some (.v p), some (.v b), a6], hg, by simp only [e_s, e_t, e_var, e_c, e_gl, e_fn, e_bin, e_cmp, e_ch, e_nt, e_and, e_or, e_ife, e_tup, e_lst, e_neg, e_idx, e_slc, e_on, e_os, e_rev, e_nr, e_nil, e_cons, e_call, e_bi, e_isi, e_met, e_lc, r_v, r_r, i_v, i_r, i_l, t_ok, b1_ok, b2_ok, c1_ok, c2_ok, oB_ok, h1_ok, h2_ok, h3_t, h3_f, h4_ok, n1_ok, a1_ok, a2_t, a2_f, o1_ok, o2_t, o2_f, tr_v, tr_l, tr_r, ts_v, f1_t, f1_f, p1_ok, l1_ok, au_n, au_c, om_s, g1_ok, x1_ok, x2_ok, s1_ok, s2_ok, s3_ok, q1_ok, v1_ok, w1_n, w1_r, k1_ok, k2_ok, d1_ok, d2_ok, d3_ok, y1_ok, z1_ok, z2_ok, m1_ok, mG_ok, m2_ok, lc1_ok, lc2_ok, ofO_s, ofP_s, s_cons, s_nil, s_asg, s_ifs, s_for, s_ret, s_ex, g_nm, g_sub, S1_ok, nE_ok, N1_ok, R_ok, I1_t, I1_f, F1_ok, T1_ok, E1_ok, B0_ok, B1_ok, B2_ok, B3_ok, A_nx, A_rt, V_v, V_r, V_l, W_v, W_l, i_val, i_rng, i_enm, i_zip, iv_s, iv_l, iv_t, iv_f, ir_1, ir_2, ie_l, iz_1, iz_l, iz_t, t1_nm, t1_tp, ts_nil, ts_cons, k_none, k_some, B_add, B_sub, C_lt, C_le, C_gt, C_ge, C_eq, C_ne, C_eqs, C_nes, L_int, L_intb, L_abs, L_lenl, L_lent, L_lenf, L_tup, truU, List.getElem?_cons_succ, List.getElem?_cons_zero, List.set_cons_succ, List.set_cons_zero, List.map_cons, List.map_nil, List.cons_append, List.nil_append, List.replicate_succ, List.replicate_zero], _, _, e2 n _ a6, _, _, _, _, _, rfl, rfl⟩) vs.length 0 [some (.v (.fn 65)), some (.v (.lst vs)), none, none, none, none, none] [] (by omega) ⟨_, _, _, _, _, rfl, rfl⟩
  rw [call_eq (d := d_b_law_none_fits) rfl, runF_eq _ _ _ _ _ rfl]
  have hB : d_b_law_none_fits.body = (.cons (.fors (.tp (.cons (.nm 2) (.cons (.nm 3) (.cons (.nm 4) (.cons (.nm 5) .nil))))) (.val (.var 1)) b_law_none_fits_2) (.cons (.ret (.c (.bl true))) .nil)) := rfl
  rw [hB]
  simp only [show d_b_law_none_fits.ns = 7 from rfl, show d_b_law_none_fits.np = 2 from rfl, Nat.reduceSub]
  generalize b_law_none_fits_2 = lb at *
  simp only [e_s, e_t, e_var, e_c, e_gl, e_fn, e_bin, e_cmp, e_ch, e_nt, e_and, e_or, e_ife, e_tup, e_lst, e_neg, e_idx, e_slc, e_on, e_os, e_rev, e_nr, e_nil, e_cons, e_call, e_bi, e_isi, e_met, e_lc, r_v, r_r, i_v, i_r, i_l, t_ok, b1_ok, b2_ok, c1_ok, c2_ok, oB_ok, h1_ok, h2_ok, h3_t, h3_f, h4_ok, n1_ok, a1_ok, a2_t, a2_f, o1_ok, o2_t, o2_f, tr_v, tr_l, tr_r, ts_v, f1_t, f1_f, p1_ok, l1_ok, au_n, au_c, om_s, g1_ok, x1_ok, x2_ok, s1_ok, s2_ok, s3_ok, q1_ok, v1_ok, w1_n, w1_r, k1_ok, k2_ok, d1_ok, d2_ok, d3_ok, y1_ok, z1_ok, z2_ok, m1_ok, mG_ok, m2_ok, lc1_ok, lc2_ok, ofO_s, ofP_s, s_cons, s_nil, s_asg, s_ifs, s_for, s_ret, s_ex, g_nm, g_sub, S1_ok, nE_ok, N1_ok, R_ok, I1_t, I1_f, F1_ok, T1_ok, E1_ok, B0_ok, B1_ok, B2_ok, B3_ok, A_nx, A_rt, V_v, V_r, V_l, W_v, W_l, i_val, i_rng, i_enm, i_zip, iv_s, iv_l, iv_t, iv_f, ir_1, ir_2, ie_l, iz_1, iz_l, iz_t, t1_nm, t1_tp, ts_nil, ts_cons, k_none, k_some, B_add, B_sub, C_lt, C_le, C_gt, C_ge, C_eq, C_ne, C_eqs, C_nes, L_int, L_intb, L_abs, L_lenl, L_lent, L_lenf, L_tup, truU, List.getElem?_cons_succ, List.getElem?_cons_zero, List.set_cons_succ, List.set_cons_zero, List.map_cons, List.map_nil, List.cons_append, List.nil_append, List.replicate_succ, List.replicate_zero, e]
  rfl
def tailB : ISs := (.cons (.asg (.nm 2) (.idx (.call 62 (.cons (.c (.int 3)) (.cons (.c (.int 2)) .nil)) [] .nil) (.c (.int 0)))) (.cons (.asg (.nm 3) (.lst (.cons (.call 65 (.cons (.fn ⟨#[114, 111, 111, 116]⟩ 50) (.cons (.tup (.cons (.var 2) (.cons (.tup (.cons (.c (.int 0)) (.cons (.c (.int 0)) (.cons (.c (.int 0)) .nil)))) (.cons (.c (.int 0)) .nil)))) .nil)) [] .nil) (.cons (.call 65 (.cons (.fn ⟨#[114, 111, 111, 116]⟩ 50) (.cons (.tup (.cons (.var 2) (.cons (.tup (.cons (.c (.int 0)) (.cons (.c (.int 0)) (.cons (.c (.int 0)) .nil)))) (.cons (.c (.int 2)) .nil)))) .nil)) [] .nil) (.cons (.call 65 (.cons (.fn ⟨#[109, 117, 108, 116, 105, 112, 108, 105, 101, 100]⟩ 25) (.cons (.tup (.cons (.var 2) (.cons (.tup (.cons (.c (.int 2)) (.cons (.c (.int 0)) (.cons (.c (.int 0)) .nil)))) (.cons (.tup (.cons (.c (.int 0)) (.cons (.c (.int 0)) (.cons (.c (.int 0)) .nil)))) .nil)))) .nil)) [] .nil) .nil))))) (.cons (.asg (.nm 3) (.bin .add (.var 3) (.lst (.cons (.call 65 (.cons (.fn ⟨#[109, 117, 108, 116, 105, 112, 108, 105, 101, 100]⟩ 25) (.cons (.tup (.cons (.var 2) (.cons (.tup (.cons (.c (.int 1)) (.cons (.c (.int 1)) (.cons (.c (.int 1)) .nil)))) (.cons (.tup (.cons (.c (.int 0)) (.cons (.c (.int 0)) (.cons (.neg (.c (.int 1))) .nil)))) .nil)))) .nil)) [] .nil) .nil)))) (.cons (.ret (.call 57 (.cons (.var 3) (.cons (.lst (.cons (.lst (.cons (.c (.str ⟨#[117, 110, 102, 105, 116]⟩)) (.cons (.c (.bl true)) .nil))) (.cons (.lst (.cons (.c (.str ⟨#[99, 97, 110, 32, 110, 111, 116]⟩)) (.cons (.c (.bl true)) .nil))) (.cons (.lst (.cons (.c (.str ⟨#[117, 110, 102, 105, 116]⟩)) (.cons (.c (.bl true)) .nil))) (.cons (.lst (.cons (.c (.str ⟨#[117, 110, 102, 105, 116]⟩)) (.cons (.c (.bl true)) .nil))) .nil))))) .nil)) [] .nil)) .nil))))
theorem tail_ok (n : Nat) (h : Hs) (a0 a1 a2 a3 : Option S) : evSs (cc prog (n + 17)) 1000000 tailB [a0, a1, a2, a3] h = .rt (.v (.bl true)) h := by kernel_rfl
theorem law_ok (n : Nat) (ns : List Int) (hn : ns.length ≤ 63) : ∃ h, (cc prog (n + 18)).call 67 [.v (.frz (ns.map .int))] [] = .ok (.v (.bl true)) h := by
  obtain ⟨z, c1⟩ := cells_ok (n + 16) ns
  obtain ⟨xs, c2, T⟩ := box_ok (n + 16) z
  have d1 : doCall (cc prog (n + 17)) 55 [.v (.frz (ns.map .int)), .v (.int 1)] [] = .ok (.nw (.lst [.int z])) [] := doCall_vl (us := [.frz (ns.map .int), .int 1]) _ c1
  have d2 : doCall (cc prog (n + 17)) 53 [.v (.lst [.int z]), .v (.int 0)] [] = .ok (.nw (.lst xs)) [] := doCall_vl (us := [.lst [.int z], .int 0]) _ c2
  have d3 : doCall (cc prog (n + 17)) 66 [] [.lst xs] = .ok (.nw (.lst ROWS)) [.lst xs] := doCall_vl (us := []) _ (refusals_ok (n + 1))
  have hR : ROWS.length ≤ 1000 := by decide
  obtain ⟨vs, x2, d4, hv, hl, T2⟩ := pick_hd (n + 15) 0 (xs := xs) (us := ROWS) [] 99 T (by omega) hR (by decide) (by decide)
  have d5 : doCall (cc prog (n + 17)) 64 [.v (.fn 65), .v (.lst vs)] [.lst x2] = .ok (.v (.bl true)) [.lst x2] := doCall_v (us := [.fn 65, .lst vs]) _ (nf_ok n vs hv hl)
  have hB : d_b_law.body = .cons ((.asg (.nm 1) (.nr (.call 53 (.cons (.call 55 (.cons (.var 0) (.cons (.c (.int 1)) .nil)) [] .nil) (.cons (.c (.int 0)) .nil)) [] .nil)))) (.cons ((.ifs (.nt (.call 64 (.cons (.fn ⟨#[95, 108, 97, 119, 95, 104, 101, 97, 114, 100]⟩ 65) (.cons (.call 56 (.cons (.var 1) (.cons (.call 66 .nil [] .nil) (.cons (.c (.int 99)) .nil))) [] .nil) .nil)) [] .nil)) (.cons (.ret (.c (.bl false))) .nil) .nil)) tailB) := rfl
  have tk := tail_ok n [.lst x2] (some (.v (.frz (ns.map .int)))) (some (.r 0)) none none 
  rw [call_eq (d := d_b_law) rfl, runF_eq _ _ _ _ _ rfl, hB]
  simp only [show d_b_law.ns = 4 from rfl, show d_b_law.np = 1 from rfl, Nat.reduceSub]
  generalize tailB = tb at *
  generalize ROWS = RW at *
  have ar0 : argsOf (cc prog (n + 17)) 66 [] [] [] = some [] := by kernel_rfl
  have ar3 : ∀ a b c : S, argsOf (cc prog (n + 17)) 56 [a, b, c] [] [] = some [a, b, c] := fun a b c => by kernel_rfl
  simp only [e_s, e_t, e_var, e_c, e_gl, e_fn, e_bin, e_cmp, e_ch, e_nt, e_and, e_or, e_ife, e_tup, e_lst, e_neg, e_idx, e_slc, e_on, e_os, e_rev, e_nr, e_nil, e_cons, e_call, e_bi, e_isi, e_met, e_lc, r_v, r_r, i_v, i_r, i_l, t_ok, b1_ok, b2_ok, c1_ok, c2_ok, oB_ok, h1_ok, h2_ok, h3_t, h3_f, h4_ok, n1_ok, a1_ok, a2_t, a2_f, o1_ok, o2_t, o2_f, tr_v, tr_l, tr_r, ts_v, f1_t, f1_f, p1_ok, l1_ok, au_n, au_c, om_s, g1_ok, x1_ok, x2_ok, s1_ok, s2_ok, s3_ok, q1_ok, v1_ok, w1_n, w1_r, k1_ok, k2_ok, d1_ok, d2_ok, d3_ok, y1_ok, z1_ok, z2_ok, m1_ok, mG_ok, m2_ok, lc1_ok, lc2_ok, ofO_s, ofP_s, s_cons, s_nil, s_asg, s_ifs, s_for, s_ret, s_ex, g_nm, g_sub, S1_ok, nE_ok, N1_ok, R_ok, I1_t, I1_f, F1_ok, T1_ok, E1_ok, B0_ok, B1_ok, B2_ok, B3_ok, A_nx, A_rt, V_v, V_r, V_l, W_v, W_l, i_val, i_rng, i_enm, i_zip, iv_s, iv_l, iv_t, iv_f, ir_1, ir_2, ie_l, iz_1, iz_l, iz_t, t1_nm, t1_tp, ts_nil, ts_cons, k_none, k_some, B_add, B_sub, C_lt, C_le, C_gt, C_ge, C_eq, C_ne, C_eqs, C_nes, L_int, L_intb, L_abs, L_lenl, L_lent, L_lenf, L_tup, truU, List.getElem?_cons_succ, List.getElem?_cons_zero, List.set_cons_succ, List.set_cons_zero, List.map_cons, List.map_nil, List.cons_append, List.nil_append, List.replicate_succ, List.replicate_zero, ar2 55 _ _ _ rfl rfl, d1, ar2 53 _ _ _ rfl rfl, d2, List.length_nil, ar0, d3, ar3, d4, ar2 64 _ _ _ rfl rfl, d5, Bool.not_true, tk]
  exact ⟨_, rfl⟩
end VM

theorem PySem.Challenge.cw_collectedwords_k26_whole_refused_members_holds : PySem.Challenge.rw_collectedwords_k26_whole_refused_members.Holds := by
  exact VM.law_join (lv := 20) ⟨rfl, by decide, by decide⟩ fun ns hn => VM.law_ok 2 ns hn
